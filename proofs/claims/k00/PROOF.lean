import PyProof.Rows.All
import PySem.Challenge.RW_racebooks_k00_errors
import HandS.List
import PyProof.ReprReads
import HandS.Words
import KE.KExcInit
import HandS.ExcField
import HandS.ExcOwn
import HandS.Exc
import Wide.All
import OpenK.AllK
import Wide.FinOn
import KE.KStateDown
import HandS.Head0
import HandS.Head1
import HandS.Head2
import HandS.HeadEnd
import HandS.HeadHook1
import HandS.HeadHook2
import HandS.ForMost
import HandS.Wide
import HandS.TupAny
import HandS.TupMul
import HandS.Deep
import HandS.Style
import HandS.Star
import HandS.Conv
import HandS.Gcd
import PyProof.ReprRoads
import HandS.IsInst
import HandS.FStr
import HandS.NoneIn
import HandS.Dict
import HandS.ExcCtx
import HandS.Property
import HandS.MakeKwOnly
import KE.KRevSl
import HandS.SortRule
import HandS.SortInts
import HandS.TupLe
import HandS.Walk
import HandS.Zip
import HandS.TryOnly
import KE.GoesZip
import KE.GoesMore
import HandS.ExcSuper
import HandS.TryMany
import HandS.ExcIs
import HandS.Text
import HandS.Replace
import HandS.Iter
import PyProof.MeetsStr3
import HandS.HotCalls
import HandS.Defaults
import HandS.EndBits
import PyProof.NoPylong
import HandS.Head3
set_option Elab.async false
set_option linter.all false
set_option maxRecDepth 100000
set_option maxHeartbeats 0
/-! RbSem: a small language of the program's constructs, its plain data and its meaning as a Lean function. Own work. -/
noncomputable section
namespace Rb
open PySem

/-- plain data: tuples and frozen lists by value, list cells and objects by number -/
inductive D where
  | non | bl (b : Bool) | int (i : Int) | str (s : Str)
  | tup (l : List D) | lst (l : List D)
  | cel (r : Nat) | ins (c : Nat) (fs : List D) | exn (c : Nat) (v : D)
  /-- a list that is read alone: the script -/
  | ro (l : List D)
  deriving Inhabited

mutual
/-- the same data -/
def D.beq : D → D → Bool
  | .non, y => match y with | .non => true | _ => false
  | .bl b, y => match y with | .bl c => b == c | _ => false
  | .int i, y => match y with | .int j => decide (i = j) | _ => false
  | .str s, y => match y with | .str r => decide (s = r) | _ => false
  | .tup l, y => match y with | .tup m => D.beqs l m | _ => false
  | .lst l, y => match y with | .lst m => D.beqs l m | _ => false
  | .ro l, y => match y with | .ro m => D.beqs l m | _ => false
  | .cel r, y => match y with | .cel q => decide (r = q) | _ => false
  | .ins c l, y => match y with | .ins k m => decide (c = k) && D.beqs l m | _ => false
  | .exn c v, y => match y with | .exn k w => decide (c = k) && D.beq v w | _ => false
def D.beqs : List D → List D → Bool
  | [], m => match m with | [] => true | _ => false
  | x :: l, m => match m with | y :: m => D.beq x y && D.beqs l m | [] => false
end
mutual
theorem D.beq_iff : ∀ {a b : D}, D.beq a b = true ↔ a = b
  | .non, y => by cases y <;> simp [D.beq]
  | .bl b, y => by cases y <;> simp [D.beq]
  | .int i, y => by cases y <;> simp [D.beq]
  | .str s, y => by cases y <;> simp [D.beq]
  | .tup l, y => by cases y <;> simp [D.beq, D.beqs_iff (a := l)]
  | .lst l, y => by cases y <;> simp [D.beq, D.beqs_iff (a := l)]
  | .ro l, y => by cases y <;> simp [D.beq, D.beqs_iff (a := l)]
  | .cel r, y => by cases y <;> simp [D.beq]
  | .ins c l, y => by cases y <;> simp [D.beq, D.beqs_iff (a := l)]
  | .exn c v, y => by cases y <;> simp [D.beq, D.beq_iff (a := v)]
theorem D.beqs_iff : ∀ {a b : List D}, D.beqs a b = true ↔ a = b
  | [], m => by cases m <;> simp [D.beqs]
  | x :: l, m => by cases m <;> simp [D.beqs, D.beq_iff (a := x), D.beqs_iff (a := l)]
end
instance instDecD : DecidableEq D := fun _ _ => decidable_of_iff _ D.beq_iff

inductive Cell where
  | lst (l : List D)
  | obj (c : Nat) (fs : List (Str × D))
  | dct (kvs : List (Str × D))
  deriving DecidableEq
abbrev Sto := List Cell

/-- a local name: without a value, with one, or with a list of its own -/
inductive Slot where
  | un | val (d : D) | own (l : List D)
abbrev Env := List Slot

inductive Res (α : Type) where
  | ok (a : α) (M : Sto) | exc (c : Nat) (v : D) (M : Sto) | stuck

def Res.bind {α β : Type} (x : Res α) (f : α → Sto → Res β) : Res β :=
  match x with
  | .ok a M => f a M
  | .exc c v M => .exc c v M
  | .stuck => .stuck

mutual
def D.py : D → Option PyData
  | .non => some .none
  | .bl b => some (.bool b)
  | .int i => some (.int i)
  | .str s => some (.str s)
  | .tup l => (D.pys l).map .tuple
  | .lst l => (D.pys l).map .list
  | .cel _ => none
  | .ins _ _ => none
  | .exn _ _ => none
  | .ro _ => none
def D.pys : List D → Option (List PyData)
  | [] => some []
  | d :: l => (D.py d).bind fun p => (D.pys l).map fun q => p :: q
end
def eqO (a b : D) : Option Bool :=
  match a.py, b.py with
  | some p, some q => if SeqAt.shaped p && SeqAt.shaped q then some (PyData.eqv p q) else none
  | _, _ => none

/-- a sequence as repr shows it -/
def isSeqP : PyData → Bool
  | .list _ => true
  | .tuple _ => true
  | _ => false
def reprO (x : D) : Option Str := match x.py with
  | some p => if isSeqP p = true ∧ p.showable = true ∧ p.hasDict = false ∧ p.depth ≤ 40 ∧ p.shown.length ≤ 16777216 then some p.shown else none
  | none => none

inductive BOp where | add | sub | mul | fdv | mod | pow
inductive COp where | eq | ne | lt | le | gt | ge | isin | notin | eqp
inductive Ty where | int | bool | str | tuple | list | cls (c : Nat) | exc (n : String)

inductive Tgt where
  | nm (i : Nat) | tup (l : List Nat)

mutual
inductive P where
  /-- a local name; one that has a list of its own, read -/
  | nm (i : Nat) | bor (i : Nat)
  | cst (d : D)
  /-- a constant of the module -/
  | glo (g : Nat)
  | bin (o : BOp) (a b : P)
  /-- list + list, either read -/
  | cat (a b : P)
  | cmp (o : COp) (a b : P) | chn (o1 o2 : COp) (a b c : P)
  | isn (neg : Bool) (a : P) | isb (neg : Bool) (a : P) (b : Bool)
  | and_ (a b : P) | or_ (a b : P) | not_ (a : P) | neg (a : P)
  | ite (c a b : P)
  | call (f : Nat) (args : List P) | callk (f : Nat) (args : List P)
  | new (c : Nat) (args : List P) | newk (c : Nat) (args : List P) | newo (c : Nat) (args : List P)
  | meth (c : Nat) (o : P) (m : Nat) (args : List P) | prop (c : Nat) (o : P) (m : Nat)
  | att (c : Nat) (o : P) (f : Str) | exat (i : Nat) (f : Str)
  | len (a : P) | tupl (a : P) | list (a : P) | sum (a : P) | all (a : P) | any (a : P) | srt (a : P) | mins (a : P)
  | min2 (a b : P) | max2 (a b : P) | int_ (a : P) | abs (a : P) | str_ (a : P) | gcd (a b : P) | repr (a : P)
  | lrng (a : P) | trng (a : P)
  | isi (a : P) (ts : List Ty)
  | join (s a : P) | split (s a : P) | part (s a : P) | rep1 (i : Nat) (a b : Str)
  | ix (o i : P) | dget (o k : P) | din (neg : Bool) (k o : P) | slf (o a : P) | slt (o b : P) | rev (o : P)
  | tup (l : List P) | lst (l : List P) | star (a : P)
  | comp (e : P) (t : Tgt) (s : Src) (c : Option P)
  | comp2 (e : P) (t : Tgt) (s : Src) (t2 : Tgt) (s2 : Src)
  | fstr (l : List P)
  /-- a new list as a cell; a new dictionary -/
  | newc (e : P) | newd
  /-- a static method -/
  | stat (c f : Nat) (args : List P)
inductive Src where
  | seq (a : P) | rg1 (a : P) | rg2 (a b : P) | enm (a : P) | zp (a b : P)
  /-- a text, sign by sign -/
  | sgn (a : P)
end

inductive S where
  | asg (t : Tgt) (e : P)
  | own (i : Nat) (e : P)
  | frz (i : Nat)
  | app (i : Nat) (e : P) | ext (i : Nat) (e : P) | seti (i : Nat) (ix e : P) | pop (i : Nat) (e : P)
  /-- o.append(e), o[ix] = e of a cell -/
  | capp (o e : P) | cset (o ix e : P) | dput (o k e : P)
  /-- o1[i1], o2[i2] = a pair -/
  | swp (o1 i1 o2 i2 x : P)
  | setf (o : P) (f : Str) (e : P)
  | exp (e : P)
  | ife (c : P) (a b : List S)
  | for_ (t : Tgt) (s : Src) (b : List S)
  | whl (c : P) (b : List S)
  | ret (e : P) | brk | cnt | pass
  | rai (c : Nat) (e : P)
  | try_ (b : List S) (hs : List (Nat × Option Nat × List S))
  /-- a clause's whole suite: the caught error's class asked for, at a row of classes by a number; a def's call -/
  | xsu (i kd vl ow kk g : Nat) (cs : List Nat)
  /-- any statement: never reached -/
  | bad

/-- a def: its name, its parameters, its names by slot, its body; whether the claim's caller alone calls it -/
structure FD where
  name : String
  ps : List String
  N : List String
  body : List S
  top : Bool

/-- the program's tables -/
structure Tb where
  fn : Nat → Option FD
  /-- a module's constants -/
  glo : Nat → Option D
  /-- a class: its __init__, what its missing arguments are, its fields; its __eq__; an error class: its field and its base -/
  init : Nat → Option Nat
  dfl : Nat → List D
  flds : Nat → List Str
  eqf : Nat → Option Nat
  efld : Nat → Option Str
  base : Nat → Option Nat
  /-- names: classes, constants; the defs that keywords call -/
  cname : Nat → String
  gname : Nat → String
  kw : Nat → Bool
  /-- defs of the module; methods and properties of a class -/
  isGl : Nat → Bool
  meth : Nat → Nat → Bool
  prp : Nat → Nat → Bool
  /-- a static method's class -/
  stt : Nat → Option Nat
  /-- a class that an except clause may name -/
  isE : Nat → Bool
  /-- a def that a clause may call -/
  hot : Nat → Bool
  /-- errors asked for their classes -/
  xk : Bool

def lim : Nat := 16777216
def mulOk (a b : Int) : Bool := decide (a.natAbs.log2 + b.natAbs.log2 < 1000000) || decide (a.natAbs < 2 ^ 64) || decide (b.natAbs < 2 ^ 64)
def divOk (a b : Int) : Bool := decide (b ≠ 0) && !Builtin.divisionGoesByPylong a b
def repL {α : Type} (l : List α) (k : Nat) : List α := (List.replicate k l).flatten
def binD : BOp → D → D → Option D
  | .add, .int a, .int b => some (.int (a + b))
  | .add, .str a, .str b => if a.length + b.length ≤ lim then some (.str (a ++ b)) else none
  | .add, .tup a, .tup b => if a.length + b.length ≤ lim then some (.tup (a ++ b)) else none
  | .add, .lst a, .lst b => if a.length + b.length ≤ lim then some (.lst (a ++ b)) else none
  | .sub, .int a, .int b => some (.int (a - b))
  | .mul, .int a, .int b => if mulOk a b then some (.int (a * b)) else none
  | .mul, .tup l, .int k => if 1 ≤ k ∧ k ≤ 1000 ∧ l ≠ [] ∧ l.length ≤ 1000 then some (.tup (repL l k.toNat)) else none
  | .mul, .lst l, .int k => if 0 ≤ k ∧ k ≤ 1000 ∧ l.length * k.toNat ≤ lim then some (.lst (repL l k.toNat)) else none
  | .fdv, .int a, .int b => if divOk a b then some (.int (a.fdiv b)) else none
  | .mod, .int a, .int b => if b ≠ 0 then some (.int (a.fmod b)) else none
  | .pow, .int a, .int b => if 0 ≤ b ∧ b ≤ 1000000 ∧ a.natAbs < 2 ^ 64 then some (.int (a ^ b.toNat)) else none
  | _, _, _ => none
def seqD : D → Sto → Option (List D)
  | .tup l, _ => some l
  | .lst l, _ => some l
  | .cel r, M => match M[r]? with | some (.lst l) => some l | _ => none
  | _, _ => none
def strHas (a b : Str) : Bool := !(Builtin.Str.occurrences b a 0 b.length 1).isEmpty
/-- the first of these that is equal, as `in` asks: none where a comparison is not told -/
def inO (x : D) (l : List D) : Option Bool :=
  match x.py, D.pys l with
  | some p, some q => if SeqAt.shaped p && SeqAt.shaped (.list q) then some (q.any fun z => PyData.eqv z p) else none
  | _, _ => none
def atD {α : Type} (l : List α) (i : Int) : Option α := L2.atI l i
def cutD {α : Type} (l : List α) (lo hi : Option Int) : List α := (l.drop (HT.sIx l.length 0 lo)).take (HT.sIx l.length l.length hi - HT.sIx l.length 0 lo)
def cutStr (s : Str) (lo hi : Option Int) : Str := ⟨(cutD s.cps.toList lo hi).toArray⟩
def lookF (f : Str) : List (Str × D) → Option D
  | [] => none
  | (g, d) :: r => if f = g then some d else lookF f r
def putF (f : Str) (d : D) : List (Str × D) → List (Str × D)
  | [] => [(f, d)]
  | (g, e) :: r => if f = g then (g, d) :: r else (g, e) :: putF f d r
def blsD : List D → Option (List Bool)
  | [] => some []
  | .bl b :: r => (blsD r).map fun l => b :: l
  | _ :: _ => none
def intsD : List D → Option (List Int)
  | [] => some []
  | .int i :: r => (intsD r).map fun l => i :: l
  | _ :: _ => none
def strsD : List D → Option (List Str)
  | [] => some []
  | .str i :: r => (strsD r).map fun l => i :: l
  | _ :: _ => none
def Env.set (e : Env) (i : Nat) (d : D) : Option Env := if i < e.length then some (List.set e i (.val d)) else none
def Env.sets : List Nat → List D → Env → Option Env
  | [], [], e => some e
  | i :: is, d :: ds, e => (e.set i d).bind fun e' => Env.sets is ds e'
  | _, _, _ => none
def Tgt.ix : Tgt → List Nat
  | .nm i => [i]
  | .tup l => l
/-- names without a value -/
def Env.uns (e : Env) : List Nat → Env
  | [] => e
  | i :: l => List.set (Env.uns e l) i .un
/-- lists of their own forgotten -/
def Env.noOwn (e : Env) : Env := e.map fun s => match s with | .own _ => .un | s => s
def bindT : Tgt → D → Env → Option Env
  | .nm i, d, e => e.set i d
  | .tup is, .tup ds, e => Env.sets is ds e
  | .tup is, .lst ds, e => Env.sets is ds e
  | _, _, _ => none
/-- what a walk leans on: cells that must stay as they are -/
abbrev Grd := List (Nat × List D)
def Grd.ok (g : Grd) (M : Sto) : Prop := ∀ p ∈ g, M[p.1]? = some (.lst p.2)
instance instDecG (g : Grd) (M : Sto) : Decidable (Grd.ok g M) := inferInstanceAs (Decidable (∀ p ∈ g, M[p.1]? = some (.lst p.2)))

/-! the order of sorted: ints; tuples of groups of ints -/
def lexL {α : Type} [DecidableEq α] (lt : α → α → Bool) : List α → List α → Bool
  | [], [] => false
  | [], _ :: _ => true
  | _ :: _, [] => false
  | x :: xs, y :: ys => if x = y then lexL lt xs ys else lt x y
def ltI (x y : Int) : Bool := decide (x < y)
def ltL : List Int → List Int → Bool := lexL ltI
def ltG : List (List Int) → List (List Int) → Bool := lexL ltL
def insK {α : Type} (lt : α → α → Bool) (x : α) : List α → List α
  | [] => [x]
  | y :: r => if lt y x = true then y :: insK lt x r else x :: y :: r
def srtK {α : Type} (lt : α → α → Bool) : List α → List α
  | [] => []
  | x :: r => insK lt x (srtK lt r)
def iD (ns : List Int) : D := .tup (ns.map .int)
def gD (k : List (List Int)) : D := .tup (k.map iD)
def iK : D → Option (List Int)
  | .tup l => intsD l
  | _ => none
def iKs : List D → Option (List (List Int))
  | [] => some []
  | x :: r => (iK x).bind fun a => (iKs r).map fun b => a :: b
def gK : D → Option (List (List Int))
  | .tup l => iKs l
  | _ => none
def gKs : List D → Option (List (List (List Int)))
  | [] => some []
  | x :: r => (gK x).bind fun a => (gKs r).map fun b => a :: b
def srtO (l : List D) : Option (List D) :=
  match intsD l with
  | some ns => some ((srtK ltI ns).map .int)
  | none => (gKs l).bind fun ks => if ks.all (fun k => !k.isEmpty) then some ((srtK ltG ks).map gD) else none

def oR {α : Type} (o : Option α) (M : Sto) : Res α := match o with | some a => .ok a M | none => .stuck
abbrev CallT := Nat → List D → Sto → Res D

mutual
/-- no cell within -/
def D.noC : D → Bool
  | .tup l => D.noCs l
  | .lst l => D.noCs l
  | .ro l => D.noCs l
  | .ins _ l => D.noCs l
  | .cel _ => false
  | .exn _ _ => false
  | .non => true
  | .bl _ => true
  | .int _ => true
  | .str _ => true
def D.noCs : List D → Bool
  | [] => true
  | x :: l => D.noC x && D.noCs l
end
/-- a new frozen instance: __init__ upon a cell, which then goes -/
def newIns (T : Tb) (C : CallT) (c : Nat) (args : List D) (M : Sto) : Res D :=
  match T.init c with
  | none => .stuck
  | some f => (C f (.cel M.length :: args) (M ++ [.obj c []])).bind fun v M' =>
    match v, M'[M.length]? with
    | .non, some (.obj c' fs) => if c' = c ∧ M' = M ++ [.obj c fs] ∧ fs.map (·.1) = T.flds c ∧ D.noCs (fs.map (·.2)) = true then .ok (.ins c (fs.map (·.2))) M else .stuck
    | _, _ => .stuck
def newObj (T : Tb) (C : CallT) (c : Nat) (args : List D) (M : Sto) : Res D :=
  match T.init c with
  | none => .stuck
  | some f => (C f (.cel M.length :: args) (M ++ [.obj c []])).bind fun v M' =>
    match v with
    | .non => .ok (.cel M.length) M'
    | _ => .stuck
def objD (T : Tb) (d : D) (M : Sto) : Option (Nat × List (Str × D)) :=
  match d with
  | .ins c fs => some (c, (T.flds c).zip fs)
  | .cel r => match M[r]? with | some (.obj c fs) => some (c, fs) | _ => none
  | _ => none
def attD (T : Tb) (c : Nat) (d : D) (f : Str) (M : Sto) : Option D := (objD T d M).bind fun x => if x.1 = c then lookF f x.2 else none
/-- an object of the class that has no attribute of that name -/
def isObj (T : Tb) (c : Nat) (d : D) (f : Str) (M : Sto) : Bool :=
  match objD T d M with
  | some x => decide (x.1 = c) && (lookF f x.2).isNone
  | none => false
def mName (T : Tb) (m : Nat) : Str := match T.fn m with | some fd => Str.ofString fd.name | none => Str.empty
def tyD (T : Tb) (d : D) (M : Sto) (t : Ty) : Option Bool :=
  match d with
  | .non => some false
  | .bl _ => match t with | .int => some true | .bool => some true | _ => some false
  | .int _ => match t with | .int => some true | _ => some false
  | .str _ => match t with | .str => some true | _ => some false
  | .tup _ => match t with | .tuple => some true | _ => some false
  | .lst _ => match t with | .list => some true | _ => some false
  | .cel r => match M[r]? with | some (.lst _) => (match t with | .list => some true | _ => some false) | _ => none
  | .ins c _ => if (T.init c).isSome then (match t with | .cls c' => some (decide (c = c')) | .exc _ => none | _ => some false) else none
  | .exn _ _ => none
  | .ro _ => none
def isiD (T : Tb) (d : D) (M : Sto) : List Ty → Option Bool
  | [] => some false
  | t :: r => (tyD T d M t).bind fun b => if b then some true else isiD T d M r
/-- what an own == is asked of -/
def eqR (T : Tb) (b : D) : Bool := match b with | .non => true | .tup _ => true | .ins c _ => (T.init c).isSome | _ => false
def cmpD (T : Tb) (C : CallT) (o : COp) (a b : D) (M : Sto) : Res D :=
  match o with
  | .eq => match a with
    | .ins c _ => match T.eqf c with | some f => (if eqR T b then (match C f [a, b] M with | .ok (.bl r) M1 => .ok (.bl r) M1 | _ => .stuck) else .stuck) | none => .stuck
    | _ => oR ((eqO a b).map .bl) M
  | .ne => oR ((eqO a b).map fun r => .bl !r) M
  | .lt => match a, b with | .int i, .int j => .ok (.bl (decide (i < j))) M | _, _ => .stuck
  | .le => match a, b with | .int i, .int j => .ok (.bl (decide (i ≤ j))) M | _, _ => .stuck
  | .gt => match a, b with | .int i, .int j => .ok (.bl (decide (j < i))) M | _, _ => .stuck
  | .ge => match a, b with | .int i, .int j => .ok (.bl (decide (j ≤ i))) M | _, _ => .stuck
  | .isin => .stuck
  | .notin => .stuck
  | .eqp => oR ((eqO a b).map .bl) M
/-- walks: each item in turn, what is made gathered -/
def compGo (f : D → Sto → Res (Option D)) (g : Grd) : List D → Sto → Res (List D)
  | [], M => if g.ok M then .ok [] M else .stuck
  | d :: ds, M => if g.ok M then (f d M).bind fun o M1 => (compGo f g ds M1).bind fun l M2 => .ok (match o with | some x => x :: l | none => l) M2 else .stuck
def comp2Go (f : D → Sto → Res (List D)) (g : Grd) : List D → Sto → Res (List D)
  | [], M => if g.ok M then .ok [] M else .stuck
  | d :: ds, M => if g.ok M then (f d M).bind fun x M1 => (comp2Go f g ds M1).bind fun l M2 => .ok (x ++ l) M2 else .stuck
/-- an exception does not leave a comprehension -/
def noExc {α : Type} : Res α → Res α
  | .exc _ _ _ => .stuck
  | r => r
def rngL (lo : Int) (n : Nat) : List D := (List.range n).map fun (i : Nat) => .int (lo + i)
/-- a list's items -/
def lstO (x : Grd × Bool × List D) : Option (List D) := if x.2.1 = true then none else some x.2.2
def grdOf (d : D) (l : List D) : Grd := match d with | .cel r => [(r, l)] | _ => []
def enumL (l : List D) : List D := l.zipIdx.map fun p => .tup [.int (p.2 : Nat), p.1]
def zipL (a b : List D) : List D := (a.zip b).map fun p => .tup [p.1, p.2]
def small (i : Int) : Bool := decide (-(2 ^ 62) ≤ i) && decide (i < 2 ^ 62)
def strTy (d : D) : Option Str := match d with | .str s => if s.length ≤ lim then some s else none | .int i => if i.natAbs.log2 < 1920 then some (toString i) else none | _ => none
/-- a text's signs -/
def signsD (z : Str) : List D := z.cps.toList.map fun c => .str ⟨#[c]⟩
/-- the first place where y stands in x, exchanged -/
def rep1S (x y z : Str) : Str := if (Builtin.Str.occurrences x y 0 x.length 1).isEmpty then x else Builtin.Str.glued z (Builtin.Str.partsBetween x (Builtin.Str.occurrences x y 0 x.length 1) y.length)

/-- a sequence that is read: the cell that it leans on, whether it is a tuple, its items; r: what the place is worth -/
def qOf (p : P) (e : Env) (M : Sto) (r : Res D) : Res (Grd × Bool × List D) :=
  match p with
  | .bor i => match e[i]? with | some (.own l) => .ok ([], false, l) M | _ => .stuck
  | _ => r.bind fun d M1 => oR ((seqD d M1).map fun l => (grdOf d l, (match d with | .tup _ => true | _ => false), l)) M1
def lenD (x : D) (M : Sto) : Option Nat :=
  match x with
  | .str s => if s.length ≤ lim then some s.length else none
  | y => (seqD y M).map List.length
/-- what an index or a slice is asked of: a name's own list, or a value -/
def opOf (p : P) (e : Env) (M : Sto) (r : Res D) : Res (Bool × D) :=
  match p with
  | .bor i => match e[i]? with | some (.own l) => .ok (true, .lst l) M | _ => .stuck
  | _ => r.bind fun d M1 => .ok (false, d) M1
def ixD (x i : D) (M : Sto) : Option D :=
  match i with
  | .int k => match x with
    | .tup l => atD l k
    | .lst l => atD l k
    | .ro l => atD l k
    | .str s => if s.length ≤ lim then (atD s.cps.toList k).map fun c => .str ⟨#[c]⟩ else none
    | .cel r => match M[r]? with | some (.lst l) => atD l k | _ => none
    | _ => none
  | _ => none
def slD (x : D) (lo hi : Option Int) (M : Sto) : Option D :=
  match x with
  | .tup l => some (.tup (cutD l lo hi))
  | .lst l => some (.lst (cutD l lo hi))
  | .ro l => some (.lst (cutD l lo hi))
  | .str s => if s.length ≤ lim then some (.str (cutStr s lo hi)) else none
  | .cel r => match M[r]? with | some (.lst l) => some (.lst (cutD l lo hi)) | _ => none
  | _ => none
/-- x in .. : a text in a text, data in a sequence -/
def inD (x : D) (y : (Bool × D)) (M : Sto) : Option Bool :=
  match x, y.2 with
  | .str z, .str s => some (strHas z s)
  | .str f, .cel r => (match M[r]? with | some (.dct kvs) => some (lookF f kvs).isSome | some (.lst l) => inO (.str f) l | _ => none)
  | x, y => (seqD y M).bind fun l => inO x l

section
variable (T : Tb) (C : CallT)
mutual
def ev : P → Env → Sto → Res D
  | .nm i, e, M => match e[i]? with | some (.val (.exn _ _)) => .stuck | some (.val d) => .ok d M | _ => .stuck
  | .bor _, _, _ => .stuck
  | .cst d, _, M => .ok d M
  | .glo g, _, M => oR (T.glo g) M
  | .bin o a b, e, M => (ev a e M).bind fun x M1 => (ev b e M1).bind fun y M2 => oR (binD o x y) M2
  | .cat a b, e, M => (qOf a e M (ev a e M)).bind fun x M1 => (qOf b e M1 (ev b e M1)).bind fun y M2 => if x.2.1 = false ∧ y.2.1 = false ∧ x.1 = [] ∧ x.2.2.length + y.2.2.length ≤ lim then .ok (.lst (x.2.2 ++ y.2.2)) M2 else .stuck
  | .cmp o a b, e, M => match o with
    | .isin => (ev a e M).bind fun x M1 => (opOf b e M1 (ev b e M1)).bind fun y M2 => oR ((inD x y M2).map .bl) M2
    | .notin => (ev a e M).bind fun x M1 => (opOf b e M1 (ev b e M1)).bind fun y M2 => oR ((inD x y M2).map fun r => .bl !r) M2
    | o => (ev a e M).bind fun x M1 => (ev b e M1).bind fun y M2 => cmpD T C o x y M2
  | .chn o1 o2 a b c, e, M => (ev a e M).bind fun x M1 => (ev b e M1).bind fun y M2 => (cmpD T C o1 x y M2).bind fun r M3 =>
    match r with
    | .bl true => (ev c e M3).bind fun z M4 => cmpD T C o2 y z M4
    | .bl false => .ok (.bl false) M3
    | _ => .stuck
  | .isn neg a, e, M => (ev a e M).bind fun x M1 => match x with | .non => .ok (.bl !neg) M1 | _ => .ok (.bl neg) M1
  | .isb neg a b, e, M => (ev a e M).bind fun x M1 => match x with | .bl c => .ok (.bl ((c == b) != neg)) M1 | _ => .stuck
  | .and_ a b, e, M => (ev a e M).bind fun x M1 => match x with | .bl true => ev b e M1 | .bl false => .ok (.bl false) M1 | _ => .stuck
  | .or_ a b, e, M => (ev a e M).bind fun x M1 => match x with | .bl false => ev b e M1 | .bl true => .ok (.bl true) M1 | _ => .stuck
  | .not_ a, e, M => (ev a e M).bind fun x M1 => match x with | .bl b => .ok (.bl !b) M1 | _ => .stuck
  | .neg a, e, M => (ev a e M).bind fun x M1 => match x with | .int i => .ok (.int (-i)) M1 | _ => .stuck
  | .ite c a b, e, M => (ev c e M).bind fun x M1 => match x with | .bl true => ev a e M1 | .bl false => ev b e M1 | _ => .stuck
  | .call f args, e, M => (evs args e M).bind fun l M1 => C f l M1
  | .callk f args, e, M => (evs args e M).bind fun l M1 => C f l M1
  | .new c args, e, M => (evs args e M).bind fun l M1 => if (T.dfl c).isEmpty || !l.isEmpty then newIns T C c (l ++ (T.dfl c).drop l.length) M1 else .stuck
  | .newk c args, e, M => (evs args e M).bind fun l M1 => newIns T C c l M1
  | .newo c args, e, M => (evs args e M).bind fun l M1 => if (T.dfl c).isEmpty then newObj T C c l M1 else .stuck
  | .meth c o m args, e, M => (ev o e M).bind fun x M1 => if isObj T c x (mName T m) M1 then (evs args e M1).bind fun l M2 => C m (x :: l) M2 else .stuck
  | .prop c o m, e, M => (ev o e M).bind fun x M1 => if isObj T c x (mName T m) M1 then noExc (C m [x] M1) else .stuck
  | .att c o f, e, M => (ev o e M).bind fun x M1 => oR (attD T c x f M1) M1
  | .exat i f, e, M => match e[i]? with | some (.val (.exn c v)) => if T.efld c = some f then .ok v M else .stuck | _ => .stuck
  | .len a, e, M => (opOf a e M (ev a e M)).bind fun x M1 => oR ((lenD x.2 M1).map fun (n : Nat) => D.int (n : Int)) M1
  | .tupl a, e, M => (qOf a e M (ev a e M)).bind fun x M1 => if x.2.2.length ≤ lim then .ok (.tup x.2.2) M1 else .stuck
  | .list a, e, M => (qOf a e M (ev a e M)).bind fun x M1 => if x.2.2.length ≤ lim then .ok (.lst x.2.2) M1 else .stuck
  | .sum a, e, M => (qOf a e M (ev a e M)).bind fun x M1 => oR ((intsD x.2.2).map fun l => .int l.sum) M1
  | .all a, e, M => (qOf a e M (ev a e M)).bind fun x M1 => oR (((lstO x).bind blsD).map fun l => .bl (l.all id)) M1
  | .any a, e, M => (qOf a e M (ev a e M)).bind fun x M1 => oR (((lstO x).bind blsD).map fun l => .bl (l.any id)) M1
  | .srt a, e, M => (qOf a e M (ev a e M)).bind fun x M1 => oR ((srtO x.2.2).map .lst) M1
  | .mins a, e, M => (qOf a e M (ev a e M)).bind fun x M1 => oR (((lstO x).bind intsD).bind fun l => l.min?.map .int) M1
  | .min2 a b, e, M => (ev a e M).bind fun x M1 => (ev b e M1).bind fun y M2 => match x, y with | .int i, .int j => .ok (.int (if j < i then j else i)) M2 | _, _ => .stuck
  | .max2 a b, e, M => (ev a e M).bind fun x M1 => (ev b e M1).bind fun y M2 => match x, y with | .int i, .int j => .ok (.int (if j > i then j else i)) M2 | _, _ => .stuck
  | .int_ a, e, M => (ev a e M).bind fun x M1 => match x with
    | .int i => .ok (.int i) M1
    | .str s => oR ((intText? s).bind fun n => if s.length ≤ 640 then some (.int n) else none) M1
    | _ => .stuck
  | .abs a, e, M => (ev a e M).bind fun x M1 => match x with | .int i => .ok (.int (if i < 0 then -i else i)) M1 | _ => .stuck
  | .str_ a, e, M => (ev a e M).bind fun x M1 => match x with | .int i => if i.natAbs.log2 < 1920 then .ok (.str (toString i)) M1 else .stuck | _ => .stuck
  | .gcd a b, e, M => (ev a e M).bind fun x M1 => (ev b e M1).bind fun y M2 => match x, y with | .int i, .int j => .ok (.int ((Nat.gcd i.natAbs j.natAbs : Nat) : Int)) M2 | _, _ => .stuck
  | .repr a, e, M => (ev a e M).bind fun x M1 => oR ((reprO x).map .str) M1
  | .lrng a, e, M => (ev a e M).bind fun x M1 => match x with | .int i => if 0 ≤ i ∧ i ≤ 100000 then .ok (.lst (rngL 0 i.toNat)) M1 else .stuck | _ => .stuck
  | .trng a, e, M => (ev a e M).bind fun x M1 => match x with | .int i => if 0 ≤ i ∧ i ≤ 100000 then .ok (.tup (rngL 0 i.toNat)) M1 else .stuck | _ => .stuck
  | .isi a ts, e, M => (ev a e M).bind fun x M1 => oR ((isiD T x M1 ts).map .bl) M1
  | .join s a, e, M => (ev s e M).bind fun x M1 => match x with
    | .str z => (qOf a e M1 (ev a e M1)).bind fun y M2 => match strsD y.2.2 with
      | some l => if (l.map (·.length)).sum + l.length * z.length ≤ lim then .ok (.str (Txt.join z l)) M2 else .stuck
      | none => .stuck
    | _ => .stuck
  | .split s a, e, M => (ev s e M).bind fun x M1 => match x with
    | .str z => (ev a e M1).bind fun y M2 => (match y with
      | .str p => if (p.length == 0) = false ∧ z.length + 2 ≤ lim then .ok (.lst ((Txt.split z p).map .str)) M2 else .stuck
      | _ => .stuck)
    | _ => .stuck
  | .part s a, e, M => (ev s e M).bind fun x M1 => match x with
    | .str z => (ev a e M1).bind fun y M2 => (match y with
      | .str p => if (p.length == 0) = false ∧ z.length ≤ lim then .ok (.tup [.str (Txt.partition z p).1, .str (Txt.partition z p).2.1, .str (Txt.partition z p).2.2]) M2 else .stuck
      | _ => .stuck)
    | _ => .stuck
  | .rep1 i a b, e, M => match e[i]? with
    | some (.val (.str x)) => if a ≠ b ∧ (a.length == 0) = false ∧ x.length + b.length ≤ lim ∧ (rep1S x a b).length ≤ lim then .ok (.str (rep1S x a b)) M else .stuck
    | _ => .stuck
  | .ix o i, e, M => (opOf o e M (ev o e M)).bind fun x M1 => (ev i e M1).bind fun y M2 => oR (ixD x.2 y M2) M2
  | .dget o k, e, M => (ev o e M).bind fun x M1 => (ev k e M1).bind fun y M2 => match x, y with
    | .cel r, .str f => (match M2[r]? with | some (.dct kvs) => oR (lookF f kvs) M2 | _ => .stuck)
    | _, _ => .stuck
  | .din neg k o, e, M => (ev k e M).bind fun y M1 => (ev o e M1).bind fun x M2 => match x, y with
    | .cel r, .str f => (match M2[r]? with | some (.dct kvs) => .ok (.bl ((lookF f kvs).isSome != neg)) M2 | _ => .stuck)
    | _, _ => .stuck
  | .slf o a, e, M => (opOf o e M (ev o e M)).bind fun x M1 => (ev a e M1).bind fun y M2 => match y with | .int k => oR (slD x.2 (some k) none M2) M2 | _ => .stuck
  | .slt o b, e, M => (opOf o e M (ev o e M)).bind fun x M1 => (ev b e M1).bind fun y M2 => match y with | .int k => oR (slD x.2 none (some k) M2) M2 | _ => .stuck
  | .rev o, e, M => (ev o e M).bind fun x M1 => match x with | .tup l => .ok (.tup l.reverse) M1 | _ => .stuck
  | .tup l, e, M => (evs l e M).bind fun ds M1 => if ds.length ≤ lim then .ok (.tup ds) M1 else .stuck
  | .lst l, e, M => (evs l e M).bind fun ds M1 => if ds.length ≤ lim then .ok (.lst ds) M1 else .stuck
  | .star _, _, _ => .stuck
  | .comp x t s c, e, M => (evS s e M).bind fun gl M1 => (noExc (compGo (fun d M2 => match bindT t d (e.uns t.ix) with
      | none => .stuck
      | some e' => match c with
        | none => (ev x e' M2).bind fun y M3 => .ok (some y) M3
        | some q => (ev q e' M2).bind fun b M3 => match b with
          | .bl true => (ev x e' M3).bind fun y M4 => .ok (some y) M4
          | .bl false => .ok none M3
          | _ => .stuck) gl.1 gl.2 M1)).bind fun l M2 => if l.length ≤ lim then .ok (.lst l) M2 else .stuck
  | .comp2 x t s t2 s2, e, M => (evS s e M).bind fun gl M1 => (noExc (comp2Go (fun d M2 => match bindT t d (e.noOwn.uns (t.ix ++ t2.ix)) with
      | none => .stuck
      | some e' => (evS s2 e' M2).bind fun gl2 M3 => if gl2.1.isEmpty then compGo (fun d2 M4 => match bindT t2 d2 (e'.uns t2.ix) with
        | none => .stuck
        | some e2 => (ev x e2 M4).bind fun y M5 => .ok (some y) M5) [] gl2.2 M3 else .stuck) gl.1 gl.2 M1)).bind fun l M2 => if l.length ≤ lim then .ok (.lst l) M2 else .stuck
  | .fstr l, e, M => (evF l Str.empty e M).bind fun s M1 => .ok (.str s) M1
  | .newc x, e, M => (ev x e M).bind fun d M1 => match d with | .lst l => .ok (.cel M1.length) (M1 ++ [.lst l]) | _ => .stuck
  | .newd, _, M => .ok (.cel M.length) (M ++ [.dct []])
  | .stat _ f args, e, M => (evs args e M).bind fun l M1 => C f l M1

def evs : List P → Env → Sto → Res (List D)
  | [], _, M => .ok [] M
  | .star a :: r, e, M => (qOf a e M (ev a e M)).bind fun x M1 => (evs r e M1).bind fun l M2 => .ok (x.2.2 ++ l) M2
  | a :: r, e, M => (ev a e M).bind fun x M1 => (evs r e M1).bind fun l M2 => .ok (x :: l) M2

def evF : List P → Str → Env → Sto → Res Str
  | [], acc, _, M => .ok acc M
  | a :: r, acc, e, M => (ev a e M).bind fun x M1 => match strTy x with
    | some z => if (acc ++ z).length ≤ lim then evF r (acc ++ z) e M1 else .stuck
    | none => .stuck
def evS : Src → Env → Sto → Res (Grd × List D)
  | .seq a, e, M => (qOf a e M (ev a e M)).bind fun x M1 => .ok (x.1, x.2.2) M1
  | .rg1 a, e, M => (ev a e M).bind fun x M1 => match x with | .int i => if small i then .ok ([], rngL 0 i.toNat) M1 else .stuck | _ => .stuck
  | .rg2 a b, e, M => (ev a e M).bind fun x M1 => (ev b e M1).bind fun y M2 => match x, y with | .int i, .int j => if small i && small j then .ok ([], rngL i (j - i).toNat) M2 else .stuck | _, _ => .stuck
  | .enm a, e, M => (qOf a e M (ev a e M)).bind fun x M1 => .ok (x.1, enumL x.2.2) M1
  | .sgn a, e, M => (ev a e M).bind fun x M1 => match x with | .str z => .ok ([], signsD z) M1 | _ => .stuck
  | .zp a b, e, M => (qOf a e M (ev a e M)).bind fun x M1 => (qOf b e M1 (ev b e M1)).bind fun y M2 => if Grd.ok x.1 M2 then .ok (x.1 ++ y.1, zipL x.2.2 y.2.2) M2 else .stuck
end
end

def P.fresh : P → Bool
  | .lst _ => true | .comp _ _ _ _ => true | .comp2 _ _ _ _ _ => true | .list _ => true | .lrng _ => true | .cat _ _ => true
  | .bin _ _ _ => true | .srt _ => true | .split _ _ => true | _ => false
def P.isBor : P → Bool
  | .bor _ => true | _ => false
def Src.noBor : Src → Bool
  | .seq a => !a.isBor | .rg1 _ => true | .rg2 _ _ => true | .enm a => !a.isBor | .zp a b => !a.isBor && !b.isBor | .sgn _ => true

inductive Out where
  | next (e : Env) (M : Sto) | brk (e : Env) (M : Sto) | cnt (e : Env) (M : Sto) | ret (d : D) (M : Sto) | exc (c : Nat) (v : D) (e : Env) (M : Sto) | stuck
def ofR {α : Type} (e : Env) (r : Res α) (f : α → Sto → Out) : Out :=
  match r with
  | .ok a M => f a M
  | .exc c v M => .exc c v e M
  | .stuck => .stuck
def forGo (t : Tgt) (g : Grd) (b : Env → Sto → Out) : List D → Env → Sto → Out
  | [], e, M => if g.ok M then .next e M else .stuck
  | d :: ds, e, M => if g.ok M then match bindT t d e with
    | none => .stuck
    | some e' => match b e' M with
      | .next e2 M2 => forGo t g b ds e2 M2
      | .cnt e2 M2 => forGo t g b ds e2 M2
      | .brk e2 M2 => .next e2 M2
      | .ret d M2 => .ret d M2
      | .exc c v e2 M2 => .exc c v e2 M2
      | .stuck => .stuck
    else .stuck
def whlGo (c : Env → Sto → Res D) (b : Env → Sto → Out) : Nat → Env → Sto → Out
  | 0, _, _ => .stuck
  | n + 1, e, M => ofR e (c e M) fun d M1 => match d with
    | .bl false => .next e M1
    | .bl true => (match b e M1 with
      | .next e2 M2 => whlGo c b n e2 M2
      | .cnt e2 M2 => whlGo c b n e2 M2
      | .brk e2 M2 => .next e2 M2
      | .ret d M2 => .ret d M2
      | .exc c v e2 M2 => .exc c v e2 M2
      | .stuck => .stuck)
    | _ => .stuck
def fuel : Nat := 2 ^ 400
/-- the error is of the class at its number, of no other of these -/
def xsuOk (T : Tb) (c : Nat) (x : Int) (w : D) (cs : List Nat) : Bool :=
  T.xk && decide (cs.length = 4) && cs.all T.isE && ((match w with | .exn _ _ => false | _ => true) && decide (cs.map (fun h => decide (c = h ∨ T.base c = some h)) = [decide (x = 0), decide (x = 1), decide (x = 2), decide (x = 3)])
    && decide (T.efld c = some (if x = 3 then Str.ofString "word" else Str.ofString "at")))
def setC (M : Sto) (r : Nat) (c : Cell) : Sto := List.set M r c
/-- o[i] = v of a cell -/
def csetD (o i v : D) (M : Sto) : Option Sto :=
  match o, i with
  | .cel r, .int k => match M[r]? with
    | some (.lst l) => (L2.ixN l.length k).map fun j => setC M r (.lst (l.set j v))
    | _ => none
  | _, _ => none
section
variable (T : Tb) (C : CallT)
mutual
def st : S → Env → Sto → Out
  | .asg t x, e, M => ofR e (ev T C x e M) fun d M1 => match bindT t d e with | some e' => .next e' M1 | none => .stuck
  | .own i x, e, M => if x.fresh then ofR e (ev T C x e M) fun d M1 => match d with
      | .lst l => if i < e.length then .next (List.set e i (.own l)) M1 else .stuck
      | _ => .stuck
    else .stuck
  | .frz i, e, M => match e[i]? with | some (.own l) => .next (List.set e i (.val (.lst l))) M | _ => .stuck
  | .app i x, e, M => match e[i]? with
    | some (.own l) => ofR e (ev T C x e M) fun d M1 => if l.length < lim then .next (List.set e i (.own (l ++ [d]))) M1 else .stuck
    | _ => .stuck
  | .ext i x, e, M => match e[i]? with
    | some (.own l) => ofR e (ev T C x e M) fun d M1 => match d with
      | .lst r => if l.length + r.length ≤ lim then .next (List.set e i (.own (l ++ r))) M1 else .stuck
      | _ => .stuck
    | _ => .stuck
  | .seti i k x, e, M => match e[i]? with
    | some (.own l) => ofR e (ev T C x e M) fun d M1 => ofR e (ev T C k e M1) fun j M2 => match j with
      | .int n => (match L2.ixN l.length n with | some p => .next (List.set e i (.own (l.set p d))) M2 | none => .stuck)
      | _ => .stuck
    | _ => .stuck
  | .pop i k, e, M => match e[i]? with
    | some (.own l) => ofR e (ev T C k e M) fun j M1 => match j with
      | .int n => (match L2.ixN l.length n with | some p => if l.length ≤ lim then .next (List.set e i (.own (l.eraseIdx p))) M1 else .stuck | none => .stuck)
      | _ => .stuck
    | _ => .stuck
  | .capp o x, e, M => ofR e (ev T C o e M) fun c M1 => match c with
    | .cel r => (match M1[r]? with
      | some (.lst _) => ofR e (ev T C x e M1) fun d M2 => (match M2[r]? with
        | some (.lst l) => if l.length < lim then .next e (setC M2 r (.lst (l ++ [d]))) else .stuck
        | _ => .stuck)
      | _ => .stuck)
    | _ => .stuck
  | .cset o k x, e, M => ofR e (ev T C x e M) fun d M1 => ofR e (ev T C o e M1) fun c M2 => ofR e (ev T C k e M2) fun j M3 => match csetD c j d M3 with
    | some M4 => .next e M4
    | none => .stuck
  | .dput o k x, e, M => ofR e (ev T C x e M) fun d M1 => ofR e (ev T C o e M1) fun c M2 => ofR e (ev T C k e M2) fun j M3 => match c, j with
    | .cel r, .str f => (match M3[r]? with
      | some (.dct kvs) => if kvs.length < 1000 then .next e (setC M3 r (.dct (putF f d kvs))) else .stuck
      | _ => .stuck)
    | _, _ => .stuck
  | .swp o1 i1 o2 i2 x, e, M => ofR e (ev T C x e M) fun d M1 => match d with
    | .tup [y, z] => ofR e (ev T C o1 e M1) fun a M2 => ofR e (ev T C i1 e M2) fun i M3 => (match csetD a i y M3 with
      | some M4 => ofR e (ev T C o2 e M4) fun b M5 => ofR e (ev T C i2 e M5) fun j M6 => (match csetD b j z M6 with
        | some M7 => .next e M7
        | none => .stuck)
      | none => .stuck)
    | _ => .stuck
  | .setf o f x, e, M => ofR e (ev T C x e M) fun d M1 => ofR e (ev T C o e M1) fun c M2 => match c with
    | .cel r => (match M2[r]? with
      | some (.obj k fs) => if fs.length < 100 ∧ (T.init k).isSome = true ∧ f ∈ T.flds k then .next e (setC M2 r (.obj k (putF f d fs))) else .stuck
      | _ => .stuck)
    | _ => .stuck
  | .exp x, e, M => ofR e (ev T C x e M) fun _ M1 => .next e M1
  | .ife c a b, e, M => ofR e (ev T C c e M) fun d M1 => match d with
    | .bl true => blk a e M1
    | .bl false => blk b e M1
    | _ => .stuck
  | .for_ t s b, e, M => if s.noBor then ofR e (evS T C s e M) fun gl M1 => forGo t gl.1 (fun e' M' => blk b e' M') gl.2 e M1 else .stuck
  | .whl c b, e, M => whlGo (fun e' M' => ev T C c e' M') (fun e' M' => blk b e' M') fuel e M
  | .ret x, e, M => ofR e (ev T C x e M) fun d M1 => .ret d M1
  | .brk, e, M => .brk e M
  | .cnt, e, M => .cnt e M
  | .pass, e, M => .next e M
  | .rai c x, e, M => ofR e (ev T C x e M) fun d M1 => .exc c d e M1
  | .try_ b hs, e, M => match blk b e M with
    | .exc c v e1 M1 => hand hs c v e1 M1
    | r => r
  | .xsu i kd vl ow kk g cs, e, M => match e[i]?, e[kd]?, e[vl]? with
    | some (.val (.exn c v)), some (.val (.int x)), some (.val w) => if xsuOk T c x w cs = true ∧ ow < e.length ∧ kk < e.length then (match C g [v, w] M with | .ok d M1 => .ret d M1 | _ => .stuck) else .stuck
    | _, _, _ => .stuck
  | .bad, _, _ => .stuck
def blk : List S → Env → Sto → Out
  | [], e, M => .next e M
  | s :: r, e, M => match st s e M with
    | .next e1 M1 => blk r e1 M1
    | o => o
def hand : List (Nat × Option Nat × List S) → Nat → D → Env → Sto → Out
  | [], c, v, e, M => .exc c v e M
  | (h, n, b) :: r, c, v, e, M => if c = h ∨ T.base c = some h then
      (match n with
        | some i => (match blk b (List.set e i (.val (.exn c v))) M with
          | .ret d M1 => .ret d M1
          | _ => .stuck)
        | none => (match blk b e M with
          | .ret d M1 => .ret d M1
          | _ => .stuck))
    else hand r c v e M
end
def fin : Out → Res D
  | .next _ M => .ok .non M
  | .ret d M => .ok d M
  | .exc c v _ M => .exc c v M
  | _ => .stuck
end
/-- a def's call, n deep at most -/
def run (T : Tb) : Nat → CallT
  | 0 => fun _ _ _ => .stuck
  | n + 1 => fun f args M => match T.fn f with
    | none => .stuck
    | some fd => if args.length = fd.ps.length ∧ (fd.top = false ∨ n = 59) then fin (blk T (run T n) fd.body (args.map Slot.val ++ List.replicate (fd.N.length - fd.ps.length) .un) M) else .stuck
end Rb

/-! RbHeadD: tables as data, and the test of the written part that the head runs: what they are, no more. Own work. -/
namespace Rb
open PySem PySem.Spec PyProof.Rows L2
/-- the written part, the classes' addresses, the tables -/
structure Wd where
  K : PySem.W.Frag
  mg : Str → Option Value
  ca : Nat → Addr
  fa : Nat → Addr
  fdt : Nat → FuncData
  T : Tb
/-- the names of built-in things that are called -/
def blt : List Str := ["sum", "all", "any", "min", "max", "tuple", "list", "int", "abs", "str", "len", "range", "enumerate", "zip", "sorted", "isinstance", "bool", "repr"]
/-- where a def's object is found -/
inductive Pa where
  | glo (x : Str) | meth (c m : Str) | prp (c m : Str) | sta (c m : Str)
def Pa.at_ (K : PySem.W.Frag) : Pa → Addr
  | .glo x => He.ga K x
  | .meth c m => He.ma K (He.ga K c) m
  | .prp c m => match PySem.W.recIn K (He.ma K (He.ga K c) m) "property" with
    | some (.ref g :: _) => g
    | _ => 0
  | .sta c m => match PySem.W.recIn K (He.ma K (He.ga K c) m) "staticmethod" with
    | some (.ref g :: _) => g
    | _ => 0
structure FX where
  id : Nat
  fd : FD
  pa : Pa
  qual : String
  st : Stmt
  gl : Bool := true
  kw : Bool := false
  hot : Bool := false
  dfl : List D := []
/-- what a class's missing arguments are, by place -/
def FX.dflC (x : FX) : List D := match x.dfl with
  | [] => []
  | l => List.replicate (x.fd.ps.length - 1 - l.length) .non ++ l
structure KX where
  id : Nat
  name : String
  init : Option Nat := none
  flds : List String := []
  efld : Option String := none
  eini : Option FX := none
  base : Option Nat := none
  eq : Option Nat := none
  meths : List Nat := []
  prps : List Nat := []
  stats : List Nat := []
structure TX where
  fx : List FX
  kx : List KX
  gx : List (Nat × String × D)
  gcd : Bool
  /-- errors are asked for their classes -/
  xk : Bool := false
/-- by number -/
def TX.fat (t : TX) (f : Nat) : Option FX := t.fx.find? fun x => x.id == f
def TX.kat (t : TX) (c : Nat) : Option KX := t.kx.find? fun x => x.id == c
def TX.gat (t : TX) (g : Nat) : Option (Nat × String × D) := t.gx.find? fun x => x.1 == g
def TX.tb (t : TX) : Tb where
  fn := fun f => (t.fat f).map (·.fd)
  glo := fun g => (t.gat g).map (·.2.2)
  init := fun c => (t.kat c).bind (·.init)
  dfl := fun c => ((((t.kat c).bind (·.init)).bind fun i => t.fat i).map FX.dflC).getD []
  flds := fun c => ((t.kat c).map fun x => x.flds.map Str.ofString).getD []
  eqf := fun c => (t.kat c).bind (·.eq)
  efld := fun c => (t.kat c).bind fun x => x.efld.map Str.ofString
  base := fun c => (t.kat c).bind (·.base)
  cname := fun c => ((t.kat c).map (·.name)).getD ""
  gname := fun g => if g = 1000 then (if t.gcd then "gcd" else "") else ((t.gat g).map (·.2.1)).getD ""
  kw := fun f => ((t.fat f).map (·.kw)).getD false
  isGl := fun f => ((t.fat f).map (·.gl)).getD false
  meth := fun c m => ((t.kat c).map fun x => x.meths.contains m).getD false
  prp := fun c m => ((t.kat c).map fun x => x.prps.contains m).getD false
  stt := fun m => (t.kx.find? fun y => ((t.kat y.id).map fun x => x.stats.contains m).getD false).map (·.id)
  isE := fun c => ((t.kat c).map fun x => x.init.isNone).getD false
  hot := fun f => ((t.fat f).map (·.hot)).getD false
  xk := t.xk
def fdA (K : PySem.W.Frag) (a : Addr) : FuncData := match K.lookup a with
  | some ⟨_, _, .func fd, _⟩ => fd
  | _ => PySem.W.fnOf Str.empty Str.empty (defArgs (.Pass default)) [] (defScope (.Pass default)) .none .none .none .none none .none .none
def TX.fa (t : TX) (K : PySem.W.Frag) (f : Nat) : Addr := match t.fat f with
  | some x => x.pa.at_ K
  | none => 0
def TX.ca (t : TX) (K : PySem.W.Frag) (c : Nat) : Addr := match t.kat c with
  | some x => He.ga K (Str.ofString x.name)
  | none => 0
def TX.wd (t : TX) (K : PySem.W.Frag) (mg : Str → Option Value) : Wd := ⟨K, mg, t.ca K, t.fa K, fun f => fdA K (t.fa K f), t.tb⟩
mutual
def repK (K : PySem.W.Frag) : D → Value → Bool
  | .non, u => match u with | .none => true | _ => false
  | .bl b, u => match u with | .bool c => b == c | _ => false
  | .int i, u => match u with | .int j _ => decide (i = j) | _ => false
  | .str x, u => match u with | .str y _ => decide (x = y) | _ => false
  | .tup l, u => match u with
    | .ref a => (match K.lookup a with
      | some ⟨.type c, _, .seq its _, _⟩ => decide (c = "tuple") && decide (its.size ≤ sizeLine) && repKs K l its.toList
      | _ => false)
    | _ => false
  | .lst _, _ => false
  | .ro _, _ => false
  | .ins _ _, _ => false
  | .cel _, _ => false
  | .exn _ _, _ => false
def repKs (K : PySem.W.Frag) : List D → List Value → Bool
  | [], us => match us with | [] => true | _ => false
  | x :: l, us => match us with | u :: us => repK K x u && repKs K l us | [] => false
end
def dflK (K : PySem.W.Frag) (l : List D) (u : Value) : Bool := match u with
  | .none => l.isEmpty
  | .ref T => !l.isEmpty && (match K.lookup T with
    | some ⟨_, _, .seq its _, _⟩ => repKs K l its.toList
    | _ => false)
  | _ => false
def FX.chk (K : PySem.W.Frag) (x : FX) : Bool := PySem.W.keepIn K (.ref (x.pa.at_ K)) && match K.lookup (x.pa.at_ K) with
  | some ⟨_, _, .func g, _⟩ => PySem.W.codeIn K g.code (Str.ofString x.qual) && dflK K x.dfl g.defaults && (match g.kwdefaults with | .none => true | _ => false)
  | _ => false
def FX.obs (K : PySem.W.Frag) (x : FX) : He.FnW := match K.lookup (x.pa.at_ K) with
  | some ⟨_, _, .func g, _⟩ => some (g.name, g.qualname, g.params, g.body, g.scope, g.globals, g.closure, g.builtins)
  | _ => none
def FX.val (x : FX) : He.FnW := some (Str.ofString x.fd.name, Str.ofString x.qual, defArgs x.st, .stmts (defBody x.st), defScope x.st, mainGlobals, [], builtinsNs)
abbrev six : List String := ["NoneType", "bool", "int", "str", "tuple", "list"]
def tyN (t : Ty) (n : String) : Bool := match t, n with
  | .int, "int" => true | .int, "bool" => true | .bool, "bool" => true | .str, "str" => true | .tuple, "tuple" => true | .list, "list" => true | _, _ => false
def tyC (t : Ty) (c : Nat) : Option Bool := match t with | .cls c' => some (decide (c = c')) | .exc _ => none | _ => some false
/-- isinstance -/
def TX.isB (t : TX) (K : PySem.W.Frag) (ty : Ty) (u : Value) : Bool :=
  (six.all fun n => decide (PySem.W.kitOne K (.type n) u = some (tyN ty n))) && t.kx.all fun x => !(t.tb.init x.id).isSome || (match tyC ty x.id with | some b => decide (PySem.W.kitOne K (.ref (t.ca K x.id)) u = some b) | none => true)
def gloB (K : PySem.W.Frag) (x : Str) (a : Addr) : Bool := decide (PySem.W.nsIn K mainGlobals x = some (some (.ref a)))
def fndB (K : PySem.W.Frag) (C : Addr) (x : Str) (u : Option Value) : Bool := decide (PySem.W.findIn K (.ref C) x = some u)
/-- a class whose instances are made -/
def TX.clB (t : TX) (K : PySem.W.Frag) (c : Nat) (x : KX) (i : Nat) : Bool :=
  gloB K (Str.ofString x.name) (t.ca K c)
  && (PySem.W.plainGet K (t.ca K c) Str.empty && PySem.W.hasDictIn K (t.ca K c) && PySem.W.plainOver K (t.ca K c) && fndB K (t.ca K c) "__setattr__" (some (.builtin "object.__setattr__")))
  && (PySem.W.makesIn K (t.ca K c) && fndB K (t.ca K c) "__init__" (some (.ref (t.fa K i))) && PySem.W.isFn K (.ref (t.fa K i)) && PySem.W.keepIn K (.ref (t.ca K c)))
  && (x.flds.all fun f => fndB K (t.ca K c) (Str.ofString f) none)
  && fndB K (t.ca K c) "__class__" (some (.builtin "object.__class__"))
  && decide (PySem.W.specialIn K (.builtin "object.__class__") "__get__" = some (some (.builtin "getset_descriptor.__get__")))
  && decide (PySem.W.takesIn K (.builtin "object.__class__") = some true)
  && decide (PySem.W.mroIn K (t.ca K c) (.type "object") = some true)
  && t.isB K (.cls c) (.ref (t.ca K c))
  && (match t.fat i with
    | some fx => (fx.dfl.isEmpty || decide (fx.fd.ps.length - 1 - fx.dfl.length ≤ 1)) && (!fx.kw || !fx.dfl.isEmpty)
    | none => false)
/-- an own == -/
def TX.eqB (t : TX) (K : PySem.W.Frag) (c : Nat) (x : KX) : Bool := match x.eq with
  | none => true
  | some m => x.meths.contains m && (match t.fat m with | some fx => decide (fx.fd.name = "__eq__") | none => false) && PySem.W.notFirst K (t.ca K c) (.type "NoneType") && PySem.W.notFirst K (t.ca K c) (.type "tuple") && t.kx.all fun y => y.init.isNone || PySem.W.notFirst K (t.ca K c) (.ref (t.ca K y.id))
/-- static methods -/
def TX.stB (t : TX) (K : PySem.W.Frag) (c : Nat) (x : KX) : Bool := x.stats.all fun m => match t.fat m with
  | some fx => decide (PySem.W.specialIn K (.ref (t.ca K c)) "__getattribute__" = some (some (.builtin "type.__getattribute__"))) && (match PySem.W.typeIn K (.ref (t.ca K c)) with
    | some mc => PySem.W.readsIn K (t.ca K c) mc && (match PySem.W.findCls K (.ref (t.ca K c)) mc (Str.ofString fx.fd.name) with
      | some (.get (.builtin b) (.ref p) .none (.ref C)) => decide (b = "staticmethod.__get__") && decide (C = t.ca K c) && (match PySem.W.recIn K p "staticmethod" with
        | some (.ref g :: _) => decide (g = t.fa K m)
        | _ => false)
      | _ => false)
    | none => false)
  | none => true
/-- methods, properties -/
def TX.meB (t : TX) (K : PySem.W.Frag) (c : Nat) (x : KX) : Bool :=
  (t.stB K c x && t.eqB K c x) && ((x.meths.isEmpty && x.prps.isEmpty || (PySem.W.plainGet K (t.ca K c) Str.empty && PySem.W.hasDictIn K (t.ca K c) && PySem.W.plainOver K (t.ca K c) && fndB K (t.ca K c) "__setattr__" (some (.builtin "object.__setattr__"))))
  && (x.meths.all fun m => match t.fat m with
    | some fx => fndB K (t.ca K c) (Str.ofString fx.fd.name) (some (.ref (t.fa K m))) && PySem.W.isFn K (.ref (t.fa K m)) && PySem.W.keepIn K (.ref (t.fa K m))
    | none => true)
  && (x.prps.all fun m => match t.fat m with
    | some fx => (match PySem.W.findIn K (.ref (t.ca K c)) (Str.ofString fx.fd.name) with
      | some (some (.ref p)) => decide (PySem.W.specialIn K (.ref p) "__get__" = some (some (.builtin "property.__get__"))) && decide (PySem.W.takesIn K (.ref p) = some true) && (match PySem.W.recIn K p "property" with
        | some (.ref g :: _) => decide (g = t.fa K m)
        | _ => false)
      | _ => false)
    | none => true))
/-- what isinstance tells of a class's errors -/
abbrev xnL : List String := ["ValueError", "LookupError", "ArithmeticError"]
def TX.xkB (t : TX) (K : PySem.W.Frag) (y : KX) : Bool := y.efld.isNone ||
  ((t.kx.all fun z => z.init.isSome || decide (PySem.W.kitOne K (.ref (t.ca K y.id)) (.ref (t.ca K z.id)) = some (decide (y.id = z.id ∨ y.base = some z.id))))
  && (xnL.all fun n => decide (PySem.W.kitOne K (.ref (t.ca K y.id)) (.type n) = some false) && decide (PySem.W.nsIn K mainGlobals (Str.ofString n) = some none))
  && (fndB K (t.ca K y.id) "__class__" (some (.builtin "object.__class__"))
  && decide (PySem.W.specialIn K (.builtin "object.__class__") "__get__" = some (some (.builtin "getset_descriptor.__get__")))
  && decide (PySem.W.takesIn K (.builtin "object.__class__") = some true)
  && decide (PySem.W.mroIn K (t.ca K y.id) (.type "object") = some true)))
/-- an error class -/
def TX.erB (t : TX) (K : PySem.W.Frag) (c : Nat) (x : KX) (f : String) (ix : FX) : Bool :=
  (!t.xk || t.xkB K x) && (gloB K (Str.ofString x.name) (t.ca K c)
  && PySem.W.excOver K (t.ca K c) ([.type "Exception", .type "BaseException", .type "object"] : List Value) && PySem.W.excInitIn K (t.ca K c) ([.type "Exception", .type "BaseException", .type "object"] : List Value) "Exception.__new__"
  && fndB K (t.ca K c) "__setattr__" (some (.builtin "object.__setattr__")) && fndB K (t.ca K c) "__getattribute__" (some (.builtin "BaseException.__getattribute__")) && fndB K (t.ca K c) "__getattr__" none
  && fndB K (t.ca K c) (Str.ofString f) none && fndB K (t.ca K c) "__init__" (some (.ref (ix.pa.at_ K)))
  && decide (PySem.W.typeIn K (.ref (ix.pa.at_ K)) = some (.type "function")) && PySem.W.keepIn K (.ref (t.ca K c)) && decide (PySem.W.subIn K (.ref (t.ca K c)) (.type "BaseException") = some true)
  && decide (PySem.W.typeIn K (.ref (t.ca K c)) = some (.type "type")) && PySem.W.hasDictIn K (t.ca K c)
  && (decide (f = "at") || decide (f = "word")) && ix.chk K && ix.dfl.isEmpty && decide (ix.fd.name = "__init__"))
/-- a class that an except clause names: whose errors it takes -/
def TX.exB (t : TX) (K : PySem.W.Frag) (y : KX) : Bool :=
  gloB K (Str.ofString y.name) (t.ca K y.id) && t.kx.all fun x => x.efld.isNone || decide (PySem.W.exmOne K (.ref (t.ca K x.id)) (.ref (t.ca K y.id)) = some (decide (x.id = y.id ∨ x.base = some y.id)))
/-- all that is asked of the written part -/
def TX.chk (t : TX) (K : PySem.W.Frag) : Bool :=
  (t.fx.all fun x => x.chk K && (!x.gl || gloB K (Str.ofString x.fd.name) (x.pa.at_ K)))
  && (blt.all fun x => decide (PySem.W.nsIn K mainGlobals x = some none))
  && (!t.gcd || decide (PySem.W.nsIn K mainGlobals "gcd" = some (some (.builtin "math.gcd"))))
  && (t.gx.all fun g => match PySem.W.nsIn K mainGlobals (Str.ofString g.2.1) with
    | some (some u) => repK K g.2.2 u
    | _ => false)
  && (t.isB K .int (.type "int") && t.isB K .bool (.type "bool") && t.isB K .str (.type "str") && t.isB K .tuple (.type "tuple") && t.isB K .list (.type "list"))
  && t.kx.all fun x => (match x.init with | some i => t.clB K x.id x i | none => true) && t.meB K x.id x && (match x.efld with | some f => (match x.eini with | some ix => t.erB K x.id x f ix | none => false) | none => true) && (!x.init.isNone || t.exB K x)
/-- the Hook's reading -/
abbrev AlR : Type := Bool × List He.FnW
def TX.efx (t : TX) : List FX := t.fx ++ t.kx.filterMap (·.eini)
def TX.obsK (t : TX) (K : PySem.W.Frag) : AlR := (t.chk K, t.efx.map fun x => x.obs K)
def TX.valK (t : TX) : AlR := (true, t.efx.map FX.val)
def refsE (g : Addr → Option Obj) (a : Addr) : List Addr := match g a with
  | some o => (He.refsD o).filter fun b => !Nat.beq a b
  | none => []
def asE (g : Addr → Option Obj) : Nat → List Addr → List Addr
  | 0, f => f
  | n + 1, f => f ++ asE g n (f.flatMap (refsE g))
def TX.obsE (t : TX) (n : Nat) (g : Addr → Option Obj) : AlR := t.obsK (He.frG g (asE g n [mainGlobals] ++ [cStatics]))
end Rb

namespace Rbk00
open PySem PySem.Spec PyProof.Rows L2 Rb
def top (i : Nat) : Stmt := PySem.Challenge.pw_racebooks_k00_errors.main.body.getD i (.Pass ⟨0, 0, 0, 0⟩)
def cst (s : Stmt) (j : Nat) : Stmt := match s with
  | .ClassDef _ _ _ b _ _ _ _ _ _ _ => b.getD j (.Pass ⟨0, 0, 0, 0⟩)
  | _ => s
def f0 : FX := { id := 0, fd := ⟨"_law_so", ["found", "meant"], ["found", "meant", "k"], [
    .ife (.isn false (.nm 1)) [.ret (.isn false (.nm 0))] [],
    .ife (.isi (.nm 1) [.tuple]) [.ife (.or_ (.not_ (.isi (.nm 0) [.tuple])) (.cmp .ne (.len (.nm 0)) (.len (.nm 1)))) [.ret (.cst (.bl false))] [], .for_ (.nm 2) (.rg1 (.len (.nm 1))) [.ife (.not_ (.call 0 [.ix (.nm 0) (.nm 2), .ix (.nm 1) (.nm 2)])) [.ret (.cst (.bl false))] []], .ret (.cst (.bl true))] [],
    .ife (.or_ (.isi (.nm 1) [.bool]) (.isi (.nm 0) [.bool])) [.ret (.and_ (.isi (.nm 1) [.bool]) (.and_ (.isi (.nm 0) [.bool]) (.cmp .eq (.nm 0) (.nm 1))))] [],
    .ife (.isi (.nm 1) [.int]) [.ret (.and_ (.isi (.nm 0) [.int]) (.cmp .eq (.nm 0) (.nm 1)))] [],
    .ret (.and_ (.isi (.nm 1) [.str]) (.and_ (.isi (.nm 0) [.str]) (.cmp .eq (.nm 0) (.nm 1))))], false⟩, pa := .glo "_law_so", qual := "_law_so", st := top 7 }
def f1 : FX := { id := 1, fd := ⟨"_law_numbers", ["script"], ["script", "row", "cell", "left", "k", "mixed"], [
    .own 1 (.lst []),
    .for_ (.nm 2) (.seq (.slt (.nm 0) (.cst (.int 63)))) [.ife (.cmp .ge (.nm 2) (.bin .pow (.cst (.int 10)) (.cst (.int 18)))) [.asg (.nm 3) (.nm 2), .for_ (.nm 4) (.rg1 (.cst (.int 60))) [.ife (.cmp .eq (.nm 3) (.cst (.int 0))) [.brk] [], .app 1 (.bin .mod (.int_ (.nm 3)) (.cst (.int 997))), .asg (.nm 3) (.bin .fdv (.nm 3) (.cst (.int 997)))]] [.for_ (.nm 4) (.rg1 (.cst (.int 4))) [.asg (.nm 5) (.bin .mod (.int_ (.bin .add (.bin .add (.bin .mul (.nm 2) (.cst (.int 48271))) (.bin .mul (.nm 4) (.cst (.int 69621)))) (.cst (.int 11)))) (.cst (.int 2147483647))), .app 1 (.bin .mod (.int_ (.bin .add (.bin .mul (.nm 5) (.cst (.int 16807))) (.nm 4))) (.cst (.int 2147483629)))]]],
    .ife (.cmp .eq (.len (.bor 1)) (.cst (.int 0))) [.app 1 (.cst (.int 0))] [],
    .frz 1,
    .ret (.nm 1)], false⟩, pa := .glo "_law_numbers", qual := "_law_numbers", st := top 8 }
def f2 : FX := { id := 2, fd := ⟨"_law_draw", ["row", "at", "limit"], ["row", "at", "limit", "mixed"], [
    .ife (.cmp .lt (.nm 1) (.len (.nm 0))) [.ret (.bin .mod (.int_ (.ix (.nm 0) (.nm 1))) (.nm 2))] [],
    .asg (.nm 3) (.bin .mod (.int_ (.bin .add (.bin .add (.bin .mul (.ix (.nm 0) (.bin .mod (.int_ (.nm 1)) (.len (.nm 0)))) (.cst (.int 40692))) (.bin .mul (.nm 1) (.cst (.int 7919)))) (.cst (.int 3)))) (.cst (.int 2147483399))),
    .ret (.bin .mod (.int_ (.bin .mod (.int_ (.bin .add (.bin .mul (.nm 3) (.cst (.int 48271))) (.nm 1))) (.cst (.int 2147483647)))) (.nm 2))], false⟩, pa := .glo "_law_draw", qual := "_law_draw", st := top 9 }
def f3 : FX := { id := 3, fd := ⟨"_law_take", ["row", "spot", "limit"], ["row", "spot", "limit"], [
    .cset (.nm 1) (.cst (.int 0)) (.bin .add (.ix (.nm 1) (.cst (.int 0))) (.cst (.int 1))),
    .ret (.call 2 [.nm 0, .bin .sub (.ix (.nm 1) (.cst (.int 0))) (.cst (.int 1)), .nm 2])], false⟩, pa := .glo "_law_take", qual := "_law_take", st := top 10 }
def f4 : FX := { id := 4, fd := ⟨"_law_wide", ["row", "spot", "limit"], ["row", "spot", "limit", "first", "second", "third"], [
    .asg (.nm 3) (.call 3 [.nm 0, .nm 1, .cst (.int 997)]),
    .asg (.nm 4) (.call 3 [.nm 0, .nm 1, .cst (.int 997)]),
    .asg (.nm 5) (.call 3 [.nm 0, .nm 1, .cst (.int 997)]),
    .ret (.bin .mod (.int_ (.bin .add (.bin .add (.bin .mul (.nm 3) (.cst (.int 994009))) (.bin .mul (.nm 4) (.cst (.int 997)))) (.nm 5))) (.nm 2))], false⟩, pa := .glo "_law_wide", qual := "_law_wide", st := top 11 }
def f5 : FX := { id := 5, fd := ⟨"_law_raised", ["kind", "value"], ["kind", "value"], [
    .ife (.cmp .eq (.nm 0) (.cst (.int 0))) [.rai 1 (.nm 1)] [],
    .ife (.cmp .eq (.nm 0) (.cst (.int 1))) [.rai 2 (.nm 1)] [],
    .ife (.cmp .eq (.nm 0) (.cst (.int 2))) [.rai 4 (.nm 1)] [],
    .rai 3 (.nm 1)], false⟩, pa := .glo "_law_raised", qual := "_law_raised", st := top 12 }
def f6 : FX := { id := 6, fd := ⟨"law", ["script"], ["script", "row", "spot", "kind", "value", "error", "own", "k"], [
    .asg (.nm 1) (.call 1 [.nm 0]),
    .asg (.nm 2) (.newc (.lst [.cst (.int 0)])),
    .asg (.nm 3) (.call 3 [.nm 1, .nm 2, .cst (.int 4)]),
    .asg (.nm 4) (.bin .sub (.call 4 [.nm 1, .nm 2, .bin .pow (.cst (.int 10)) (.cst (.int 9))]) (.bin .mul (.cst (.int 5)) (.bin .pow (.cst (.int 10)) (.cst (.int 8))))),
    .ife (.cmp .eq (.nm 3) (.cst (.int 3))) [.asg (.nm 4) (.cst (.str "stakes"))] [],
    .try_ [.exp (.call 5 [.nm 3, .nm 4])] [(0, some 5, [.xsu 5 3 4 6 7 253 [1, 2, 4, 3]])],
    .ret (.cst (.bl false))], true⟩, pa := .glo "law", qual := "law", st := top 13 }
def f253 : FX := { id := 253, fd := ⟨"_law_so", ["found", "meant"], ["found", "meant", "k"], [
    .ife (.isn false (.nm 1)) [.ret (.isn false (.nm 0))] [],
    .ife (.isi (.nm 1) [.tuple]) [.bad, .bad, .ret (.cst (.bl true))] [],
    .ife (.or_ (.isi (.nm 1) [.bool]) (.isi (.nm 0) [.bool])) [.ret (.and_ (.isi (.nm 1) [.bool]) (.and_ (.isi (.nm 0) [.bool]) (.cmp .eqp (.nm 0) (.nm 1))))] [],
    .ife (.isi (.nm 1) [.int]) [.ret (.and_ (.isi (.nm 0) [.int]) (.cmp .eqp (.nm 0) (.nm 1)))] [],
    .ret (.and_ (.isi (.nm 1) [.str]) (.and_ (.isi (.nm 0) [.str]) (.cmp .eqp (.nm 0) (.nm 1))))], false⟩, pa := .glo "_law_so", qual := "_law_so", st := top 7, hot := true }
def k0 : KX := { id := 0, name := "BookError" }
def k1 : KX := { id := 1, name := "BadValue", efld := some "at", eini := some { id := 0, fd := ⟨"__init__", [], [], [], false⟩, pa := .meth "BadValue" "__init__", qual := "BadValue.__init__", st := cst (top 2) 0, gl := false }, base := some 0 }
def k2 : KX := { id := 2, name := "BadOffer", efld := some "at", eini := some { id := 0, fd := ⟨"__init__", [], [], [], false⟩, pa := .meth "BadOffer" "__init__", qual := "BadOffer.__init__", st := cst (top 3) 0, gl := false }, base := some 0 }
def k3 : KX := { id := 3, name := "TooMany", efld := some "word", eini := some { id := 0, fd := ⟨"__init__", [], [], [], false⟩, pa := .meth "TooMany" "__init__", qual := "TooMany.__init__", st := cst (top 4) 0, gl := false }, base := some 0 }
def k4 : KX := { id := 4, name := "BadSyntax", efld := some "at", eini := some { id := 0, fd := ⟨"__init__", [], [], [], false⟩, pa := .meth "BadSyntax" "__init__", qual := "BadSyntax.__init__", st := cst (top 5) 0, gl := false }, base := some 0 }
def tx : TX := { fx := [f0, f1, f2, f3, f4, f5, f6, f253], kx := [k0, k1, k2, k3, k4], gx := [], gcd := false, xk := true }

abbrev R : PySem.W.OpenRow := PySem.W.OpenLaw.row PySem.Challenge.rw_racebooks_k00_errors
def loose : List PySem.Str := (["BookError", "BadValue", "BadOffer", "TooMany", "BadSyntax", "_law_so", "_law_numbers", "_law_draw", "_law_take", "_law_wide", "_law_raised"] : List PySem.Str)
def ob (s : PySem.W.SharedT) : AlR := tx.obsE 7 (HandSHeadRun.getT s)
end Rbk00
/-! RbRel: how plain data lies in the abstract heap; what an evaluation leaves. Own work. -/
namespace Rb
open PySem PySem.Spec PyProof.Rows L2

section
variable (d : Wd) (F : Hp) (io : List Addr)
mutual
def Rep : D → V → Prop
  | .non, v => v = .non
  | .bl b, v => v = .bl b
  | .int i, v => v = .int i
  | .str s, v => v = .str s
  | .tup l, v => ∃ a vs, v = .ref a ∧ SqT d.K F a vs ∧ Reps l vs
  | .lst l, v => ∃ a vs, v = .ref a ∧ F a = some (.lst vs) ∧ Reps l vs
  | .ro l, v => ∃ a vs, v = .ref a ∧ SqL d.K F a vs ∧ Reps l vs
  | .cel r, v => ∃ a, v = .ref a ∧ io[r]? = some a
  | .ins c l, v => ∃ a dx vs, v = .ref a ∧ F a = some (.ins (d.ca c) dx ((d.T.flds c).zip vs)) ∧ F dx = some (.own a) ∧ l.length = (d.T.flds c).length ∧ Reps l vs
  | .exn _ _, _ => False
def Reps : List D → List V → Prop
  | [], vs => vs = []
  | x :: l, vs => ∃ v r, vs = v :: r ∧ Rep x v ∧ Reps l r
end
end

def Sub (F H : Hp) : Prop := ∀ a o, F a = some o → H a = some o
theorem Sub.refl (F : Hp) : Sub F F := fun _ _ h => h
theorem Sub.trans {F G H : Hp} (a : Sub F G) (b : Sub G H) : Sub F H := fun x o h => b x o (a x o h)
theorem Sub.rd {F H : Hp} (s : Sub F H) {a : Addr} {u : HO} (h : Rd F a u) : Rd H a u := by
  rcases h with h | ⟨o, h⟩
  · exact .inl (s _ _ h)
  · exact .inr ⟨o, s _ _ h⟩
theorem Sub.sqt {F H : Hp} (s : Sub F H) {K : PySem.W.Frag} {a : Addr} {xs : List V} (h : SqT K F a xs) : SqT K H a xs := by
  rcases h with h | h
  · exact .inl (s.rd h)
  · exact .inr h
theorem Sub.sql {F H : Hp} (s : Sub F H) {K : PySem.W.Frag} {a : Addr} {xs : List V} (h : SqL K F a xs) : SqL K H a xs := by
  rcases h with h | h
  · exact .inl (s.rd h)
  · exact .inr h
theorem Sub.updO {F H : Hp} (s : Sub F H) {a : Addr} {o : HO} (h : F a = none) : Sub F (upd H a o) := fun b u e => by
  have : b ≠ a := fun q => by rw [q, h] at e; cases e
  rw [upd_ne this]; exact s b u e
theorem Sub.updF {F : Hp} {a : Addr} {o : HO} (h : F a = none) : Sub F (upd F a o) := Sub.updO (Sub.refl F) h
theorem Sub.bothU {F H : Hp} (s : Sub F H) {a : Addr} {o : HO} : Sub (upd F a o) (upd H a o) := fun b u e => by
  by_cases q : b = a
  · subst q; rw [upd_same] at e ⊢; exact e
  · rw [upd_ne q] at e ⊢; exact s b u e
theorem Sub.none {F H : Hp} (s : Sub F H) {a : Addr} (h : H a = none) : F a = none := by
  cases q : F a with
  | none => rfl
  | some o => rw [s a o q] at h; cases h

section
variable {d : Wd} {F F' : Hp} {io io' : List Addr}
/-- cells are only added at the end -/
def Pre (io io' : List Addr) : Prop := ∀ (r : Nat) (a : Addr), io[r]? = some a → io'[r]? = some a
theorem Pre.refl (io : List Addr) : Pre io io := fun _ _ h => h
theorem Pre.trans {a b c : List Addr} (h : Pre a b) (k : Pre b c) : Pre a c := fun r x e => k r x (h r x e)
theorem Pre.app (a b : List Addr) : Pre a (a ++ b) := fun r x e => by
  have : r < a.length := by
    rcases Nat.lt_or_ge r a.length with q | q
    · exact q
    · rw [List.getElem?_eq_none q] at e; cases e
  rw [List.getElem?_append_left this]; exact e
mutual
theorem Rep.mono (s : Sub F F') (p : Pre io io') : ∀ (x : D) (v : V), Rep d F io x v → Rep d F' io' x v
  | .non, _, h => h
  | .bl _, _, h => h
  | .int _, _, h => h
  | .str _, _, h => h
  | .tup l, v, h => by
    simp only [Rep] at h ⊢
    obtain ⟨a, vs, e, q, r⟩ := h
    exact ⟨a, vs, e, s.sqt q, Reps.mono s p l vs r⟩
  | .lst l, v, h => by
    simp only [Rep] at h ⊢
    obtain ⟨a, vs, e, q, r⟩ := h
    exact ⟨a, vs, e, s _ _ q, Reps.mono s p l vs r⟩
  | .ro l, v, h => by
    simp only [Rep] at h ⊢
    obtain ⟨a, vs, e, q, r⟩ := h
    exact ⟨a, vs, e, s.sql q, Reps.mono s p l vs r⟩
  | .cel r, v, h => by
    simp only [Rep] at h ⊢
    obtain ⟨a, e, q⟩ := h
    exact ⟨a, e, p _ _ q⟩
  | .ins c l, v, h => by
    simp only [Rep] at h ⊢
    obtain ⟨a, dx, vs, e, q1, q2, z, r⟩ := h
    exact ⟨a, dx, vs, e, s _ _ q1, s _ _ q2, z, Reps.mono s p l vs r⟩
  | .exn _ _, _, h => by simp only [Rep] at h
theorem Reps.mono (s : Sub F F') (p : Pre io io') : ∀ (l : List D) (vs : List V), Reps d F io l vs → Reps d F' io' l vs
  | [], _, h => h
  | x :: l, vs, h => by
    simp only [Reps] at h ⊢
    obtain ⟨v, r, e, h1, h2⟩ := h
    exact ⟨v, r, e, Rep.mono s p x v h1, Reps.mono s p l r h2⟩
end
theorem Reps.nil : Reps d F io [] [] := by simp only [Reps]
theorem Reps.cons {x : D} {l : List D} {v : V} {vs : List V} (h : Rep d F io x v) (r : Reps d F io l vs) : Reps d F io (x :: l) (v :: vs) := by
  simp only [Reps]; exact ⟨v, vs, rfl, h, r⟩
theorem Reps.length : ∀ {l : List D} {vs : List V}, Reps d F io l vs → l.length = vs.length
  | [], _, h => by simp only [Reps] at h; subst h; rfl
  | x :: l, vs, h => by
    simp only [Reps] at h
    obtain ⟨v, r, e, h1, h2⟩ := h
    subst e
    simp [Reps.length h2]
theorem Reps.get : ∀ {l : List D} {vs : List V} {i : Nat} {x : D}, Reps d F io l vs → l[i]? = some x → ∃ v, vs[i]? = some v ∧ Rep d F io x v
  | [], _, _, _, _, e => by simp at e
  | y :: l, vs, i, x, h, e => by
    simp only [Reps] at h
    obtain ⟨v, r, e2, h1, h2⟩ := h
    subst e2
    cases i with
    | zero => simp at e; subst e; exact ⟨v, rfl, h1⟩
    | succ i =>
      obtain ⟨u, q1, q2⟩ := Reps.get (i := i) h2 (by simpa using e)
      exact ⟨u, by simpa using q1, q2⟩
theorem Reps.append : ∀ {l m : List D} {vs ws : List V}, Reps d F io l vs → Reps d F io m ws → Reps d F io (l ++ m) (vs ++ ws)
  | [], _, _, _, h, k => by simp only [Reps] at h; subst h; exact k
  | x :: l, m, vs, ws, h, k => by
    simp only [Reps] at h
    obtain ⟨v, r, e, h1, h2⟩ := h
    subst e
    exact Reps.cons h1 (Reps.append h2 k)
theorem Reps.set : ∀ {l : List D} {vs : List V} {x : D} {v : V} (i : Nat), Reps d F io l vs → Rep d F io x v → Reps d F io (l.set i x) (vs.set i v)
  | [], _, _, _, _, h, _ => by simp only [Reps] at h; subst h; exact Reps.nil
  | y :: l, vs, x, v, i, h, k => by
    simp only [Reps] at h
    obtain ⟨u, r, e, h1, h2⟩ := h
    subst e
    cases i with
    | zero => exact Reps.cons k h2
    | succ i => exact Reps.cons h1 (Reps.set i h2 k)
theorem Reps.take : ∀ {l : List D} {vs : List V} (n : Nat), Reps d F io l vs → Reps d F io (l.take n) (vs.take n)
  | [], _, n, h => by simp only [Reps] at h; subst h; simp [Reps]
  | x :: l, vs, 0, h => by simp [Reps]
  | x :: l, vs, n + 1, h => by
    simp only [Reps] at h
    obtain ⟨v, r, e, h1, h2⟩ := h
    subst e
    exact Reps.cons h1 (Reps.take n h2)
theorem Reps.drop : ∀ {l : List D} {vs : List V} (n : Nat), Reps d F io l vs → Reps d F io (l.drop n) (vs.drop n)
  | [], _, n, h => by simp only [Reps] at h; subst h; simp [Reps]
  | x :: l, vs, 0, h => h
  | x :: l, vs, n + 1, h => by
    simp only [Reps] at h
    obtain ⟨v, r, e, h1, h2⟩ := h
    subst e
    exact Reps.drop n h2
theorem Reps.eraseIdx : ∀ {l : List D} {vs : List V} (n : Nat), Reps d F io l vs → Reps d F io (l.eraseIdx n) (vs.eraseIdx n)
  | [], _, n, h => by simp only [Reps] at h; subst h; simp [Reps]
  | x :: l, vs, 0, h => by
    simp only [Reps] at h
    obtain ⟨v, r, e, h1, h2⟩ := h
    subst e
    exact h2
  | x :: l, vs, n + 1, h => by
    simp only [Reps] at h
    obtain ⟨v, r, e, h1, h2⟩ := h
    subst e
    exact Reps.cons h1 (Reps.eraseIdx n h2)
theorem Reps.reverse : ∀ {l : List D} {vs : List V}, Reps d F io l vs → Reps d F io l.reverse vs.reverse
  | [], _, h => by simp only [Reps] at h; subst h; exact Reps.nil
  | x :: l, vs, h => by
    simp only [Reps] at h
    obtain ⟨v, r, e, h1, h2⟩ := h
    subst e
    rw [List.reverse_cons, List.reverse_cons]
    exact Reps.append (Reps.reverse h2) (Reps.cons h1 Reps.nil)
theorem Reps.rep {l : List D} {vs : List V} (h : Reps d F io l vs) : ∀ k, Reps d F io (repL l k) (repL vs k)
  | 0 => by simp [repL, Reps]
  | k + 1 => by
    have := Reps.rep h k
    unfold repL at this ⊢
    rw [List.replicate_succ, List.replicate_succ, List.flatten_cons, List.flatten_cons]
    exact Reps.append h this
end

/-- what a cell is, at its address -/
def CellR (d : Wd) (F : Hp) (io : List Addr) (H : Hp) (a : Addr) : Cell → Prop
  | .lst l => ∃ vs, H a = some (.lst vs) ∧ Reps d F io l vs
  | .obj c fs => ∃ dx vfs, H a = some (.ins (d.ca c) dx vfs) ∧ H dx = some (.own a) ∧ fs.map (·.1) = vfs.map (·.1) ∧ Reps d F io (fs.map (·.2)) (vfs.map (·.2))
  | .dct kvs => ∃ vkv : List (Key × V), H a = some (.dK vkv) ∧ (vkv.map (·.1) = kvs.map (fun p => Sum.inr p.1) ∧ (kvs.map (·.1)).Nodup) ∧ Reps d F io (kvs.map (·.2)) (vkv.map (·.2))
structure Cels (d : Wd) (F : Hp) (io : List Addr) (H : Hp) (M : Sto) : Prop where
  len : io.length = M.length
  nd : io.Nodup
  out : ∀ a ∈ io, F a = none
  cel : ∀ (r : Nat) (c : Cell), M[r]? = some c → ∃ a, io[r]? = some a ∧ CellR d F io H a c
/-- what an evaluation leaves -/
structure Ex (F : Hp) (io : List Addr) (H F' : Hp) (io' : List Addr) (H' : Hp) : Prop where
  sub : Sub F F'
  pre : Pre io io'
  frz : ∀ a o, F' a = some o → F a = some o ∨ H a = none
  new : ∀ a, a ∈ io' → a ∈ io ∨ H a = none
  keep : ∀ a o, H a = some o → a ∉ io → H' a = some o
  there : ∀ a, H a ≠ none → H' a ≠ none
  od : ∀ a c dx fs, H a = some (.ins c dx fs) → ∃ fs', H' a = some (.ins c dx fs')
theorem Ex.refl (F : Hp) (io : List Addr) (H : Hp) : Ex F io H F io H :=
  ⟨Sub.refl F, Pre.refl io, fun _ _ h => .inl h, fun _ h => .inl h, fun _ _ h _ => h, fun _ h => h, fun _ _ _ fs h => ⟨fs, h⟩⟩
theorem Ex.trans {F F1 F2 H H1 H2 : Hp} {io io1 io2 : List Addr} (a : Ex F io H F1 io1 H1) (b : Ex F1 io1 H1 F2 io2 H2) : Ex F io H F2 io2 H2 where
  sub := a.sub.trans b.sub
  pre := a.pre.trans b.pre
  frz := fun x o h => by
    rcases b.frz x o h with h | h
    · exact a.frz x o h
    · cases q : H x with
      | none => exact .inr rfl
      | some u => exact absurd h (a.there x (by rw [q]; simp))
  new := fun x h => by
    rcases b.new x h with h | h
    · exact a.new x h
    · cases q : H x with
      | none => exact .inr rfl
      | some u => exact absurd h (a.there x (by rw [q]; simp))
  keep := fun x o h n => b.keep x o (a.keep x o h n) fun q => by
    rcases a.new x q with z | z
    · exact n z
    · rw [h] at z; cases z
  there := fun x h => b.there x (a.there x h)
  od := fun x c dx fs h => by
    obtain ⟨f1, h1⟩ := a.od x c dx fs h
    exact b.od x c dx f1 h1

/-- the locals -/
structure Rl (d : Wd) (F : Hp) (io : List Addr) (sg : L2.St) (H : Hp) (e : Env) (M : Sto) : Prop where
  sub : Sub F H
  cl : Cels d F io H M
  len : e.length = sg.length
  val : ∀ (i : Nat) (x : D), e[i]? = some (Slot.val x) → (∃ c v, x = .exn c v) ∨ ∃ v, sg[i]? = some (some v) ∧ Rep d F io x v
  own : ∀ (i : Nat) (l : List D), e[i]? = some (Slot.own l) → ∃ a vs, sg[i]? = some (some (.ref a)) ∧ H a = some (.lst vs) ∧ Reps d F io l vs ∧ F a = none ∧ a ∉ io
  dis : ∀ (i j : Nat) (l m : List D) (a : Addr), e[i]? = some (Slot.own l) → e[j]? = some (Slot.own m) → sg[i]? = some (some (.ref a)) → sg[j]? = some (some (.ref a)) → i = j
theorem Rl.ex {d : Wd} {F F' H H' : Hp} {io io' : List Addr} {sg : L2.St} {e : Env} {M M' : Sto} (r : Rl d F io sg H e M) (x : Ex F io H F' io' H') (s : Sub F' H') (c : Cels d F' io' H' M') : Rl d F' io' sg H' e M' where
  sub := s
  cl := c
  len := r.len
  val := fun i y h => by
    rcases r.val i y h with h | ⟨v, h1, h2⟩
    · exact .inl h
    · exact .inr ⟨v, h1, Rep.mono x.sub x.pre _ _ h2⟩
  own := fun i l h => by
    obtain ⟨a, vs, h1, h2, h3, h4, h5⟩ := r.own i l h
    refine ⟨a, vs, h1, x.keep a _ h2 h5, Reps.mono x.sub x.pre _ _ h3, ?_, ?_⟩
    · cases q : F' a with
      | none => rfl
      | some o =>
        rcases x.frz a o q with z | z
        · rw [h4] at z; cases z
        · rw [h2] at z; cases z
    · intro q
      rcases x.new a q with z | z
      · exact h5 z
      · rw [h2] at z; cases z
  dis := r.dis

/-- an own exception that flies: its class, its own dict -/
def ExR (d : Wd) (F : Hp) (io : List Addr) (c : Nat) (x : D) (cls : Value) (dd : Option Addr) : Prop :=
  cls = .ref (d.ca c) ∧ ∃ f a v, d.T.efld c = some f ∧ dd = some a ∧ F a = some (.xd [(f, v)]) ∧ Rep d F io x v

/-- an evaluation's result, as it lies; W: what is wanted of an exception -/
def Sat {α β : Type} (d : Wd) (W : WX) (sg : L2.St) (F : Hp) (io : List Addr) (H : Hp) (r : Res α) (R : Hp → List Addr → Hp → α → β → Prop) (Q : β → Hp → Prop) : Prop :=
  match r with
  | .ok a M' => ∀ F' io' H' b, Ex F io H F' io' H' → Sub F' H' → Cels d F' io' H' M' → R F' io' H' a b → Q b H'
  | .exc c x M' => ∀ F' io' H' cls dd, Ex F io H F' io' H' → Sub F' H' → Cels d F' io' H' M' → ExR d F' io' c x cls dd → W cls dd sg H'
  | .stuck => False
/-- how a value lies -/
abbrev RV (d : Wd) : Hp → List Addr → Hp → D → V → Prop := fun F io _ x v => Rep d F io x v
abbrev RVs (d : Wd) : Hp → List Addr → Hp → List D → List V → Prop := fun F io _ x v => Reps d F io x v
/-- how a test's answer lies -/
abbrev RB : Hp → List Addr → Hp → Bool → Bool → Prop := fun _ _ _ x b => x = b
/-- a value as a test's answer -/
def tb (r : Res D) : Res Bool := r.bind fun x M => match x with | .bl b => .ok b M | _ => .stuck

section
variable {α β γ δ : Type} {d : Wd} {W : WX} {sg : L2.St} {F : Hp} {io : List Addr} {H : Hp}
/-- what is there in the middle of two evaluations -/
def Mid (d : Wd) (F : Hp) (io : List Addr) (H : Hp) (R1 : Hp → List Addr → Hp → α → β → Prop) (G : Hp → List Addr → Hp → Sto → α → β → Prop) (b : β) (H1 : Hp) : Prop :=
  ∃ F1 io1 M1 a, Ex F io H F1 io1 H1 ∧ Sub F1 H1 ∧ Cels d F1 io1 H1 M1 ∧ R1 F1 io1 H1 a b ∧ G F1 io1 H1 M1 a b
theorem Sat.bind {r : Res α} {f : α → Sto → Res γ} {R : Hp → List Addr → Hp → γ → δ → Prop} {Q : δ → Hp → Prop} (R1 : Hp → List Addr → Hp → α → β → Prop) (h : Sat d W sg F io H (r.bind f) R Q) :
    Sat d W sg F io H r R1 (fun b H1 => Mid d F io H R1 (fun F1 io1 H1 M1 a _ => Sat d W sg F1 io1 H1 (f a M1) R Q) b H1) := by
  cases r with
  | stuck => exact h
  | exc c x M' => exact h
  | ok a M1 =>
    intro F1 io1 H1 b x s c q
    refine ⟨F1, io1, M1, a, x, s, c, q, ?_⟩
    have h : Sat d W sg F io H (f a M1) R Q := h
    show Sat d W sg F1 io1 H1 (f a M1) R Q
    cases k : f a M1 with
    | stuck => rw [k] at h; exact h
    | exc c' y M2 =>
      rw [k] at h
      intro F2 io2 H2 cls dd x2 s2 c2 q2
      exact h F2 io2 H2 cls dd (x.trans x2) s2 c2 q2
    | ok a2 M2 =>
      rw [k] at h
      intro F2 io2 H2 b2 x2 s2 c2 q2
      exact h F2 io2 H2 b2 (x.trans x2) s2 c2 q2
theorem Sat.ok {a : α} {M : Sto} {R : Hp → List Addr → Hp → α → β → Prop} {Q : β → Hp → Prop} {b : β} (h : Sat d W sg F io H (.ok a M) R Q) (s : Sub F H) (c : Cels d F io H M) (q : R F io H a b) : Q b H :=
  h F io H b (Ex.refl F io H) s c q
theorem Sat.mono {r : Res α} {R : Hp → List Addr → Hp → α → β → Prop} {Q Q' : β → Hp → Prop} (h : Sat d W sg F io H r R Q) (k : ∀ b H', Q b H' → Q' b H') : Sat d W sg F io H r R Q' := by
  cases r with
  | stuck => exact h
  | exc c x M' => exact h
  | ok a M1 => exact fun F1 io1 H1 b x s c q => k _ _ (h F1 io1 H1 b x s c q)
theorem Sat.shift {r : Res α} {R : Hp → List Addr → Hp → α → β → Prop} {Q : β → Hp → Prop} {F1 : Hp} {io1 : List Addr} {H1 : Hp} (h : Sat d W sg F io H r R Q) (x : Ex F io H F1 io1 H1) : Sat d W sg F1 io1 H1 r R Q := by
  cases r with
  | stuck => exact h
  | exc c y M' => exact fun F2 io2 H2 cls dd x2 s2 c2 q2 => h F2 io2 H2 cls dd (x.trans x2) s2 c2 q2
  | ok a M1 => exact fun F2 io2 H2 b x2 s2 c2 q2 => h F2 io2 H2 b (x.trans x2) s2 c2 q2
theorem Sat.oR {o : Option α} {M : Sto} {R : Hp → List Addr → Hp → α → β → Prop} {Q : β → Hp → Prop} (h : Sat d W sg F io H (oR o M) R Q) : ∃ a, o = some a ∧ Sat d W sg F io H (.ok a M) R Q := by
  cases o with
  | none => exact h.elim
  | some a => exact ⟨a, rfl, h⟩
end

theorem sat_tb {d : Wd} {W : WX} {sg : L2.St} {F : Hp} {io : List Addr} {H : Hp} {r : Res D} {Q : Bool → Hp → Prop} (h : Sat d W sg F io H (tb r) RB Q) : Sat d W sg F io H r (RV d) (fun v H' => ∃ k, v = .bl k ∧ Q k H') := by
  cases r with
  | stuck => exact h
  | exc c x M' => exact h
  | ok x M' =>
    intro F' io' H' v x1 s1 c1 hr
    cases x with
    | bl b => exact ⟨b, by simpa only [RV, Rep] using hr, h F' io' H' b x1 s1 c1 rfl⟩
    | _ => exact (show False from h).elim
/-- an expression's reading by the small language's meaning -/
def teI (d : Wd) (C : CallT) (W : WX) (p : P) : TE := fun sg H Q => ∃ F io e M, Rl d F io sg H e M ∧ Sat d W sg F io H (ev d.T C p e M) (RV d) Q
def ttI (d : Wd) (C : CallT) (W : WX) (p : P) : TT := fun sg H Q => ∃ F io e M, Rl d F io sg H e M ∧ Sat d W sg F io H (tb (ev d.T C p e M)) RB Q
def taI (d : Wd) (C : CallT) (W : WX) (ps : List P) : TA := fun sg H Q => ∃ F io e M, Rl d F io sg H e M ∧ Sat d W sg F io H (evs d.T C ps e M) (RVs d) Q
/-- a sequence, as it stands: a tuple, a frozen list, a name's own list, a cell's -/
def RQ (d : Wd) : Hp → List Addr → Hp → (Grd × Bool × List D) → V → Prop := fun F io H x v =>
  ∃ a vs, v = .ref a ∧ Reps d F io x.2.2 vs ∧
    ((x.1 = [] ∧ x.2.1 = true ∧ SqT d.K F a vs) ∨ (x.1 = [] ∧ x.2.1 = false ∧ F a = some (.lst vs)) ∨ (x.1 = [] ∧ x.2.1 = false ∧ H a = some (.lst vs) ∧ F a = none ∧ a ∉ io) ∨
      (∃ r, x.1 = [(r, x.2.2)] ∧ x.2.1 = false ∧ io[r]? = some a ∧ H a = some (.lst vs)))
/-- what an index is asked of, as it stands -/
def RO (d : Wd) : Hp → List Addr → Hp → Bool × D → V → Prop := fun F io H x v =>
  (x.1 = true ∧ ∃ a vs l, x.2 = .lst l ∧ v = .ref a ∧ Reps d F io l vs ∧ H a = some (.lst vs) ∧ F a = none ∧ a ∉ io) ∨ (x.1 = false ∧ Rep d F io x.2 v)
def tqI (d : Wd) (C : CallT) (W : WX) (p : P) : TE := fun sg H Q => ∃ F io e M, Rl d F io sg H e M ∧ Sat d W sg F io H (qOf p e M (ev d.T C p e M)) (RQ d) Q

def toI (d : Wd) (C : CallT) (W : WX) (p : P) : TE := fun sg H Q => ∃ F io e M, Rl d F io sg H e M ∧ Sat d W sg F io H (opOf p e M (ev d.T C p e M)) (RO d) Q

theorem PE_imp {X : Cx} {e : Expr} {t t' : TE} (h : PE X e t) (k : ∀ sg H Q, t' sg H Q → t sg H Q) : PE X e t' := ⟨fun pins s sg H Q I q => h.run pins s sg H Q I (k sg H Q q)⟩
theorem PT_imp {X : Cx} {e : Expr} {t t' : TT} (h : PT X e t) (k : ∀ sg H Q, t' sg H Q → t sg H Q) : PT X e t' := ⟨fun pins s sg H Q I q => h.run pins s sg H Q I (k sg H Q q)⟩
theorem PW_imp {X : Cx} {e : Expr} {t t' : TT} (h : PW X e t) (k : ∀ sg H Q, t' sg H Q → t sg H Q) : PW X e t' := ⟨fun w pins s sg H Q I q => h.run w pins s sg H Q I (k sg H Q q)⟩
theorem PA_imp {X : Cx} {es : List Expr} {t t' : TA} (h : PA X es t) (k : ∀ sg H Q, t' sg H Q → t sg H Q) : PA X es t' := ⟨fun pos pins s sg H Q I q => h.run pos pins s sg H Q I (k sg H Q q)⟩
theorem PS_imp {X : Cx} {st : Stmt} {t t' : TS} (h : PS X st t) (k : ∀ D sg H, t' D sg H → t D sg H) : PS X st t' := ⟨fun pins s sg H D I q => h.run pins s sg H D I (k D sg H q)⟩
theorem PSs_imp {X : Cx} {st : List Stmt} {t t' : TS} (h : PSs X st t) (k : ∀ D sg H, t' D sg H → t D sg H) : PSs X st t' := ⟨fun pins s sg H D I q => h.run pins s sg H D I (k D sg H q)⟩

section
variable {d : Wd} {F : Hp} {io : List Addr} {H : Hp} {M : Sto}
theorem Cels.updO {F : Hp} {a : Addr} {o : HO} (c : Cels d F io H M) (h : H a = none) : Cels d F io (upd H a o) M where
  len := c.len
  nd := c.nd
  out := c.out
  cel := fun r k e => by
    obtain ⟨b, h1, h2⟩ := c.cel r k e
    refine ⟨b, h1, ?_⟩
    have ne : ∀ {b u}, H b = some u → b ≠ a := fun q z => by rw [z, h] at q; cases q
    cases k with
    | lst l => obtain ⟨vs, e1, e2⟩ := h2; exact ⟨vs, by rw [upd_ne (ne e1)]; exact e1, e2⟩
    | obj c fs => obtain ⟨dx, vfs, e1, e2, e3, e4⟩ := h2; exact ⟨dx, vfs, by rw [upd_ne (ne e1)]; exact e1, by rw [upd_ne (ne e2)]; exact e2, e3, e4⟩
    | dct kvs => obtain ⟨vkv, e1, e2⟩ := h2; exact ⟨vkv, by rw [upd_ne (ne e1)]; exact e1, e2⟩
theorem Cels.frz {F' : Hp} (c : Cels d F io H M) (s : Sub F F') (n : ∀ a ∈ io, F' a = none) : Cels d F' io H M where
  len := c.len
  nd := c.nd
  out := n
  cel := fun r k e => by
    obtain ⟨b, h1, h2⟩ := c.cel r k e
    refine ⟨b, h1, ?_⟩
    cases k with
    | lst l => obtain ⟨vs, e1, e2⟩ := h2; exact ⟨vs, e1, Reps.mono s (Pre.refl _) _ _ e2⟩
    | obj c fs => obtain ⟨dx, vfs, e1, e2, e3, e4⟩ := h2; exact ⟨dx, vfs, e1, e2, e3, Reps.mono s (Pre.refl _) _ _ e4⟩
    | dct kvs => obtain ⟨vkv, e1, e2, e3⟩ := h2; exact ⟨vkv, e1, e2, Reps.mono s (Pre.refl _) _ _ e3⟩
/-- each cell stands in the heap -/
theorem Cels.has (c : Cels d F io H M) {a : Addr} (h : a ∈ io) : H a ≠ none := by
  obtain ⟨r, hr, e⟩ := List.mem_iff_getElem.mp h
  have hM : r < M.length := by rw [← c.len]; exact hr
  obtain ⟨b, h1, h2⟩ := c.cel r M[r] (by simp [hM])
  have : b = a := by rw [List.getElem?_eq_getElem hr] at h1; cases h1; exact e
  subst this
  cases q : M[r] with
  | lst l => rw [q] at h2; obtain ⟨vs, e1, _⟩ := h2; rw [e1]; simp
  | obj c fs => rw [q] at h2; obtain ⟨dx, vfs, e1, _⟩ := h2; rw [e1]; simp
  | dct kvs => rw [q] at h2; obtain ⟨vkv, e1, _⟩ := h2; rw [e1]; simp
/-- a new object, frozen at once -/
theorem ex_new {p : Addr} {o : HO} (s : Sub F H) (c : Cels d F io H M) (h : H p = none) :
    Ex F io H (upd F p o) io (upd H p o) ∧ Sub (upd F p o) (upd H p o) ∧ Cels d (upd F p o) io (upd H p o) M := by
  have hF := s.none h
  refine ⟨⟨Sub.updF hF, Pre.refl _, fun a u e => ?_, fun _ h => .inl h, fun a u e _ => ?_, fun a e => ?_, fun a c dx fs e => ⟨fs, ?_⟩⟩, s.bothU, (c.updO h).frz (Sub.updF hF) fun a ha => ?_⟩
  · by_cases q : a = p
    · subst q; exact .inr h
    · rw [upd_ne q] at e; exact .inl e
  · have : a ≠ p := fun q => by rw [q, h] at e; cases e
    rw [upd_ne this]; exact e
  · have : a ≠ p := fun q => by rw [q] at e; exact e h
    rw [upd_ne this]; exact e
  · have : a ≠ p := fun q => by rw [q, h] at e; cases e
    rw [upd_ne this]; exact e
  · have : a ≠ p := fun q => by rw [q] at ha; exact c.has ha h
    rw [upd_ne this]; exact c.out a ha
/-- .. not frozen -/
theorem ex_own {p : Addr} {o : HO} (s : Sub F H) (c : Cels d F io H M) (h : H p = none) : Ex F io H F io (upd H p o) ∧ Sub F (upd H p o) ∧ Cels d F io (upd H p o) M := by
  have hF := s.none h
  refine ⟨⟨Sub.refl _, Pre.refl _, fun a u e => .inl e, fun _ h => .inl h, fun a u e _ => ?_, fun a e => ?_, fun a c dx fs e => ⟨fs, ?_⟩⟩, s.updO hF, c.updO h⟩
  · have : a ≠ p := fun q => by rw [q, h] at e; cases e
    rw [upd_ne this]; exact e
  · have : a ≠ p := fun q => by rw [q] at e; exact e h
    rw [upd_ne this]; exact e
  · have : a ≠ p := fun q => by rw [q, h] at e; cases e
    rw [upd_ne this]; exact e
end
end Rb

/-! RbOps: the operators, by values. Own work. -/
namespace Rb
open PySem PySem.Spec PyProof.Rows L2

theorem lim_eq : lim = sizeLine := by rw [sizeLine_eq]; rfl
theorem rep_int {d : Wd} {F : Hp} {io : List Addr} {i : Int} {v : V} (h : Rep d F io (.int i) v) : v = .int i := by simpa only [Rep] using h
theorem rep_bl {d : Wd} {F : Hp} {io : List Addr} {i : Bool} {v : V} (h : Rep d F io (.bl i) v) : v = .bl i := by simpa only [Rep] using h
theorem rep_str {d : Wd} {F : Hp} {io : List Addr} {i : Str} {v : V} (h : Rep d F io (.str i) v) : v = .str i := by simpa only [Rep] using h
theorem rep_non {d : Wd} {F : Hp} {io : List Addr} {v : V} (h : Rep d F io .non v) : v = .non := by simpa only [Rep] using h
theorem rep_tup {d : Wd} {F : Hp} {io : List Addr} {l : List D} {v : V} (h : Rep d F io (.tup l) v) : ∃ a vs, v = .ref a ∧ SqT d.K F a vs ∧ Reps d F io l vs := by simpa only [Rep] using h
theorem rep_lst {d : Wd} {F : Hp} {io : List Addr} {l : List D} {v : V} (h : Rep d F io (.lst l) v) : ∃ a vs, v = .ref a ∧ F a = some (.lst vs) ∧ Reps d F io l vs := by simpa only [Rep] using h
theorem rep_ro {d : Wd} {F : Hp} {io : List Addr} {l : List D} {v : V} (h : Rep d F io (.ro l) v) : ∃ a vs, v = .ref a ∧ SqL d.K F a vs ∧ Reps d F io l vs := by simpa only [Rep] using h
theorem rep_cel {d : Wd} {F : Hp} {io : List Addr} {r : Nat} {v : V} (h : Rep d F io (.cel r) v) : ∃ a, v = .ref a ∧ io[r]? = some a := by simpa only [Rep] using h
theorem rep_ins {d : Wd} {F : Hp} {io : List Addr} {c : Nat} {l : List D} {v : V} (h : Rep d F io (.ins c l) v) :
    ∃ a dx vs, v = .ref a ∧ F a = some (.ins (d.ca c) dx ((d.T.flds c).zip vs)) ∧ F dx = some (.own a) ∧ l.length = (d.T.flds c).length ∧ Reps d F io l vs := by simpa only [Rep] using h
theorem rep_exn {d : Wd} {F : Hp} {io : List Addr} {c : Nat} {x : D} {v : V} (h : Rep d F io (.exn c x) v) : False := by simp only [Rep] at h
theorem rep_tup' {d : Wd} {F : Hp} {io : List Addr} {l : List D} {a : Addr} {vs : List V} (h : SqT d.K F a vs) (r : Reps d F io l vs) : Rep d F io (.tup l) (.ref a) := by simp only [Rep]; exact ⟨a, vs, rfl, h, r⟩
theorem rep_lst' {d : Wd} {F : Hp} {io : List Addr} {l : List D} {a : Addr} {vs : List V} (h : F a = some (.lst vs)) (r : Reps d F io l vs) : Rep d F io (.lst l) (.ref a) := by simp only [Rep]; exact ⟨a, vs, rfl, h, r⟩

section
variable {d : Wd} {F H : Hp} {io : List Addr}
mutual
theorem Rep.dp (s : Sub F H) : ∀ (x : D) (v : V) (p : PyData), Rep d F io x v → x.py = some p → Dp d.K H v p
  | .non, v, p, h, e => by simp only [D.py, Option.some.injEq] at e; subst e; rw [rep_non h]; exact .non
  | .bl b, v, p, h, e => by simp only [D.py, Option.some.injEq] at e; subst e; rw [rep_bl h]; exact .bl b
  | .int i, v, p, h, e => by simp only [D.py, Option.some.injEq] at e; subst e; rw [rep_int h]; exact .int i
  | .str i, v, p, h, e => by simp only [D.py, Option.some.injEq] at e; subst e; rw [rep_str h]; exact .str i
  | .tup l, v, p, h, e => by
    simp only [D.py, Option.map_eq_some_iff] at e
    obtain ⟨q, e1, e2⟩ := e
    subst e2
    obtain ⟨a, vs, rfl, h1, h2⟩ := rep_tup h
    exact .tup (s.sqt h1) (Reps.dp s l vs q h2 e1)
  | .lst l, v, p, h, e => by
    simp only [D.py, Option.map_eq_some_iff] at e
    obtain ⟨q, e1, e2⟩ := e
    subst e2
    obtain ⟨a, vs, rfl, h1, h2⟩ := rep_lst h
    exact .lst (SqL.of (s _ _ h1)) (Reps.dp s l vs q h2 e1)
  | .cel _, _, _, _, e => by simp only [D.py] at e; cases e
  | .ins _ _, _, _, _, e => by simp only [D.py] at e; cases e
  | .exn _ _, _, _, _, e => by simp only [D.py] at e; cases e
  | .ro _, _, _, _, e => by simp only [D.py] at e; cases e
theorem Reps.dp (s : Sub F H) : ∀ (l : List D) (vs : List V) (p : List PyData), Reps d F io l vs → D.pys l = some p → DpAll d.K H vs p
  | [], vs, p, h, e => by
    simp only [D.pys, Option.some.injEq] at e; subst e
    simp only [Reps] at h; subst h
    exact .nil
  | x :: l, vs, p, h, e => by
    simp only [D.pys, Option.bind_eq_some_iff, Option.map_eq_some_iff] at e
    obtain ⟨q, e1, r, e2, e3⟩ := e
    subst e3
    simp only [Reps] at h
    obtain ⟨v, ws, rfl, h1, h2⟩ := h
    exact .cons (Rep.dp s x v q h1 e1) (Reps.dp s l ws r h2 e2)
end
end

/-- a two-place operation by values -/
def rOf (d : Wd) (g : D → D → Option D) : R2 := fun v u H Q => ∃ F io M x y z, Sub F H ∧ Cels d F io H M ∧ Rep d F io x v ∧ Rep d F io y u ∧ g x y = some z ∧
  ∀ F' io' H' b, Ex F io H F' io' H' → Sub F' H' → Cels d F' io' H' M → Rep d F' io' z b → Q b H'
section
variable {d : Wd} {F H : Hp} {io : List Addr} {M : Sto} {Q : VK}
/-- a plain answer -/
theorem post_plain {z : D} {b : V} (s : Sub F H) (c : Cels d F io H M) (q : ∀ F' io' H' b, Ex F io H F' io' H' → Sub F' H' → Cels d F' io' H' M → Rep d F' io' z b → Q b H') (h : Rep d F io z b) : Q b H :=
  q F io H b (Ex.refl _ _ _) s c h
/-- a new tuple -/
theorem post_tup {l : List D} {vs : List V} {p : Addr} (s : Sub F H) (c : Cels d F io H M) (q : ∀ F' io' H' b, Ex F io H F' io' H' → Sub F' H' → Cels d F' io' H' M → Rep d F' io' (.tup l) b → Q b H')
    (hp : H p = none) (r : Reps d F io l vs) : Q (.ref p) (upd H p (.tup vs)) := by
  obtain ⟨x, s', c'⟩ := ex_new (o := .tup vs) s c hp
  exact q _ _ _ _ x s' c' (rep_tup' (SqT.of upd_same) (Reps.mono x.sub x.pre _ _ r))
theorem post_lst {l : List D} {vs : List V} {p : Addr} (s : Sub F H) (c : Cels d F io H M) (q : ∀ F' io' H' b, Ex F io H F' io' H' → Sub F' H' → Cels d F' io' H' M → Rep d F' io' (.lst l) b → Q b H')
    (hp : H p = none) (r : Reps d F io l vs) : Q (.ref p) (upd H p (.lst vs)) := by
  obtain ⟨x, s', c'⟩ := ex_new (o := .lst vs) s c hp
  exact q _ _ _ _ x s' c' (rep_lst' upd_same (Reps.mono x.sub x.pre _ _ r))
end
theorem Reps.ne {d : Wd} {F : Hp} {io : List Addr} {l : List D} {vs : List V} (h : Reps d F io l vs) : vs = [] ↔ l = [] := by
  have := h.length
  constructor
  · intro e; subst e; exact List.length_eq_zero_iff.mp (by simpa using this)
  · intro e; subst e; exact List.length_eq_zero_iff.mp (by simpa using this.symm)

section
variable {X : Cx} {d : Wd}
theorem op_addD (hK : X.K = d.K) : OpR X (binaryOp .Add) (rOf d (binD .add)) := by
  intro pins s sg H v u vv uu Q I r1 r2 h
  obtain ⟨F, io, M, x, y, z, sf, c, h1, h2, e, q⟩ := h
  cases x with
  | int i =>
    cases y with
    | int j =>
      simp only [binD, Option.some.injEq] at e; subst e
      exact op_add pins s sg H v u vv uu Q I r1 r2 ⟨i, j, rep_int h1, rep_int h2, post_plain sf c q (by simp only [Rep])⟩
    | _ => simp only [binD] at e; cases e
  | str i =>
    cases y with
    | str j =>
      simp only [binD] at e
      split at e
      · rename_i hz
        simp only [Option.some.injEq] at e; subst e
        exact op_add_str pins s sg H v u vv uu Q I r1 r2 ⟨i, j, rep_str h1, rep_str h2, by rw [← lim_eq]; exact hz, post_plain sf c q (by simp only [Rep])⟩
      · cases e
    | _ => simp only [binD] at e; cases e
  | tup l =>
    cases y with
    | tup m =>
      simp only [binD] at e
      split at e
      · rename_i hz
        simp only [Option.some.injEq] at e; subst e
        obtain ⟨a, vs, rfl, k1, k2⟩ := rep_tup h1
        obtain ⟨b, ws, rfl, k3, k4⟩ := rep_tup h2
        refine op_catA pins s sg H _ _ vv uu Q I r1 r2 ⟨a, b, vs, ws, rfl, rfl, by rw [hK]; exact sf.sqt k1, by rw [hK]; exact sf.sqt k3, ?_, fun e => ?_, fun n e => ?_, fun _ _ p hp => post_tup sf c q hp (k2.append k4)⟩
        · rw [← k2.length, ← k4.length, ← lim_eq]; exact hz
        · have : l = [] := k2.ne.mp e
          subst this
          exact post_plain sf c q (by simpa using h2)
        · have : m = [] := k4.ne.mp e
          subst this
          exact post_plain sf c q (by simpa using h1)
      · cases e
    | _ => simp only [binD] at e; cases e
  | lst l =>
    cases y with
    | lst m =>
      simp only [binD] at e
      split at e
      · rename_i hz
        simp only [Option.some.injEq] at e; subst e
        obtain ⟨a, vs, rfl, k1, k2⟩ := rep_lst h1
        obtain ⟨b, ws, rfl, k3, k4⟩ := rep_lst h2
        refine op_cat pins s sg H _ _ vv uu Q I r1 r2 ⟨a, b, vs, ws, rfl, rfl, sf _ _ k1, sf _ _ k3, ?_, fun p hp => post_lst sf c q hp (k2.append k4)⟩
        rw [← k2.length, ← k4.length, ← lim_eq]; exact hz
      · cases e
    | _ => simp only [binD] at e; cases e
  | _ => simp only [binD] at e; cases e
theorem op_subD : OpR X (binaryOp .Sub) (rOf d (binD .sub)) := by
  intro pins s sg H v u vv uu Q I r1 r2 h
  obtain ⟨F, io, M, x, y, z, sf, c, h1, h2, e, q⟩ := h
  cases x with
  | int i =>
    cases y with
    | int j =>
      simp only [binD, Option.some.injEq] at e; subst e
      exact op_sub pins s sg H v u vv uu Q I r1 r2 ⟨i, j, rep_int h1, rep_int h2, post_plain sf c q (by simp only [Rep])⟩
    | _ => simp only [binD] at e; cases e
  | _ => simp only [binD] at e; cases e
theorem op_fdvN : OpR X (binaryOp .FloorDiv) (rI (fun i j => j ≠ 0 ∧ Builtin.divisionGoesByPylong i j = false) fun i j => .int (i.fdiv j)) := opI fun i j _ _ _ _ _ hc q => floordiv_int hc.1 q (.inl hc.2)
theorem op_fdvD : OpR X (binaryOp .FloorDiv) (rOf d (binD .fdv)) := by
  intro pins s sg H v u vv uu Q I r1 r2 h
  obtain ⟨F, io, M, x, y, z, sf, c, h1, h2, e, q⟩ := h
  cases x with
  | int i =>
    cases y with
    | int j =>
      simp only [binD] at e
      split at e
      · rename_i hz
        simp only [Option.some.injEq] at e; subst e
        simp only [divOk, Bool.and_eq_true, decide_eq_true_eq, Bool.not_eq_true'] at hz
        exact op_fdvN pins s sg H v u vv uu Q I r1 r2 ⟨i, j, rep_int h1, rep_int h2, hz, post_plain sf c q (by simp only [Rep])⟩
      · cases e
    | _ => simp only [binD] at e; cases e
  | _ => simp only [binD] at e; cases e
theorem op_modD : OpR X (binaryOp .Mod) (rOf d (binD .mod)) := by
  intro pins s sg H v u vv uu Q I r1 r2 h
  obtain ⟨F, io, M, x, y, z, sf, c, h1, h2, e, q⟩ := h
  cases x with
  | int i =>
    cases y with
    | int j =>
      simp only [binD] at e
      split at e
      · rename_i hz
        simp only [Option.some.injEq] at e; subst e
        exact op_modN pins s sg H v u vv uu Q I r1 r2 ⟨i, j, rep_int h1, rep_int h2, hz, post_plain sf c q (by simp only [Rep])⟩
      · cases e
    | _ => simp only [binD] at e; cases e
  | _ => simp only [binD] at e; cases e
theorem op_powD : OpR X (binaryOp .Pow) (rOf d (binD .pow)) := by
  intro pins s sg H v u vv uu Q I r1 r2 h
  obtain ⟨F, io, M, x, y, z, sf, c, h1, h2, e, q⟩ := h
  cases x with
  | int i =>
    cases y with
    | int j =>
      simp only [binD] at e
      split at e
      · rename_i hz
        simp only [Option.some.injEq] at e; subst e
        exact op_pow pins s sg H v u vv uu Q I r1 r2 ⟨i, j, rep_int h1, rep_int h2, ⟨hz.1, hz.2.1, hz.2.2⟩, post_plain sf c q (by simp only [Rep])⟩
      · cases e
    | _ => simp only [binD] at e; cases e
  | _ => simp only [binD] at e; cases e
theorem op_mulI : OpR X (binaryOp .Mult) (rI (fun i j => mulOk i j = true) fun i j => .int (i * j)) := opI fun i j _ _ _ _ _ hc q => mul_int q (by
  simp only [mulOk, Bool.or_eq_true, decide_eq_true_eq] at hc
  rcases hc with (hc | hc) | hc
  · exact CMulW.ok (show CMulW i j from hc)
  · exact CMul.ok (.inl (by omega))
  · exact CMul.ok (.inr (by omega)))
theorem tuple_mul1 (l : Addr) (items : Array Value) (n : Nat) (dd : Option Addr) (sl : Array (Option Value)) (u : Tok) :
    Meets (Builtin.«tuple.__mul__» ⟨[.ref l, .int 1 u], []⟩) (fun _ R s => s.heap.get? l = some { cls := .type "tuple", dict := dd, data := .seq items n, slots := sl } ∧ R (.ok (.ret (Value.ref l))) s) :=
  .of_wp fun prog w A R s h => by
    obtain ⟨hp, g, d, tk, os⟩ := s
    obtain ⟨hl, h⟩ := h
    have f1 := AutoSeq1.idx_int
    have c1 : (items.isEmpty || ((1 : Int) == 1)) = true := by simp
    wp_walk using MeetsSeq.wpAny_loadPart' hl
    exact ⟨_, rfl, h⟩
def rRepT1 (K : PySem.W.Frag) : R2 := fun x y H Q => ∃ l xs, x = .ref l ∧ y = .int 1 ∧ SqT K H l xs ∧ Q (.ref l) H
theorem op_repT1 : OpR X (binaryOp .Mult) (rRepT1 X.K) := by
  intro pins s σ H x y v u Q I rx ry h
  obtain ⟨l, xs, rfl, rfl, hT, q⟩ := h
  cases rx
  obtain ⟨t, rfl⟩ := ry
  obtain ⟨its, r, ⟨⟨cls, dd, data, sl⟩, ho, hc, n, hd⟩, hs⟩ := I.tuple hT
  simp only at hc hd
  subst hc hd
  refine wpAny_binaryOp_repeat_ref (T := "tuple") (U := "int") (by decide) ⟨_, ho, rfl⟩ (fun s' => typeIs_int s' 1 t) noFill_tuple_mul F.fills_int_mul F.slot_int_rmul repeat_tuple F.slot_int_index.lookup
    (call_meets F.slot_int_rmul (typeIs_int s 1 t) F.entry_int_rmul (F.args_int_rmul_2 _ _) (int_rmul_tuple 1 t l its.toArray n dd sl)
      ⟨ho, rfl, ⟨_, ho, rfl⟩, call_meets F.slot_tuple_mul ⟨_, ho, rfl⟩ F.entry_tuple_mul (F.args_tuple_mul_2 _ _) (tuple_mul1 l its.toArray n dd sl t) ⟨ho, ?_⟩⟩)
  exact ⟨.ref l, H, I, rfl, q⟩
theorem op_mulD (hK : X.K = d.K) : OpR X (binaryOp .Mult) (rOf d (binD .mul)) := by
  intro pins s sg H v u vv uu Q I r1 r2 h
  obtain ⟨F, io, M, x, y, z, sf, c, h1, h2, e, q⟩ := h
  cases x with
  | int i =>
    cases y with
    | int j =>
      simp only [binD] at e
      split at e
      · rename_i hz
        simp only [Option.some.injEq] at e; subst e
        exact op_mulI pins s sg H v u vv uu Q I r1 r2 ⟨i, j, rep_int h1, rep_int h2, hz, post_plain sf c q (by simp only [Rep])⟩
      · cases e
    | _ => simp only [binD] at e; cases e
  | tup l =>
    cases y with
    | int k =>
      simp only [binD] at e
      split at e
      · rename_i hz
        simp only [Option.some.injEq] at e; subst e
        obtain ⟨hz1, hz2, hz3, hz4⟩ := hz
        obtain ⟨a, vs, rfl, k1, k2⟩ := rep_tup h1
        by_cases hk : k = 1
        · subst hk
          refine op_repT1 pins s sg H _ _ vv uu Q I r1 r2 ⟨a, vs, rfl, rep_int h2, by rw [hK]; exact sf.sqt k1, ?_⟩
          refine post_plain sf c q ?_
          have : repL l (Int.toNat 1) = l := by simp [repL]
          rw [this]; exact h1
        · refine op_repT pins s sg H _ _ vv uu Q I r1 r2 ⟨a, k, vs, rfl, rep_int h2, by rw [hK]; exact sf.sqt k1, fun e => hz3 (k2.ne.mp e), by omega, hz2, by rw [← k2.length]; exact hz4, fun p hp => ?_⟩
          exact post_tup sf c q hp (k2.rep k.toNat)
      · cases e
    | _ => simp only [binD] at e; cases e
  | lst l =>
    cases y with
    | int k =>
      simp only [binD] at e
      split at e
      · rename_i hz
        simp only [Option.some.injEq] at e; subst e
        obtain ⟨hz1, hz2, hz3⟩ := hz
        obtain ⟨a, vs, rfl, k1, k2⟩ := rep_lst h1
        refine op_rep pins s sg H _ _ vv uu Q I r1 r2 ⟨a, k, vs, rfl, rep_int h2, sf _ _ k1, by omega, by omega, by rw [← k2.length, ← lim_eq]; exact hz3, fun p hp => ?_⟩
        exact post_lst sf c q hp (k2.rep k.toNat)
      · cases e
    | _ => simp only [binD] at e; cases e
  | _ => simp only [binD] at e; cases e
/-- a test of two ints -/
def cmpI (g : Int → Int → Bool) (x y : D) : Option D := match x, y with | .int i, .int j => some (.bl (g i j)) | _, _ => none
theorem op_cmpI {f : Value → Value → Sem Value} {g : Int → Int → Bool} (ho : OpR X f (rI0 fun i j => .bl (g i j))) : OpR X f (rOf d (cmpI g)) := by
  intro pins s sg H v u vv uu Q I r1 r2 h
  obtain ⟨F, io, M, x, y, z, sf, c, h1, h2, e, q⟩ := h
  cases x with
  | int i =>
    cases y with
    | int j =>
      simp only [cmpI, Option.some.injEq] at e; subst e
      exact ho pins s sg H v u vv uu Q I r1 r2 ⟨i, j, rep_int h1, rep_int h2, post_plain sf c q (by simp only [Rep])⟩
    | _ => simp only [cmpI] at e; cases e
  | _ => simp only [cmpI] at e; cases e
theorem op_eqDD (hK : X.K = d.K) (hu : X.A.units + 64 < cLine) : OpR X (compareOp .Eq) (rOf d fun x y => (eqO x y).map .bl) := by
  intro pins s sg H v u vv uu Q I r1 r2 h
  obtain ⟨F, io, M, x, y, z, sf, c, h1, h2, e, q⟩ := h
  simp only [eqO] at e
  split at e
  · rename_i p p' e1 e2
    split at e
    · rename_i hs
      simp only [Option.map_some, Option.some.injEq] at e; subst e
      simp only [Bool.and_eq_true] at hs
      exact op_eqD hu pins s sg H v u vv uu Q I r1 r2 ⟨p, p', by rw [hK]; exact Rep.dp sf _ _ _ h1 e1, by rw [hK]; exact Rep.dp sf _ _ _ h2 e2, hs.1, hs.2, post_plain sf c q (by simp only [Rep])⟩
    · cases e
  · cases e
theorem op_neDD (hK : X.K = d.K) (hu : X.A.units + 64 < cLine) : OpR X (compareOp .NotEq) (rOf d fun x y => (eqO x y).map fun r => .bl !r) := by
  intro pins s sg H v u vv uu Q I r1 r2 h
  obtain ⟨F, io, M, x, y, z, sf, c, h1, h2, e, q⟩ := h
  simp only [eqO] at e
  split at e
  · rename_i p p' e1 e2
    split at e
    · rename_i hs
      simp only [Option.map_some, Option.some.injEq] at e; subst e
      simp only [Bool.and_eq_true] at hs
      exact op_neD hu pins s sg H v u vv uu Q I r1 r2 ⟨p, p', by rw [hK]; exact Rep.dp sf _ _ _ h1 e1, by rw [hK]; exact Rep.dp sf _ _ _ h2 e2, hs.1, hs.2, post_plain sf c q (by simp only [Rep])⟩
    · cases e
  · cases e
end
end Rb

/-! RbSnd1: names, constants, operators, comparisons, tests. Own work. -/
namespace Rb
open PySem PySem.Spec PyProof.Rows L2
section
variable {X : Cx} {d : Wd} {C : CallT} {W : WX} {pos : Pos}

theorem s_nm {i : Nat} {x : Str} (hN : X.N[i]? = some x) (hv : Vis X.env.scope x) (h1 : (x == ("__debug__" : Str)) = false) (h2 : (x == ("__classdict__" : Str)) = false) : PE X (.Name x pos) (teI d C W (.nm i)) := by
  refine PE_imp (pe_var (i := i) hN hv h1 h2) fun sg H Q h => ?_
  obtain ⟨F, io, e, M, r, h⟩ := h
  simp only [ev] at h
  split at h
  · exact h.elim
  · rename_i x y he hne
    rcases r.val i _ hne with ⟨c, v, q⟩ | ⟨v, k1, k2⟩
    · exact absurd q (by intro z; subst z; exact he c v rfl)
    · exact ⟨v, k1, h.ok r.sub r.cl k2⟩
  · exact h.elim
theorem s_cst {D0 : D} {v : V} {e : Expr} (he : PE X e (tC v)) (hr : ∀ F io, Rep d F io D0 v) : PE X e (teI d C W (.cst D0)) := by
  refine PE_imp he fun sg H Q h => ?_
  obtain ⟨F, io, e, M, r, h⟩ := h
  exact h.ok r.sub r.cl (hr _ _)
theorem s_glo {g : Nat} {x : Str} {u : Value} {v : V} (hg : Gl X x) (hm : X.mg x = some u) (hr : RelV v u) (hd : (x == ("__debug__" : Str)) = false) (hR : ∀ D0, d.T.glo g = some D0 → ∀ F io, Rep d F io D0 v) :
    PE X (.Name x pos) (teI d C W (.glo g)) := by
  refine PE_imp (pe_glob hg hm hr hd) fun sg H Q h => ?_
  obtain ⟨F, io, e, M, r, h⟩ := h
  simp only [ev] at h
  obtain ⟨D0, e0, h⟩ := h.oR
  exact h.ok r.sub r.cl (hR D0 e0 _ _)

/-- from a binary reading to its rule -/
theorem bin_imp {a b : P} {p : P} {g : D → D → Sto → Res D} (hp : ∀ e M, ev d.T C p e M = (ev d.T C a e M).bind fun x M1 => (ev d.T C b e M1).bind fun y M2 => g x y M2)
    {r : R2} (hr : ∀ F io H M sg x y v u Q, Sub F H → Cels d F io H M → Rep d F io x v → Rep d F io y u → Sat d W sg F io H (g x y M) (RV d) Q → r v u H Q) :
    ∀ sg H Q, teI d C W p sg H Q → tOp r (teI d C W a) (teI d C W b) sg H Q := by
  intro sg H Q h
  obtain ⟨F, io, e, M, rl, h⟩ := h
  rw [hp] at h
  refine ⟨F, io, e, M, rl, (h.bind (RV d)).mono fun v H1 m => ?_⟩
  obtain ⟨F1, io1, M1, x, x1, s1, c1, q1, h1⟩ := m
  refine ⟨F1, io1, e, M1, rl.ex x1 s1 c1, (h1.bind (RV d)).mono fun u H2 m2 => ?_⟩
  obtain ⟨F2, io2, M2, y, x2, s2, c2, q2, h2⟩ := m2
  exact hr F2 io2 H2 M2 sg x y v u Q s2 c2 (Rep.mono x2.sub x2.pre _ _ q1) q2 h2
theorem rOf_of {g : D → D → Option D} {F : Hp} {io : List Addr} {H : Hp} {M : Sto} {sg : L2.St} {x y : D} {v u : V} {Q : VK} (s : Sub F H) (c : Cels d F io H M) (h1 : Rep d F io x v) (h2 : Rep d F io y u)
    (h : Sat d W sg F io H (oR (g x y) M) (RV d) Q) : rOf d g v u H Q := by
  obtain ⟨z, e, h⟩ := h.oR
  exact ⟨F, io, M, x, y, z, s, c, h1, h2, e, h⟩
theorem s_bin {op : Operator} {o : BOp} {a b : P} {ea eb : Expr} (ho : OpR X (binaryOp op) (rOf d (binD o))) (ha : PE X ea (teI d C W a)) (hb : PE X eb (teI d C W b)) : PE X (.BinOp ea op eb pos) (teI d C W (.bin o a b)) :=
  PE_imp (pe_op ho ha hb) (bin_imp (g := fun x y M => oR (binD o x y) M) (fun e M => by simp only [ev]) fun F io H M sg x y v u Q s c h1 h2 h => rOf_of s c h1 h2 h)

/-- a comparison's rule by values -/
def CmpOk (X : Cx) (d : Wd) (C : CallT) (W : WX) (op : CmpOp) (o : COp) : Prop :=
  OpR X (compareOp op) fun v u H Q => ∃ F io M x y sg, Sub F H ∧ Cels d F io H M ∧ Rep d F io x v ∧ Rep d F io y u ∧ Sat d W sg F io H (cmpD d.T C o x y M) (RV d) Q
theorem cmp_of {op : CmpOp} {o : COp} {g : D → D → Option D} (ho : OpR X (compareOp op) (rOf d g)) (hg : ∀ x y M, cmpD d.T C o x y M = oR (g x y) M) : CmpOk X d C W op o := by
  intro pins s sg H v u vv uu Q I r1 r2 h
  obtain ⟨F, io, M, x, y, sg', sf, c, h1, h2, h⟩ := h
  rw [hg] at h
  exact ho pins s sg H v u vv uu Q I r1 r2 (rOf_of sf c h1 h2 h)
theorem cmp_lt : CmpOk X d C W .Lt .lt := cmp_of (op_cmpI op_lt) fun x y M => by cases x <;> cases y <;> rfl
theorem cmp_le : CmpOk X d C W .LtE .le := cmp_of (op_cmpI op_le) fun x y M => by cases x <;> cases y <;> rfl
theorem cmp_gt : CmpOk X d C W .Gt .gt := cmp_of (op_cmpI op_gt) fun x y M => by cases x <;> cases y <;> rfl
theorem cmp_ge : CmpOk X d C W .GtE .ge := cmp_of (op_cmpI op_ge) fun x y M => by cases x <;> cases y <;> rfl
theorem cmp_ne (hK : X.K = d.K) (hu : X.A.units + 64 < cLine) : CmpOk X d C W .NotEq .ne := cmp_of (op_neDD hK hu) fun x y M => rfl
theorem cmp_eqp (hK : X.K = d.K) (hu : X.A.units + 64 < cLine) : CmpOk X d C W .Eq .eqp := cmp_of (op_eqDD hK hu) fun x y M => rfl
/-- not in, in -/
def COp.plain : COp → Bool
  | .isin => false | .notin => false | _ => true
theorem ev_cmp {o : COp} (h : o.plain = true) (a b : P) (e : Env) (M : Sto) : ev d.T C (.cmp o a b) e M = (ev d.T C a e M).bind fun x M1 => (ev d.T C b e M1).bind fun y M2 => cmpD d.T C o x y M2 := by
  cases o <;> first | (simp only [ev]; done) | (cases h)
theorem s_cmp {op : CmpOp} {o : COp} {a b : P} {ea eb : Expr} (hp : o.plain = true) (ho : CmpOk X d C W op o) (ha : PE X ea (teI d C W a)) (hb : PE X eb (teI d C W b)) (hm : behindInMarks op eb = false) :
    PE X (.Compare ea [op] [eb] pos) (teI d C W (.cmp o a b)) :=
  PE_imp (pe_cmpR ho ha hb hm) (bin_imp (ev_cmp hp a b) fun F io H M sg x y v u Q s c h1 h2 h => ⟨F, io, M, x, y, sg, s, c, h1, h2, h⟩)
/-- a test by its value's reading -/
theorem tt_of {p : P} {t : TE} (k : ∀ sg H Q, teI d C W p sg H Q → t sg H Q) : ∀ sg H Q, ttI d C W p sg H Q → tTest t sg H Q := by
  intro sg H Q h
  obtain ⟨F, io, e, M, r, h⟩ := h
  exact k sg H _ ⟨F, io, e, M, r, sat_tb h⟩
theorem t_val {p : P} {e : Expr} (h : PE X e (teI d C W p)) (he : ∀ whole, isTrue e X.env whole = (do let v ← whole; standAt e.pos; holding [v] (truthy v))) : PT X e (ttI d C W p) :=
  PT_imp (pt_val h he) fun sg H Q q => tt_of (fun _ _ _ z => z) sg H Q q
theorem t_cmp {op : CmpOp} {o : COp} {a b : P} {ea eb : Expr} (hp : o.plain = true) (ho : CmpOk X d C W op o) (ha : PE X ea (teI d C W a)) (hb : PE X eb (teI d C W b)) (hm : behindInMarks op eb = false) :
    PT X (.Compare ea [op] [eb] pos) (ttI d C W (.cmp o a b)) :=
  PT_imp (pt_cmpR ho ha hb hm) (tt_of (bin_imp (ev_cmp hp a b) fun F io H M sg x y v u Q s c h1 h2 h => ⟨F, io, M, x, y, sg, s, c, h1, h2, h⟩))
theorem chn_imp {o1 o2 : COp} {a b c : P} : ∀ sg H Q, teI d C W (.chn o1 o2 a b c) sg H Q →
    tChain (fun v u H Q => ∃ F io M x y sg, Sub F H ∧ Cels d F io H M ∧ Rep d F io x v ∧ Rep d F io y u ∧ Sat d W sg F io H (cmpD d.T C o1 x y M) (RV d) Q)
      (fun v u H Q => ∃ F io M x y sg, Sub F H ∧ Cels d F io H M ∧ Rep d F io x v ∧ Rep d F io y u ∧ Sat d W sg F io H (cmpD d.T C o2 x y M) (RV d) Q) (teI d C W a) (teI d C W b) (teI d C W c) sg H Q := by
  intro sg H Q h
  obtain ⟨F, io, e, M, rl, h⟩ := h
  simp only [ev] at h
  refine ⟨F, io, e, M, rl, (h.bind (RV d)).mono fun v H1 m => ?_⟩
  obtain ⟨F1, io1, M1, x, x1, s1, c1, q1, h1⟩ := m
  refine ⟨F1, io1, e, M1, rl.ex x1 s1 c1, (h1.bind (RV d)).mono fun u H2 m2 => ?_⟩
  obtain ⟨F2, io2, M2, y, x2, s2, c2, q2, h2⟩ := m2
  have q1' := Rep.mono x2.sub x2.pre _ _ q1
  refine ⟨F2, io2, M2, x, y, sg, s2, c2, q1', q2, (h2.bind (RV d)).mono fun w H3 m3 => ?_⟩
  obtain ⟨F3, io3, M3, z, x3, s3, c3, q3, h3⟩ := m3
  have q2' := Rep.mono x3.sub x3.pre _ _ q2
  cases z with
  | bl k =>
    refine ⟨k, rep_bl q3, ?_⟩
    cases k with
    | false =>
      rw [if_neg (by decide)]
      exact Sat.ok (a := D.bl false) h3 s3 c3 (by simp only [RV, Rep])
    | true =>
      rw [if_pos rfl]
      have rl3 := ((rl.ex x1 s1 c1).ex x2 s2 c2).ex x3 s3 c3
      refine ⟨F3, io3, e, M3, rl3, (Sat.bind (RV d) h3).mono fun w' H4 m4 => ?_⟩
      obtain ⟨F4, io4, M4, z', x4, s4, c4, q4, h4⟩ := m4
      exact ⟨F4, io4, M4, y, z', sg, s4, c4, Rep.mono x4.sub x4.pre _ _ q2', q4, h4⟩
  | _ => exact (show False from h3).elim
theorem s_chn {op op' : CmpOp} {o1 o2 : COp} {a b c : P} {ea eb ec : Expr} (h1 : CmpOk X d C W op o1) (h2 : CmpOk X d C W op' o2) (ha : PE X ea (teI d C W a)) (hb : PE X eb (teI d C W b)) (hc : PE X ec (teI d C W c))
    (hm : lastMarks [op, op'] [eb, ec] = false) : PE X (.Compare ea [op, op'] [eb, ec] pos) (teI d C W (.chn o1 o2 a b c)) := PE_imp (pe_chain h1 h2 ha hb hc hm) chn_imp
theorem t_chn {op op' : CmpOp} {o1 o2 : COp} {a b c : P} {ea eb ec : Expr} (h1 : CmpOk X d C W op o1) (h2 : CmpOk X d C W op' o2) (ha : PE X ea (teI d C W a)) (hb : PE X eb (teI d C W b)) (hc : PE X ec (teI d C W c))
    (hm : lastMarks [op, op'] [eb, ec] = false) : PT X (.Compare ea [op, op'] [eb, ec] pos) (ttI d C W (.chn o1 o2 a b c)) := PT_imp (pt_chain h1 h2 ha hb hc hm) (tt_of chn_imp)

/-- one place -/
theorem un_imp {a p : P} {g : D → Sto → Res D} (hp : ∀ e M, ev d.T C p e M = (ev d.T C a e M).bind fun x M1 => g x M1) {r : V → Hp → VK → Prop}
    (hr : ∀ F io H M sg x v Q, Sub F H → Cels d F io H M → Rep d F io x v → Sat d W sg F io H (g x M) (RV d) Q → r v H Q) : ∀ sg H Q, teI d C W p sg H Q → teI d C W a sg H (fun v H1 => r v H1 Q) := by
  intro sg H Q h
  obtain ⟨F, io, e, M, rl, h⟩ := h
  rw [hp] at h
  refine ⟨F, io, e, M, rl, (h.bind (RV d)).mono fun v H1 m => ?_⟩
  obtain ⟨F1, io1, M1, x, x1, s1, c1, q1, h1⟩ := m
  exact hr F1 io1 H1 M1 sg x v Q s1 c1 q1 h1
theorem isn_imp {neg : Bool} {a : P} : ∀ sg H Q, teI d C W (.isn neg a) sg H Q → (teI d C W a) sg H (fun v H1 => Q (.bl (if neg = true then !decide (v = V.non) else decide (v = V.non))) H1) := by
  refine un_imp (g := fun x M1 => match x with | .non => .ok (.bl !neg) M1 | _ => .ok (.bl neg) M1) (fun e M => by first | (simp only [ev]; done) | (simp only [ev]; rfl)) fun F io H M sg x v Q s c h h2 => ?_
  cases x with
  | non => rw [rep_non h]; refine h2.ok s c ?_; cases neg <;> simp [RV, Rep]
  | exn k y => exact (rep_exn h).elim
  | bl b => rw [rep_bl h]; refine h2.ok s c ?_; cases neg <;> simp [RV, Rep]
  | int b => rw [rep_int h]; refine h2.ok s c ?_; cases neg <;> simp [RV, Rep]
  | str b => rw [rep_str h]; refine h2.ok s c ?_; cases neg <;> simp [RV, Rep]
  | tup b => obtain ⟨p, _, rfl, _⟩ := rep_tup h; refine h2.ok s c ?_; cases neg <;> simp [RV, Rep]
  | lst b => obtain ⟨p, _, rfl, _⟩ := rep_lst h; refine h2.ok s c ?_; cases neg <;> simp [RV, Rep]
  | ro b => obtain ⟨p, _, rfl, _⟩ := rep_ro h; refine h2.ok s c ?_; cases neg <;> simp [RV, Rep]
  | cel b => obtain ⟨p, rfl, _⟩ := rep_cel h; refine h2.ok s c ?_; cases neg <;> simp [RV, Rep]
  | ins k b => obtain ⟨p, _, _, rfl, _⟩ := rep_ins h; refine h2.ok s c ?_; cases neg <;> simp [RV, Rep]
def isOp (neg : Bool) : CmpOp := if neg then .IsNot else .Is
theorem s_isn {neg : Bool} {a : P} {ea : Expr} {j : Nat} {p2 : Pos} (ha : PE X ea (teI d C W a)) : PE X (.Compare ea [isOp neg] [.Constant .none j p2] pos) (teI d C W (.isn neg a)) := by
  cases neg with
  | false => exact PE_imp (pe_cmp (pc_isN ha) (nomark _)) isn_imp
  | true => exact PE_imp (pe_cmp (pc_notN ha) (nomark _)) isn_imp
theorem t_isn {neg : Bool} {a : P} {ea : Expr} {j : Nat} {p2 : Pos} (ha : PE X ea (teI d C W a)) : PT X (.Compare ea [isOp neg] [.Constant .none j p2] pos) (ttI d C W (.isn neg a)) := by
  cases neg with
  | false => exact PT_imp (pt_cmp (pc_isN ha) (nomark _)) fun sg H Q q => tt_of isn_imp sg H Q q
  | true => exact PT_imp (pt_cmp (pc_notN ha) (nomark _)) fun sg H Q q => tt_of isn_imp sg H Q q
theorem isb_imp {neg : Bool} {a : P} {b : Bool} : ∀ sg H Q, teI d C W (.isb neg a b) sg H Q → (teI d C W a) sg H (fun v H1 => ∃ k, v = .bl k ∧ Q (.bl (if neg = true then !decide (k = b) else decide (k = b))) H1) := by
  refine un_imp (g := fun x M1 => match x with | .bl c => .ok (.bl ((c == b) != neg)) M1 | _ => .stuck) (fun e M => by first | (simp only [ev]; done) | (simp only [ev]; rfl)) fun F io H M sg x v Q s c h h2 => ?_
  cases x with
  | bl k => refine ⟨k, rep_bl h, h2.ok s c ?_⟩; cases neg <;> cases k <;> cases b <;> simp [RV, Rep]
  | _ => exact (show False from h2).elim
theorem isb_imp2 {neg : Bool} {a : P} {b : Bool} {r : R2} (hr : ∀ k H Q, Q (.bl (if neg = true then !decide (k = b) else decide (k = b))) H → r (.bl k) (.bl b) H Q) : ∀ sg H Q, teI d C W (.isb neg a b) sg H Q → tOp r (teI d C W a) (tC (.bl b)) sg H Q := by
  intro sg H Q h
  obtain ⟨F, io, e, M, rl, h⟩ := isb_imp sg H Q h
  refine ⟨F, io, e, M, rl, h.mono fun v H1 m => ?_⟩
  obtain ⟨k, rfl, q⟩ := m
  exact hr k H1 Q q
theorem s_isb {neg : Bool} {a : P} {b : Bool} {ea : Expr} {j : Nat} {p2 : Pos} (ha : PE X ea (teI d C W a)) : PE X (.Compare ea [isOp neg] [.Constant (.bool b) j p2] pos) (teI d C W (.isb neg a b)) := by
  cases neg with
  | false => exact PE_imp (pe_cmpR op_isBl ha pe_bl (nomark _)) (isb_imp2 fun k H Q q => ⟨k, b, rfl, rfl, q⟩)
  | true => exact PE_imp (pe_cmpR op_notBl ha pe_bl (nomark _)) (isb_imp2 fun k H Q q => ⟨k, b, rfl, rfl, q⟩)
theorem t_isb {neg : Bool} {a : P} {b : Bool} {ea : Expr} {j : Nat} {p2 : Pos} (ha : PE X ea (teI d C W a)) : PT X (.Compare ea [isOp neg] [.Constant (.bool b) j p2] pos) (ttI d C W (.isb neg a b)) := by
  cases neg with
  | false => exact PT_imp (pt_cmpR op_isBl ha pe_bl (nomark _)) (tt_of (isb_imp2 fun k H Q q => ⟨k, b, rfl, rfl, q⟩))
  | true => exact PT_imp (pt_cmpR op_notBl ha pe_bl (nomark _)) (tt_of (isb_imp2 fun k H Q q => ⟨k, b, rfl, rfl, q⟩))

/-! ### and, or, not -/
theorem s_one {op : PySem.BoolOp} {p : P} {e : Expr} (h : PE X e (teI d C W p)) : PE X (.BoolOp op [e] pos) (teI d C W p) := pe_one h
theorem and_sat {sg : L2.St} {F : Hp} {io : List Addr} {H : Hp} {e : Env} {M : Sto} {a b : P} {Q : VK} (rl : Rl d F io sg H e M) (h : Sat d W sg F io H (ev d.T C (.and_ a b) e M) (RV d) Q) :
    Sat d W sg F io H (ev d.T C a e M) (RV d) (fun v H1 => ∃ k, v = .bl k ∧ if k = true then teI d C W b sg H1 Q else Q (.bl false) H1) := by
  simp only [ev] at h
  refine (h.bind (RV d)).mono fun v H1 m => ?_
  obtain ⟨F1, io1, M1, x, x1, s1, c1, q1, h1⟩ := m
  cases x with
  | bl k =>
    refine ⟨k, rep_bl q1, ?_⟩
    cases k with
    | true => rw [if_pos rfl]; exact ⟨F1, io1, e, M1, rl.ex x1 s1 c1, h1⟩
    | false => rw [if_neg (by decide)]; exact Sat.ok (a := D.bl false) h1 s1 c1 (by simp only [RV, Rep])
  | _ => exact (show False from h1).elim
theorem or_sat {sg : L2.St} {F : Hp} {io : List Addr} {H : Hp} {e : Env} {M : Sto} {a b : P} {Q : VK} (rl : Rl d F io sg H e M) (h : Sat d W sg F io H (ev d.T C (.or_ a b) e M) (RV d) Q) :
    Sat d W sg F io H (ev d.T C a e M) (RV d) (fun v H1 => ∃ k, v = .bl k ∧ if k = true then Q (.bl true) H1 else teI d C W b sg H1 Q) := by
  simp only [ev] at h
  refine (h.bind (RV d)).mono fun v H1 m => ?_
  obtain ⟨F1, io1, M1, x, x1, s1, c1, q1, h1⟩ := m
  cases x with
  | bl k =>
    refine ⟨k, rep_bl q1, ?_⟩
    cases k with
    | false => rw [if_neg (by decide)]; exact ⟨F1, io1, e, M1, rl.ex x1 s1 c1, h1⟩
    | true => rw [if_pos rfl]; exact Sat.ok (a := D.bl true) h1 s1 c1 (by simp only [RV, Rep])
  | _ => exact (show False from h1).elim
theorem s_and {a b : P} {ea eb : Expr} {es : List Expr} (ha : PE X ea (teI d C W a)) (hb : PE X (.BoolOp .And (eb :: es) pos) (teI d C W b)) : PE X (.BoolOp .And (ea :: eb :: es) pos) (teI d C W (.and_ a b)) :=
  PE_imp (pe_and ha hb) fun sg H Q ⟨F, io, e, M, rl, h⟩ => ⟨F, io, e, M, rl, and_sat rl h⟩
theorem s_or {a b : P} {ea eb : Expr} {es : List Expr} (ha : PE X ea (teI d C W a)) (hb : PE X (.BoolOp .Or (eb :: es) pos) (teI d C W b)) : PE X (.BoolOp .Or (ea :: eb :: es) pos) (teI d C W (.or_ a b)) :=
  PE_imp (pe_or ha hb) fun sg H Q ⟨F, io, e, M, rl, h⟩ => ⟨F, io, e, M, rl, or_sat rl h⟩
theorem tand_imp {a b : P} : ∀ sg H Q, ttI d C W (.and_ a b) sg H Q → tAnd (ttI d C W a) (ttI d C W b) sg H Q := by
  intro sg H Q h
  obtain ⟨F, io, e, M, rl, h⟩ := h
  refine ⟨F, io, e, M, rl, ?_⟩
  simp only [ev] at h
  cases q : ev d.T C a e M with
  | stuck => rw [q] at h; exact h
  | exc c x M' => rw [q] at h; exact h
  | ok x M' =>
    rw [q] at h
    cases x with
    | bl k =>
      intro F1 io1 H1 k' x1 s1 c1 hk
      subst hk
      cases k with
      | false => exact h F1 io1 H1 false x1 s1 c1 rfl
      | true =>
        rw [if_pos rfl]
        refine ⟨F1, io1, e, M', rl.ex x1 s1 c1, ?_⟩
        have h : Sat d W sg F io H (tb (ev d.T C b e M')) RB Q := h
        cases r : tb (ev d.T C b e M') with
        | stuck => rw [r] at h; exact h.elim
        | exc c2 x2 M2 =>
          rw [r] at h
          exact fun F3 io3 H3 cls dd x3 s3 c3 e3 => h F3 io3 H3 cls dd (x1.trans x3) s3 c3 e3
        | ok k2 M2 =>
          rw [r] at h
          exact fun F3 io3 H3 k3 x3 s3 c3 e3 => h F3 io3 H3 k3 (x1.trans x3) s3 c3 e3
    | _ => exact (show False from h).elim
theorem tor_imp {a b : P} : ∀ sg H Q, ttI d C W (.or_ a b) sg H Q → tOr (ttI d C W a) (ttI d C W b) sg H Q := by
  intro sg H Q h
  obtain ⟨F, io, e, M, rl, h⟩ := h
  refine ⟨F, io, e, M, rl, ?_⟩
  simp only [ev] at h
  cases q : ev d.T C a e M with
  | stuck => rw [q] at h; exact h
  | exc c x M' => rw [q] at h; exact h
  | ok x M' =>
    rw [q] at h
    cases x with
    | bl k =>
      intro F1 io1 H1 k' x1 s1 c1 hk
      subst hk
      cases k with
      | true => exact h F1 io1 H1 true x1 s1 c1 rfl
      | false =>
        rw [if_neg (by decide)]
        refine ⟨F1, io1, e, M', rl.ex x1 s1 c1, ?_⟩
        have h : Sat d W sg F io H (tb (ev d.T C b e M')) RB Q := h
        cases r : tb (ev d.T C b e M') with
        | stuck => rw [r] at h; exact h.elim
        | exc c2 x2 M2 =>
          rw [r] at h
          exact fun F3 io3 H3 cls dd x3 s3 c3 e3 => h F3 io3 H3 cls dd (x1.trans x3) s3 c3 e3
        | ok k2 M2 =>
          rw [r] at h
          exact fun F3 io3 H3 k3 x3 s3 c3 e3 => h F3 io3 H3 k3 (x1.trans x3) s3 c3 e3
    | _ => exact (show False from h).elim
theorem tnot_imp {a : P} : ∀ sg H Q, ttI d C W (.not_ a) sg H Q → tNot (ttI d C W a) sg H Q := by
  intro sg H Q h
  obtain ⟨F, io, e, M, rl, h⟩ := h
  refine ⟨F, io, e, M, rl, ?_⟩
  simp only [ev] at h
  cases q : ev d.T C a e M with
  | stuck => rw [q] at h; exact h
  | exc c x M' => rw [q] at h; exact h
  | ok x M' =>
    rw [q] at h
    cases x with
    | bl k =>
      intro F1 io1 H1 k' x1 s1 c1 hk
      subst hk
      exact h F1 io1 H1 (!k) x1 s1 c1 rfl
    | _ => exact (show False from h).elim
theorem w_and1 {b : P} {eb : Expr} (h : PT X eb (ttI d C W b)) : PW X (.BoolOp .And [eb] pos) (ttI d C W b) := pw_and1 h
theorem w_or1 {b : P} {eb : Expr} (h : PT X eb (ttI d C W b)) : PW X (.BoolOp .Or [eb] pos) (ttI d C W b) := pw_or1 h
theorem w_and {a b : P} {ea eb : Expr} {es : List Expr} (ha : PT X ea (ttI d C W a)) (hb : PW X (.BoolOp .And (eb :: es) pos) (ttI d C W b)) : PW X (.BoolOp .And (ea :: eb :: es) pos) (ttI d C W (.and_ a b)) := PW_imp (pw_and ha hb) tand_imp
theorem w_or {a b : P} {ea eb : Expr} {es : List Expr} (ha : PT X ea (ttI d C W a)) (hb : PW X (.BoolOp .Or (eb :: es) pos) (ttI d C W b)) : PW X (.BoolOp .Or (ea :: eb :: es) pos) (ttI d C W (.or_ a b)) := PW_imp (pw_or ha hb) tor_imp
theorem t_not {a : P} {ea : Expr} (ha : PT X ea (ttI d C W a)) : PT X (.UnaryOp .Not ea pos) (ttI d C W (.not_ a)) := PT_imp (pt_not ha) tnot_imp
theorem s_not {a : P} {ea : Expr} (ha : PE X ea (teI d C W a)) : PE X (.UnaryOp .Not ea pos) (teI d C W (.not_ a)) := by
  refine PE_imp (pe_not ha) fun sg H Q q => ?_
  refine un_imp (a := a) (p := .not_ a) (g := fun x M1 => match x with | .bl b => .ok (.bl !b) M1 | _ => .stuck) (fun e M => by first | (simp only [ev]; done) | (simp only [ev]; rfl)) (r := fun v H1 Q => ∃ c, v = .bl c ∧ Q (.bl !c) H1) (fun F io H M sg x v Q s c h h2 => ?_) sg H Q q
  cases x with
  | bl k => exact ⟨k, rep_bl h, h2.ok s c (by simp only [RV, Rep])⟩
  | _ => exact (show False from h2).elim
theorem s_neg {a : P} {ea : Expr} (ha : PE X ea (teI d C W a)) : PE X (.UnaryOp .USub ea pos) (teI d C W (.neg a)) := by
  refine PE_imp (pe_un un_neg ha) fun sg H Q q => ?_
  refine un_imp (a := a) (p := .neg a) (g := fun x M1 => match x with | .int i => .ok (.int (-i)) M1 | _ => .stuck) (fun e M => by first | (simp only [ev]; done) | (simp only [ev]; rfl)) (r := rU fun i => .int (-i)) (fun F io H M sg x v Q s c h h2 => ?_) sg H Q q
  cases x with
  | int k => exact ⟨k, rep_int h, h2.ok s c (by simp only [RV, Rep])⟩
  | _ => exact (show False from h2).elim
theorem ite_imp {c a b : P} : ∀ sg H Q, teI d C W (.ite c a b) sg H Q → tIf (ttI d C W c) (teI d C W a) (teI d C W b) sg H Q := by
  intro sg H Q h
  obtain ⟨F, io, e, M, rl, h⟩ := h
  refine ⟨F, io, e, M, rl, ?_⟩
  simp only [ev] at h
  cases q : ev d.T C c e M with
  | stuck => rw [q] at h; exact h
  | exc c x M' => rw [q] at h; exact h
  | ok x M' =>
    rw [q] at h
    cases x with
    | bl k =>
      intro F1 io1 H1 k' x1 s1 c1 hk
      subst hk
      have key : ∀ p, Sat d W sg F io H (ev d.T C p e M') (RV d) Q → teI d C W p sg H1 Q := fun p h => by
        refine ⟨F1, io1, e, M', rl.ex x1 s1 c1, ?_⟩
        cases r : ev d.T C p e M' with
        | stuck => rw [r] at h; exact h.elim
        | exc c2 x2 M2 =>
          rw [r] at h
          exact fun F3 io3 H3 cls dd x3 s3 c3 e3 => h F3 io3 H3 cls dd (x1.trans x3) s3 c3 e3
        | ok k2 M2 =>
          rw [r] at h
          exact fun F3 io3 H3 k3 x3 s3 c3 e3 => h F3 io3 H3 k3 (x1.trans x3) s3 c3 e3
      cases k with
      | true => rw [if_pos rfl]; exact key a h
      | false => rw [if_neg (by decide)]; exact key b h
    | _ => exact (show False from h).elim
theorem s_ite {c a b : P} {ec ea eb : Expr} (hc : PT X ec (ttI d C W c)) (ha : PE X ea (teI d C W a)) (hb : PE X eb (teI d C W b)) : PE X (.IfExp ec ea eb pos) (teI d C W (.ite c a b)) := PE_imp (pe_ifExp hc ha hb) ite_imp
end
end Rb

/-! RbSnd2: argument lists, displays, built-in calls. Own work. -/
namespace Rb
open PySem PySem.Spec PyProof.Rows L2
/-- no star -/
def nst : Expr → Bool
  | .Starred _ _ => false
  | _ => true
theorem star_ns {e : Expr} {es : List Expr} {env : PySem.Env} (h : nst e = true) : starEach (e :: es) env = (false, eval e env) :: starEach es env := by
  cases e <;> first | (cases h; done) | rfl
def nsts (es : List Expr) : Bool := es.all nst
theorem star_nsts {pos : Pos} {env : PySem.Env} : ∀ {es : List Expr}, nsts es = true → (backTo pos (starEach es env)).any (·.1) = false
  | [], _ => rfl
  | e :: es, h => by
    unfold nsts at h
    rw [List.all_cons, Bool.and_eq_true] at h
    rw [star_ns h.1]
    show (false || (backTo pos (starEach es env)).any (·.1)) = false
    rw [star_nsts (es := es) h.2]; rfl
def P.isStar : P → Bool
  | .star _ => true | _ => false

section
variable {X : Cx} {d : Wd} {C : CallT} {W : WX} {pos : Pos}
theorem evs_cons {a : P} {r : List P} (h : a.isStar = false) (e : Env) (M : Sto) : evs d.T C (a :: r) e M = (ev d.T C a e M).bind fun x M1 => (evs d.T C r e M1).bind fun l M2 => .ok (x :: l) M2 := by
  cases a <;> first | (cases h; done) | (simp only [evs]; done)
theorem a_nil : PA X [] (taI d C W []) := by
  refine PA_imp pa_nil fun sg H Q h => ?_
  obtain ⟨F, io, e, M, rl, h⟩ := h
  simp only [evs] at h
  exact h.ok rl.sub rl.cl Reps.nil
theorem a_cons {p : P} {ps : List P} {e : Expr} {es : List Expr} (hs : p.isStar = false) (hn : nst e = true) (ha : PE X e (teI d C W p)) (hr : PA X es (taI d C W ps)) : PA X (e :: es) (taI d C W (p :: ps)) := by
  refine PA_imp (pa_cons ha hr (star_ns hn)) fun sg H Q h => ?_
  obtain ⟨F, io, e, M, rl, h⟩ := h
  rw [evs_cons hs] at h
  refine ⟨F, io, e, M, rl, (h.bind (RV d)).mono fun v H1 m => ?_⟩
  obtain ⟨F1, io1, M1, x, x1, s1, c1, q1, h1⟩ := m
  refine ⟨F1, io1, e, M1, rl.ex x1 s1 c1, (h1.bind (RVs d)).mono fun vs H2 m2 => ?_⟩
  obtain ⟨F2, io2, M2, l, x2, s2, c2, q2, h2⟩ := m2
  exact h2.ok s2 c2 (Reps.cons (Rep.mono x2.sub x2.pre _ _ q1) q2)
/-- a sequence that is read: by its value, or a name's own list -/
theorem q_val {p : P} {e : Expr} (hb : p.isBor = false) (h : PE X e (teI d C W p)) : PE X e (tqI d C W p) := by
  refine PE_imp h fun sg H Q h => ?_
  obtain ⟨F, io, e, M, rl, h⟩ := h
  have eq : qOf p e M (ev d.T C p e M) = (ev d.T C p e M).bind fun x M1 => oR ((seqD x M1).map fun l => (grdOf x l, (match x with | .tup _ => true | _ => false), l)) M1 := by
    cases p <;> first | (cases hb; done) | rfl
  rw [eq] at h
  refine ⟨F, io, e, M, rl, (h.bind (RV d)).mono fun v H1 m => ?_⟩
  obtain ⟨F1, io1, M1, x, x1, s1, c1, q1, h1⟩ := m
  obtain ⟨y, e1, h1⟩ := h1.oR
  obtain ⟨l, e2, e3⟩ := Option.map_eq_some_iff.mp e1
  refine h1.ok s1 c1 ?_
  subst e3
  cases x with
  | tup m =>
    simp only [seqD, Option.some.injEq] at e2; subst e2
    obtain ⟨a, vs, rfl, k1, k2⟩ := rep_tup q1
    exact ⟨a, vs, rfl, k2, .inl ⟨rfl, rfl, k1⟩⟩
  | lst m =>
    simp only [seqD, Option.some.injEq] at e2; subst e2
    obtain ⟨a, vs, rfl, k1, k2⟩ := rep_lst q1
    exact ⟨a, vs, rfl, k2, .inr (.inl ⟨rfl, rfl, k1⟩)⟩
  | cel r =>
    simp only [seqD] at e2
    split at e2
    · rename_i m hm
      simp only [Option.some.injEq] at e2; subst e2
      obtain ⟨a, rfl, k1⟩ := rep_cel q1
      obtain ⟨a', k2, vs, k3, k4⟩ := c1.cel r _ hm
      rw [k1] at k2; cases k2
      exact ⟨a, vs, rfl, k4, .inr (.inr (.inr ⟨r, rfl, rfl, k1, k3⟩))⟩
    · cases e2
  | _ => simp only [seqD] at e2; cases e2
theorem q_bor {i : Nat} {x : Str} (hN : X.N[i]? = some x) (hv : Vis X.env.scope x) (h1 : (x == ("__debug__" : Str)) = false) (h2 : (x == ("__classdict__" : Str)) = false) : PE X (.Name x pos) (tqI d C W (.bor i)) := by
  refine PE_imp (pe_var (i := i) hN hv h1 h2) fun sg H Q h => ?_
  obtain ⟨F, io, e, M, r, h⟩ := h
  have h : Sat d W sg F io H (match e[i]? with | some (.own l) => .ok ([], false, l) M | _ => .stuck) (RQ d) Q := h
  split at h
  · rename_i l he
    obtain ⟨a, vs, k1, k2, k3, k4, k5⟩ := r.own i l he
    exact ⟨.ref a, k1, h.ok r.sub r.cl ⟨a, vs, rfl, k3, .inr (.inr (.inl ⟨rfl, rfl, k2, k4, k5⟩))⟩⟩
  · exact h.elim
theorem o_val {p : P} {e : Expr} (hb : p.isBor = false) (h : PE X e (teI d C W p)) : PE X e (toI d C W p) := by
  refine PE_imp h fun sg H Q h => ?_
  obtain ⟨F, io, e, M, rl, h⟩ := h
  have eq : opOf p e M (ev d.T C p e M) = (ev d.T C p e M).bind fun x M1 => .ok (false, x) M1 := by
    cases p <;> first | (cases hb; done) | rfl
  rw [eq] at h
  refine ⟨F, io, e, M, rl, (h.bind (RV d)).mono fun v H1 m => ?_⟩
  obtain ⟨F1, io1, M1, x, x1, s1, c1, q1, h1⟩ := m
  exact h1.ok s1 c1 (.inr ⟨rfl, q1⟩)
theorem o_bor {i : Nat} {x : Str} (hN : X.N[i]? = some x) (hv : Vis X.env.scope x) (h1 : (x == ("__debug__" : Str)) = false) (h2 : (x == ("__classdict__" : Str)) = false) : PE X (.Name x pos) (toI d C W (.bor i)) := by
  refine PE_imp (pe_var (i := i) hN hv h1 h2) fun sg H Q h => ?_
  obtain ⟨F, io, e, M, r, h⟩ := h
  have h : Sat d W sg F io H (match e[i]? with | some (.own l) => .ok (true, .lst l) M | _ => .stuck) (RO d) Q := h
  split at h
  · rename_i l he
    obtain ⟨a, vs, k1, k2, k3, k4, k5⟩ := r.own i l he
    exact ⟨.ref a, k1, h.ok r.sub r.cl (.inl ⟨rfl, a, vs, l, rfl, rfl, k3, k2, k4, k5⟩)⟩
  · exact h.elim
/-- what a read sequence gives: a tuple, or a list -/
theorem RQ.seq {d : Wd} {F H : Hp} {io : List Addr} {x : Grd × Bool × List D} {v : V} (h : RQ d F io H x v) (s : Sub F H) : ∃ a vs, v = .ref a ∧ (SqT d.K H a vs ∨ SqL d.K H a vs) ∧ Reps d F io x.2.2 vs := by
  obtain ⟨a, vs, e, k2, k1⟩ := h
  refine ⟨a, vs, e, ?_, k2⟩
  rcases k1 with ⟨_, _, k⟩ | ⟨_, _, k⟩ | ⟨_, _, k, _⟩ | ⟨r, _, _, _, k⟩
  · exact .inl (s.sqt k)
  · exact .inr (SqL.of (s _ _ k))
  · exact .inr (SqL.of k)
  · exact .inr (SqL.of k)
theorem RQ.list {d : Wd} {F H : Hp} {io : List Addr} {x : Grd × Bool × List D} {v : V} (h : RQ d F io H x v) (s : Sub F H) (hx : x.2.1 = false) : ∃ a vs, v = .ref a ∧ H a = some (.lst vs) ∧ Reps d F io x.2.2 vs := by
  obtain ⟨a, vs, e, k2, k1⟩ := h
  refine ⟨a, vs, e, ?_, k2⟩
  rcases k1 with ⟨_, k', k⟩ | ⟨_, _, k⟩ | ⟨_, _, k, _⟩ | ⟨r, _, _, _, k⟩
  · rw [hx] at k'; cases k'
  · exact s _ _ k
  · exact k
  · exact k
theorem RQ.tupl {d : Wd} {F H : Hp} {io : List Addr} {x : Grd × Bool × List D} {v : V} (h : RQ d F io H x v) (hx : x.2.1 = true) : ∃ a vs, v = .ref a ∧ SqT d.K F a vs ∧ Reps d F io x.2.2 vs := by
  obtain ⟨a, vs, e, k2, k1⟩ := h
  refine ⟨a, vs, e, ?_, k2⟩
  rcases k1 with ⟨_, _, k⟩ | ⟨_, k', k⟩ | ⟨_, k', k, _⟩ | ⟨r, _, k', _, k⟩
  · exact k
  all_goals (rw [hx] at k'; cases k')
/-- .. that leans on no cell, later on -/
theorem RQ.later {d : Wd} {F H F' H' : Hp} {io io' : List Addr} {x : Grd × Bool × List D} {v : V} (h : RQ d F io H x v) (hx : x.1 = []) (k : Ex F io H F' io' H') : RQ d F' io' H' x v := by
  obtain ⟨a, vs, e, k2, k1⟩ := h
  refine ⟨a, vs, e, Reps.mono k.sub k.pre _ _ k2, ?_⟩
  rcases k1 with ⟨h1, h2, h3⟩ | ⟨h1, h2, h3⟩ | ⟨h1, h2, h3, h4, h5⟩ | ⟨r, h1, _⟩
  · exact .inl ⟨h1, h2, k.sub.sqt h3⟩
  · exact .inr (.inl ⟨h1, h2, k.sub _ _ h3⟩)
  · refine .inr (.inr (.inl ⟨h1, h2, k.keep _ _ h3 h5, ?_, ?_⟩))
    · cases q : F' a with
      | none => rfl
      | some o =>
        rcases k.frz a o q with z | z
        · rw [h4] at z; cases z
        · rw [h3] at z; cases z
    · intro q
      rcases k.new a q with z | z
      · exact h5 z
      · rw [h3] at z; cases z
  · rw [hx] at h1; cases h1
theorem RO.later {d : Wd} {F H F' H' : Hp} {io io' : List Addr} {x : Bool × D} {v : V} (h : RO d F io H x v) (k : Ex F io H F' io' H') : RO d F' io' H' x v := by
  rcases h with ⟨h1, a, vs, l, e1, e2, e3, e4, e5, e6⟩ | ⟨h1, h2⟩
  · refine .inl ⟨h1, a, vs, l, e1, e2, Reps.mono k.sub k.pre _ _ e3, k.keep _ _ e4 e6, ?_, ?_⟩
    · cases q : F' a with
      | none => rfl
      | some o =>
        rcases k.frz a o q with z | z
        · rw [e5] at z; cases z
        · rw [e4] at z; cases z
    · intro q
      rcases k.new a q with z | z
      · exact e6 z
      · rw [e4] at z; cases z
  · exact .inr ⟨h1, Rep.mono k.sub k.pre _ _ h2⟩
theorem a_star {p : P} {ps : List P} {e : Expr} {es : List Expr} {p2 : Pos} (hK : X.K = d.K) (hb : p.isBor = false) (ha : PE X e (teI d C W p)) (hr : PA X es (taI d C W ps)) : PA X (.Starred e p2 :: es) (taI d C W (.star p :: ps)) := by
  refine PA_imp (StX.pa_star (q_val hb ha) hr rfl) fun sg H Q h => ?_
  obtain ⟨F, io, e, M, rl, h⟩ := h
  simp only [evs] at h
  refine ⟨F, io, e, M, rl, (h.bind (RQ d)).mono fun v H1 m => ?_⟩
  obtain ⟨F1, io1, M1, x, x1, s1, c1, q1, h1⟩ := m
  obtain ⟨a, vs, rfl, k1, k2⟩ := q1.seq s1
  refine ⟨a, vs, rfl, by rw [hK]; exact k1, F1, io1, e, M1, rl.ex x1 s1 c1, (h1.bind (RVs d)).mono fun ws H2 m2 => ?_⟩
  obtain ⟨F2, io2, M2, l, x2, s2, c2, q2, h2⟩ := m2
  exact h2.ok s2 c2 ((Reps.mono x2.sub x2.pre _ _ k2).append q2)

/-! ### displays -/
theorem s_tup {ps : List P} {es : List Expr} {k : Nat} (h : PA X es (taI d C W ps)) : PE X (.Tuple es k pos) (teI d C W (.tup ps)) := by
  refine PE_imp (pe_tup h) fun sg H Q h => ?_
  obtain ⟨F, io, e, M, rl, h⟩ := h
  simp only [ev] at h
  refine ⟨F, io, e, M, rl, (h.bind (RVs d)).mono fun vs H1 m => ?_⟩
  obtain ⟨F1, io1, M1, l, x1, s1, c1, q1, h1⟩ := m
  split at h1
  · rename_i hz
    exact ⟨by rw [← q1.length, ← lim_eq]; exact hz, fun p hp => post_tup s1 c1 h1 hp q1⟩
  · exact h1.elim
/-- .. wanted of a fresh list: from before it -/
def tfI (d : Wd) (C : CallT) (W : WX) (p : P) : TE := fun sg H Q => ∃ F io e M, Rl d F io sg H e M ∧
  match ev d.T C p e M with
  | .ok x M' => ∃ l, x = .lst l ∧ ∀ F' io' H' a vs, Ex F io H F' io' H' → Sub F' H' → Cels d F' io' H' M' → H a = none → H' a = some (.lst vs) → F' a = none → a ∉ io' → Reps d F' io' l vs → Q (.ref a) H'
  | .exc c x M' => ∀ F' io' H' cls dd, Ex F io H F' io' H' → Sub F' H' → Cels d F' io' H' M' → ExR d F' io' c x cls dd → W cls dd sg H'
  | .stuck => False
/-- a fresh list as a frozen one -/
theorem fz_of {p : P} {ee : Expr} (h : PE X ee (tfI d C W p)) (hl : ∀ e M x M', ev d.T C p e M = .ok x M' → ∃ l, x = .lst l) : PE X ee (teI d C W p) := by
  refine PE_imp h fun sg H Q h => ?_
  obtain ⟨F, io, e, M, rl, h⟩ := h
  refine ⟨F, io, e, M, rl, ?_⟩
  cases q : ev d.T C p e M with
  | stuck => rw [q] at h; exact h
  | exc c x M' => rw [q] at h; exact h
  | ok x M' =>
    rw [q] at h
    obtain ⟨l, rfl⟩ := hl e M x M' q
    refine ⟨l, rfl, fun F' io' H' a vs x1 s1 c1 n1 e1 n2 n3 r => ?_⟩
    have hs : Sub F' (upd F' a (.lst vs)) := Sub.updF n2
    refine h (upd F' a (.lst vs)) io' H' (.ref a) ⟨x1.sub.trans hs, x1.pre, fun b o e => ?_, x1.new, x1.keep, x1.there, x1.od⟩ ?_ (c1.frz hs fun b hb => ?_) (rep_lst' upd_same (Reps.mono hs (Pre.refl _) _ _ r))
    · by_cases z : b = a
      · subst z; exact .inr n1
      · rw [upd_ne z] at e; exact x1.frz b o e
    · intro b o e
      by_cases z : b = a
      · subst z; rw [upd_same] at e; cases e; exact e1
      · rw [upd_ne z] at e; exact s1 b o e
    · have : b ≠ a := fun z => n3 (z ▸ hb)
      rw [upd_ne this]; exact c1.out b hb
/-- behind a laid list: the fresh reading is met -/
theorem fresh_meet {F F1 : Hp} {io io1 : List Addr} {H H1 : Hp} {M1 : Sto} {l : List D} {vs : List V} {p : Addr} {Q : VK} (x1 : Ex F io H F1 io1 H1) (s1 : Sub F1 H1) (c1 : Cels d F1 io1 H1 M1) (hp : H1 p = none) (r : Reps d F1 io1 l vs)
    (q : ∀ F' io' H' a vs, Ex F io H F' io' H' → Sub F' H' → Cels d F' io' H' M1 → H a = none → H' a = some (.lst vs) → F' a = none → a ∉ io' → Reps d F' io' l vs → Q (.ref a) H') : Q (.ref p) (upd H1 p (.lst vs)) := by
  obtain ⟨x2, s2, c2⟩ := ex_own (o := .lst vs) s1 c1 hp
  refine q F1 io1 _ p vs (x1.trans x2) s2 c2 ?_ upd_same (s1.none hp) (fun z => c1.has z hp) r
  cases k : H p with
  | none => rfl
  | some o => exact absurd hp (x1.there p (by rw [k]; simp))
theorem f_lst {ps : List P} {es : List Expr} (h : PA X es (taI d C W ps)) : PE X (.List es pos) (tfI d C W (.lst ps)) := by
  refine PE_imp (pe_lst h) fun sg H Q h => ?_
  obtain ⟨F, io, e, M, rl, h⟩ := h
  refine ⟨F, io, e, M, rl, ?_⟩
  simp only [ev] at h
  cases q : evs d.T C ps e M with
  | stuck => rw [q] at h; exact h
  | exc c x M' => rw [q] at h; exact h
  | ok l M' =>
    rw [q] at h
    intro F1 io1 H1 vs x1 s1 c1 r1
    have h : match (if l.length ≤ lim then Res.ok (D.lst l) M' else Res.stuck) with
      | .ok x M' => ∃ l, x = .lst l ∧ ∀ F' io' H' a vs, Ex F io H F' io' H' → Sub F' H' → Cels d F' io' H' M' → H a = none → H' a = some (.lst vs) → F' a = none → a ∉ io' → Reps d F' io' l vs → Q (.ref a) H'
      | .exc c x M' => ∀ F' io' H' cls dd, Ex F io H F' io' H' → Sub F' H' → Cels d F' io' H' M' → ExR d F' io' c x cls dd → W cls dd sg H'
      | .stuck => False := h
    split at h
    all_goals (rename_i hz; split at hz <;> first | cases hz | skip)
    · rename_i hz'
      obtain ⟨l', e', h⟩ := h
      cases e'
      exact ⟨by rw [← r1.length, ← lim_eq]; exact hz', fun p hp => fresh_meet x1 s1 c1 hp r1 h⟩
    · exact h.elim
end
end Rb

/-! RbSnd3: built-in calls. Own work. -/
namespace Rb
open PySem PySem.Spec PyProof.Rows L2
theorem sum_intTup {prog : Program} {w : World} {A : Around} {E : Value → Shared → Prop} {s : Shared} {l : Addr} {xs : Array (Int × Tok)} {Q : Value → Shared → Prop} (hh : A.handled = none) (hl : s.heap.IsTuple l (intItems xs))
    (h : ∀ h' tk t', (∀ b o, s.heap.get? b = some o → h'.get? b = some o) → Q (.int (preSum (numAt xs) xs.size) t') { s with heap := h', toks := tk }) :
    wpAny (model prog w) A (call (.builtin "sum") [.ref l]) Q E s := by
  have hlt : l < s.heap.objs.size := by obtain ⟨_, e, _⟩ := hl; exact Heap.lt_size e
  refine call_sum_walkG (wpAny_pyIter_tuple hl ?_)
  refine ⟨_, _, _, _, _, _, numAt xs, rfl, Walks.tuple (A := A.in1) hh _ l (Nat.ne_of_lt hlt) (intItems xs), ⟨⟨_, Heap.get?_push_size _ rfl, rfl, rfl⟩, hl.push _⟩, (fun b hb => ?_), (fun _ _ => intItems_at), fun h' tk t' hk => ?_⟩
  · show b < (s.heap.push _).objs.size
    rw [Heap.size_push]
    rcases List.mem_cons.mp hb with rfl | hb
    · exact Nat.lt_succ_self _
    · rcases List.mem_cons.mp hb with rfl | hb
      · exact Nat.lt_succ_of_lt hlt
      · cases hb
  · have := h h' tk t' (fun b o e => hk b o (fun hm => by
      rcases List.mem_cons.mp hm with e1 | hm
      · exact absurd (e1 ▸ Heap.lt_size e) (Nat.lt_irrefl _)
      · cases hm) (Heap.get?_push_of_some _ e))
    simpa [intItems] using this
theorem sum_rawT {prog : Program} {w : World} {A : Around} {E : Value → Shared → Prop} {s : Shared} {l : Addr} {its : List Value} {ns : List Int} {Q : Value → Shared → Prop} (hh : A.handled = none) (hl : s.heap.IsTuple l its.toArray) (hi : IntsAre its ns)
    (h : ∀ h' tk t', (∀ b o, s.heap.get? b = some o → h'.get? b = some o) → Q (.int ns.sum t') { s with heap := h', toks := tk }) : wpAny (model prog w) A (call (.builtin "sum") [.ref l]) Q E s := by
  obtain ⟨xs, e⟩ := hi.allInts.items
  have hn : numsOf (intItems xs).toList = ns := by rw [← e]; exact hi.numsOf
  rw [nums_intItems] at hn
  rw [e] at hl
  refine sum_intTup hh hl fun h' tk t' hk => ?_
  have := h h' tk t' hk
  rw [preSum_eq, List.take_of_length_le (by simp), hn]; exact this
section
variable {X : Cx} {d : Wd} {C : CallT} {W : WX} {pos px : Pos} {x : Str}
def rSumT (K : PySem.W.Frag) : List V → Hp → VK → Prop := fun vs H Q => ∃ (a : Addr) (ns : List Int), vs = [V.ref a] ∧ (SqL K H a (ns.map V.int) ∨ SqT K H a (ns.map V.int)) ∧ Q (.int ns.sum) H
theorem cr_sumT (hc : X.calm = true) : CallR X (.builtin "sum") (rSumT X.K) := by
  intro pins s sg H vs us Q I r h
  obtain ⟨a, ns, rfl, hs, q⟩ := h
  rcases hs with hs | hs
  · exact cr_sum hc pins s sg H _ us Q I r ⟨a, ns, rfl, hs, q⟩
  · obtain ⟨its, rv, hl, _⟩ := I.tuple hs
    rw [Vals.ref1 r]
    exact sum_rawT (I.ok.hd hc) (show s.heap.IsTuple a its.toArray from hl) rv.ints fun h' tk t' hk => ⟨.int _, H, I.kept hk, ⟨_, rfl⟩, q⟩

theorem CallR_or {f : Value} {r r' : List V → Hp → VK → Prop} (h : CallR X f r) (h' : CallR X f r') : CallR X f (fun vs H Q => r vs H Q ∨ r' vs H Q) := by
  intro pins s sg H xs us Q I rv q
  rcases q with q | q
  · exact h pins s sg H xs us Q I rv q
  · exact h' pins s sg H xs us Q I rv q
theorem a_one {e : Expr} {t : TE} (h : PE X e t) (hn : nst e = true) : PA X [e] (tCons t tNil) := pa_cons h pa_nil (star_ns hn)
theorem a_two {e e2 : Expr} {t t2 : TE} (h : PE X e t) (h2 : PE X e2 t2) (hn : nst e = true) (hn2 : nst e2 = true) : PA X [e, e2] (tCons t (tCons t2 tNil)) := pa_cons h (a_one h2 hn2) (star_ns hn)

/-- a sequence handed to a built-in -/
theorem q_imp {a p : P} {g : (Grd × Bool × List D) → Sto → Res D} (hp : ∀ e M, ev d.T C p e M = (qOf a e M (ev d.T C a e M)).bind g) {r : List V → Hp → VK → Prop}
    (hr : ∀ F io H M sg x v Q, Sub F H → Cels d F io H M → RQ d F io H x v → Sat d W sg F io H (g x M) (RV d) Q → r [v] H Q) : ∀ sg H Q, teI d C W p sg H Q → tCB r (tCons (tqI d C W a) tNil) sg H Q := by
  intro sg H Q h
  obtain ⟨F, io, e, M, rl, h⟩ := h
  rw [hp] at h
  refine ⟨F, io, e, M, rl, (h.bind (RQ d)).mono fun v H1 m => ?_⟩
  obtain ⟨F1, io1, M1, x, x1, s1, c1, q1, h1⟩ := m
  exact hr F1 io1 H1 M1 sg x v Q s1 c1 q1 h1
theorem v_imp {a p : P} {g : D → Sto → Res D} (hp : ∀ e M, ev d.T C p e M = (ev d.T C a e M).bind g) {r : List V → Hp → VK → Prop}
    (hr : ∀ F io H M sg x v Q, Sub F H → Cels d F io H M → Rep d F io x v → Sat d W sg F io H (g x M) (RV d) Q → r [v] H Q) : ∀ sg H Q, teI d C W p sg H Q → tCB r (tCons (teI d C W a) tNil) sg H Q := by
  intro sg H Q h
  obtain ⟨F, io, e, M, rl, h⟩ := h
  rw [hp] at h
  refine ⟨F, io, e, M, rl, (h.bind (RV d)).mono fun v H1 m => ?_⟩
  obtain ⟨F1, io1, M1, x, x1, s1, c1, q1, h1⟩ := m
  exact hr F1 io1 H1 M1 sg x v Q s1 c1 q1 h1
theorem vv_imp {a b p : P} {g : D → D → Sto → Res D} (hp : ∀ e M, ev d.T C p e M = (ev d.T C a e M).bind fun x M1 => (ev d.T C b e M1).bind fun y M2 => g x y M2) {r : List V → Hp → VK → Prop}
    (hr : ∀ F io H M sg x y v u Q, Sub F H → Cels d F io H M → Rep d F io x v → Rep d F io y u → Sat d W sg F io H (g x y M) (RV d) Q → r [v, u] H Q) : ∀ sg H Q, teI d C W p sg H Q → tCB r (tCons (teI d C W a) (tCons (teI d C W b) tNil)) sg H Q := by
  intro sg H Q h
  exact bin_imp (g := g) hp (r := fun v u H Q => r [v, u] H Q) hr sg H Q h
theorem intsD_reps {F : Hp} {io : List Addr} : ∀ {l : List D} {ns : List Int} {vs : List V}, intsD l = some ns → Reps d F io l vs → vs = ns.map V.int
  | [], ns, vs, e, h => by simp only [intsD, Option.some.injEq] at e; subst e; simp only [Reps] at h; simpa using h
  | x :: l, ns, vs, e, h => by
    simp only [Reps] at h
    obtain ⟨v, r, rfl, h1, h2⟩ := h
    cases x with
    | int i =>
      simp only [intsD, Option.map_eq_some_iff] at e
      obtain ⟨m, e1, rfl⟩ := e
      rw [rep_int h1, intsD_reps e1 h2]; rfl
    | _ => simp only [intsD] at e; cases e
theorem strsD_reps {F : Hp} {io : List Addr} : ∀ {l : List D} {ns : List Str} {vs : List V}, strsD l = some ns → Reps d F io l vs → vs = ns.map V.str
  | [], ns, vs, e, h => by simp only [strsD, Option.some.injEq] at e; subst e; simp only [Reps] at h; simpa using h
  | x :: l, ns, vs, e, h => by
    simp only [Reps] at h
    obtain ⟨v, r, rfl, h1, h2⟩ := h
    cases x with
    | str i =>
      simp only [strsD, Option.map_eq_some_iff] at e
      obtain ⟨m, e1, rfl⟩ := e
      rw [rep_str h1, strsD_reps e1 h2]; rfl
    | _ => simp only [strsD] at e; cases e
theorem blsD_reps {F : Hp} {io : List Addr} : ∀ {l : List D} {ns : List Bool} {vs : List V}, blsD l = some ns → Reps d F io l vs → vs = ns.map V.bl
  | [], ns, vs, e, h => by simp only [blsD, Option.some.injEq] at e; subst e; simp only [Reps] at h; simpa using h
  | x :: l, ns, vs, e, h => by
    simp only [Reps] at h
    obtain ⟨v, r, rfl, h1, h2⟩ := h
    cases x with
    | bl i =>
      simp only [blsD, Option.map_eq_some_iff] at e
      obtain ⟨m, e1, rfl⟩ := e
      rw [rep_bl h1, blsD_reps e1 h2]; rfl
    | _ => simp only [blsD] at e; cases e
/-- a list alone -/
theorem RQ.lst {F H : Hp} {io : List Addr} {x : Grd × Bool × List D} {v : V} {l : List D} (h : RQ d F io H x v) (s : Sub F H) (e : lstO x = some l) : ∃ a vs, v = .ref a ∧ H a = some (.lst vs) ∧ Reps d F io l vs := by
  unfold lstO at e
  split at e
  · cases e
  · rename_i hx
    cases e
    exact h.list s (by simpa using hx)
theorem s_sum {a : P} {e : Expr} (hc : X.calm = true) (hK : X.K = d.K) (hg : Gl X "sum") (hm : X.mg "sum" = none) (hn : nst e = true) (h : PE X e (tqI d C W a)) : PE X (.Call (.Name "sum" px) [e] [] pos) (teI d C W (.sum a)) := by
  refine PE_imp (pe_callB (cr_sumT hc) hg hm PyProof.Rows.boot_sum (a_one h hn) (by decide) (by decide) (star_ns hn) rfl) (q_imp (fun e M => by first | (simp only [ev]; done) | (simp only [ev]; rfl)) fun F io H M sg x v Q s c q h => ?_)
  obtain ⟨z, e1, h⟩ := h.oR
  obtain ⟨ns, e2, rfl⟩ := Option.map_eq_some_iff.mp e1
  obtain ⟨p, vs, rfl, k1, k2⟩ := q.seq s
  rw [intsD_reps e2 k2] at k1
  exact ⟨p, ns, rfl, by rw [hK]; exact k1.symm, h.ok s c (by simp only [RV, Rep])⟩
theorem s_all {a : P} {e : Expr} (hc : X.calm = true) (hg : Gl X "all") (hm : X.mg "all" = none) (hn : nst e = true) (h : PE X e (tqI d C W a)) : PE X (.Call (.Name "all" px) [e] [] pos) (teI d C W (.all a)) := by
  refine PE_imp (pe_callB (cr_all hc) hg hm PyProof.Rows.boot_all (a_one h hn) (by decide) (by decide) (star_ns hn) rfl) (q_imp (fun e M => by first | (simp only [ev]; done) | (simp only [ev]; rfl)) fun F io H M sg x v Q s c q h => ?_)
  obtain ⟨z, e1, h⟩ := h.oR
  obtain ⟨bs, e2, rfl⟩ := Option.map_eq_some_iff.mp e1
  obtain ⟨l, e3, e4⟩ := Option.bind_eq_some_iff.mp e2
  obtain ⟨p, vs, rfl, k1, k2⟩ := q.lst s e3
  rw [blsD_reps e4 k2] at k1
  exact ⟨p, bs, rfl, SqL.of k1, h.ok s c (by simp only [RV, Rep])⟩
theorem s_any {a : P} {e : Expr} (hc : X.calm = true) (hg : Gl X "any") (hm : X.mg "any" = none) (hn : nst e = true) (h : PE X e (tqI d C W a)) : PE X (.Call (.Name "any" px) [e] [] pos) (teI d C W (.any a)) := by
  refine PE_imp (pe_callB (cr_any hc) hg hm PyProof.Rows.boot_any (a_one h hn) (by decide) (by decide) (star_ns hn) rfl) (q_imp (fun e M => by first | (simp only [ev]; done) | (simp only [ev]; rfl)) fun F io H M sg x v Q s c q h => ?_)
  obtain ⟨z, e1, h⟩ := h.oR
  obtain ⟨bs, e2, rfl⟩ := Option.map_eq_some_iff.mp e1
  obtain ⟨l, e3, e4⟩ := Option.bind_eq_some_iff.mp e2
  obtain ⟨p, vs, rfl, k1, k2⟩ := q.lst s e3
  rw [blsD_reps e4 k2] at k1
  exact ⟨p, bs, rfl, SqL.of k1, h.ok s c (by simp only [RV, Rep])⟩
theorem s_mins {a : P} {e : Expr} (hc : X.calm = true) (hg : Gl X "min") (hm : X.mg "min" = none) (hn : nst e = true) (h : PE X e (tqI d C W a)) : PE X (.Call (.Name "min" px) [e] [] pos) (teI d C W (.mins a)) := by
  refine PE_imp (pe_callB (cr_min hc) hg hm PyProof.Rows.boot_min (a_one h hn) (by decide) (by decide) (star_ns hn) rfl) (q_imp (fun e M => by first | (simp only [ev]; done) | (simp only [ev]; rfl)) fun F io H M sg x v Q s c q h => ?_)
  obtain ⟨z, e1, h⟩ := h.oR
  obtain ⟨ns, e2, e5⟩ := Option.bind_eq_some_iff.mp e1
  obtain ⟨l, e3, e4⟩ := Option.bind_eq_some_iff.mp e2
  obtain ⟨p, vs, rfl, k1, k2⟩ := q.lst s e3
  rw [intsD_reps e4 k2] at k1
  obtain ⟨m, e6, rfl⟩ := Option.map_eq_some_iff.mp e5
  obtain ⟨m1, m2⟩ := List.min?_eq_some_iff.mp e6
  refine ⟨p, ns, rfl, SqL.of k1, List.length_pos_of_mem m1, fun n n1 n2 => ?_⟩
  have : n = m := Int.le_antisymm (n2 m m1) (m2 n n1)
  subst this
  exact h.ok s c (by simp only [RV, Rep])
theorem s_tupl {a : P} {e : Expr} (hK : X.K = d.K) (hg : Gl X "tuple") (hm : X.mg "tuple" = none) (hn : nst e = true) (h : PE X e (tqI d C W a)) : PE X (.Call (.Name "tuple" px) [e] [] pos) (teI d C W (.tupl a)) := by
  refine PE_imp (pe_callTy call_tuple_of hg hm PyProof.Rows.boot_tuple (a_one h hn) (by decide) (by decide) (star_ns hn) rfl) (q_imp (fun e M => by first | (simp only [ev]; done) | (simp only [ev]; rfl)) fun F io H M sg x v Q s c q h => ?_)
  split at h
  · cases hx : x.2.1 with
    | true =>
      obtain ⟨p, vs, rfl, k1, k2⟩ := q.tupl hx
      exact ⟨p, vs, rfl, .inr ⟨by rw [hK]; exact s.sqt k1, h.ok s c (rep_tup' k1 k2)⟩⟩
    | false =>
      obtain ⟨p, vs, rfl, k1, k2⟩ := q.list s hx
      exact ⟨p, vs, rfl, .inl ⟨SqL.of k1, fun l hl => post_tup s c h hl k2⟩⟩
  · exact h.elim
theorem f_list {a : P} {e : Expr} (hK : X.K = d.K) (hg : Gl X "list") (hm : X.mg "list" = none) (hn : nst e = true) (h : PE X e (tqI d C W a)) : PE X (.Call (.Name "list" px) [e] [] pos) (tfI d C W (.list a)) := by
  refine PE_imp (pe_callTy call_list_of hg hm PyProof.Rows.boot_list (a_one h hn) (by decide) (by decide) (star_ns hn) rfl) fun sg H Q h => ?_
  obtain ⟨F, io, e, M, rl, h⟩ := h
  refine ⟨F, io, e, M, rl, ?_⟩
  simp only [ev] at h
  cases q : qOf a e M (ev d.T C a e M) with
  | stuck => rw [q] at h; exact h
  | exc c x M' => rw [q] at h; exact h
  | ok x M' =>
    rw [q] at h
    intro F1 io1 H1 v x1 s1 c1 r1
    obtain ⟨p, vs, rfl, k1, k2⟩ := r1.seq s1
    by_cases hz : x.2.2.length ≤ lim
    · simp only [Res.bind, if_pos hz] at h
      obtain ⟨l, e', h⟩ := h
      cases e'
      exact ⟨p, vs, rfl, by rw [hK]; exact k1.symm, fun p hp => fresh_meet x1 s1 c1 hp k2 h⟩
    · simp only [Res.bind, if_neg hz] at h
/-- int(i), abs(i), min(i, j), max(i, j), gcd(i, j) -/
theorem s_int {a : P} {e : Expr} (hg : Gl X "int") (hm : X.mg "int" = none) (hn : nst e = true) (h : PE X e (teI d C W a)) : PE X (.Call (.Name "int" px) [e] [] pos) (teI d C W (.int_ a)) := by
  refine PE_imp (pe_callTy (CallR_or call_int1 call_int_str) hg hm PyProof.Rows.boot_int (a_one h hn) (by decide) (by decide) (star_ns hn) rfl) (v_imp (g := fun x M1 => match x with
    | .int i => .ok (.int i) M1
    | .str s => oR ((intText? s).bind fun n => if s.length ≤ 640 then some (.int n) else none) M1
    | _ => .stuck) (fun e M => by first | (simp only [ev]; done) | (simp only [ev]; rfl)) fun F io H M sg x v Q s c q h => ?_)
  cases x with
  | int i => rw [rep_int q]; exact .inl (.inl ⟨i, rfl, h.ok s c (by simp only [RV, Rep])⟩)
  | str z =>
    obtain ⟨y, e1, h⟩ := Sat.oR h
    obtain ⟨n, e2, e3⟩ := Option.bind_eq_some_iff.mp e1
    split at e3
    · rename_i hz
      cases e3
      rw [rep_str q]
      exact .inr ⟨z, n, rfl, e2, hz, h.ok s c (by simp only [RV, Rep])⟩
    · cases e3
  | _ => exact (show False from h).elim
theorem s_abs {a : P} {e : Expr} (hg : Gl X "abs") (hm : X.mg "abs" = none) (hn : nst e = true) (h : PE X e (teI d C W a)) : PE X (.Call (.Name "abs" px) [e] [] pos) (teI d C W (.abs a)) := by
  refine PE_imp (pe_callB call_abs hg hm PyProof.Rows.boot_abs (a_one h hn) (by decide) (by decide) (star_ns hn) rfl) (v_imp (g := fun x M1 => match x with | .int i => .ok (.int (if i < 0 then -i else i)) M1 | _ => .stuck) (fun e M => by first | (simp only [ev]; done) | (simp only [ev]; rfl)) fun F io H M sg x v Q s c q h => ?_)
  cases x with
  | int i => rw [rep_int q]; exact ⟨i, rfl, h.ok s c (by simp only [RV, Rep])⟩
  | _ => exact (show False from h).elim
theorem s_str {a : P} {e : Expr} (hg : Gl X "str") (hm : X.mg "str" = none) (hn : nst e = true) (h : PE X e (teI d C W a)) : PE X (.Call (.Name "str" px) [e] [] pos) (teI d C W (.str_ a)) := by
  refine PE_imp (pe_callTy call_str_int hg hm PyProof.Rows.boot_str (a_one h hn) (by decide) (by decide) (star_ns hn) rfl) (v_imp (g := fun x M1 => match x with | .int i => if i.natAbs.log2 < 1920 then .ok (.str (toString i)) M1 else .stuck | _ => .stuck) (fun e M => by first | (simp only [ev]; done) | (simp only [ev]; rfl)) fun F io H M sg x v Q s c q h => ?_)
  cases x with
  | int i =>
    rw [rep_int q]
    by_cases hz : i.natAbs.log2 < 1920
    · simp only [if_pos hz] at h
      exact ⟨i, rfl, hz, h.ok s c (by simp only [RV, Rep])⟩
    · simp only [if_neg hz] at h; exact h.elim
  | _ => exact (show False from h).elim
/-- what repr asks of a sequence -/
def rShow (K : PySem.W.Frag) : List V → Hp → VK → Prop := fun vs H Q => ∃ x p, vs = [x] ∧ Dp K H x p ∧ isSeqP p = true ∧ p.showable = true ∧ p.hasDict = false ∧ p.depth ≤ 40 ∧ p.shown.length ≤ sizeLine ∧ Q (.str p.shown) H
theorem call_show (hg : X.A.guards = some []) (hu : X.A.units + 65 < cLine) : CallR X (.builtin "repr") (rShow X.K) := by
  intro ps s0 sg H0 xs ys Q I0 rr h
  obtain ⟨x, p, rfl, dp, sq, sh, nd, dep, len, q⟩ := h
  obtain ⟨u, rfl, ru⟩ := vals1 rr
  obtain ⟨as, rd⟩ := Dp.reads I0 p x u dp ru
  have key : ∃ a : Addr, u = .ref a := by
    cases dp with
    | lst _ _ => exact ⟨_, ru⟩
    | tup _ _ => exact ⟨_, ru⟩
    | _ => cases sq
  obtain ⟨a, rfl⟩ := key
  exact repr_of_reads' rd sh (PyData.noDict_hsm nd) hg (by omega) (fun _ _ e => e) (fun h2 t tk k => ⟨.str p.shown, H0, I0.kept k, ⟨_, rfl⟩, q⟩) len
theorem s_repr {a : P} {e : Expr} (hgd : X.A.guards = some []) (hu : X.A.units + 65 < cLine) (hg : Gl X "repr") (hm : X.mg "repr" = none) (hn : nst e = true) (hK : X.K = d.K) (h : PE X e (teI d C W a)) : PE X (.Call (.Name "repr" px) [e] [] pos) (teI d C W (.repr a)) := by
  refine PE_imp (pe_callB (call_show hgd hu) hg hm PyProof.Rows.boot_repr (a_one h hn) (by decide) (by decide) (star_ns hn) rfl) (v_imp (g := fun x M1 => oR ((reprO x).map .str) M1) (fun e M => by first | (simp only [ev]; done) | (simp only [ev]; rfl)) fun F io H M sg x v Q s c q h => ?_)
  obtain ⟨y, e1, h⟩ := Sat.oR h
  obtain ⟨z, e2, rfl⟩ := Option.map_eq_some_iff.mp e1
  unfold reprO at e2
  split at e2
  · rename_i p hp
    split at e2
    · rename_i hz
      cases e2
      obtain ⟨z1, z2, z3, z4, z5⟩ := hz
      refine ⟨v, p, rfl, ?_, z1, z2, z3, z4, ?_, h.ok s c (by simp only [RV, Rep])⟩
      · rw [hK]; exact Rep.dp s x v p q hp
      · rw [← lim_eq]; exact z5
    · cases e2
  · cases e2
theorem s_min2 {a b : P} {e e2 : Expr} (hc : X.calm = true) (hg : Gl X "min") (hm : X.mg "min" = none) (hn : nst e = true) (hn2 : nst e2 = true) (h : PE X e (teI d C W a)) (h2 : PE X e2 (teI d C W b)) : PE X (.Call (.Name "min" px) [e, e2] [] pos) (teI d C W (.min2 a b)) := by
  refine PE_imp (pe_callB (call_min2 hc) hg hm PyProof.Rows.boot_min (a_two h h2 hn hn2) (by decide) (by decide) (star_ns hn) (star_nsts (by simp [nsts, hn2]))) (vv_imp (g := fun x y M2 => match x, y with | .int i, .int j => .ok (.int (if j < i then j else i)) M2 | _, _ => .stuck) (fun e M => by first | (simp only [ev]; done) | (simp only [ev]; rfl)) fun F io H M sg x y v u Q s c q1 q2 h => ?_)
  cases x with
  | int i => cases y with
    | int j => rw [rep_int q1, rep_int q2]; exact ⟨i, j, rfl, h.ok s c (by simp only [RV, Rep])⟩
    | _ => exact (show False from h).elim
  | _ => exact (show False from h).elim
theorem s_max2 {a b : P} {e e2 : Expr} (hc : X.calm = true) (hg : Gl X "max") (hm : X.mg "max" = none) (hn : nst e = true) (hn2 : nst e2 = true) (h : PE X e (teI d C W a)) (h2 : PE X e2 (teI d C W b)) : PE X (.Call (.Name "max" px) [e, e2] [] pos) (teI d C W (.max2 a b)) := by
  refine PE_imp (pe_callB (call_max2 hc) hg hm PyProof.Rows.boot_max (a_two h h2 hn hn2) (by decide) (by decide) (star_ns hn) (star_nsts (by simp [nsts, hn2]))) (vv_imp (g := fun x y M2 => match x, y with | .int i, .int j => .ok (.int (if j > i then j else i)) M2 | _, _ => .stuck) (fun e M => by first | (simp only [ev]; done) | (simp only [ev]; rfl)) fun F io H M sg x y v u Q s c q1 q2 h => ?_)
  cases x with
  | int i => cases y with
    | int j => rw [rep_int q1, rep_int q2]; exact ⟨i, j, rfl, h.ok s c (by simp only [RV, Rep])⟩
    | _ => exact (show False from h).elim
  | _ => exact (show False from h).elim
theorem s_gcd {a b : P} {e e2 : Expr} (hg : Gl X "gcd") (hm : X.mg "gcd" = some (.builtin "math.gcd")) (hn : nst e = true) (hn2 : nst e2 = true) (h : PE X e (teI d C W a)) (h2 : PE X e2 (teI d C W b)) : PE X (.Call (.Name "gcd" px) [e, e2] [] pos) (teI d C W (.gcd a b)) := by
  refine PE_imp (pe_callBfun cr_gcd hg hm (a_two h h2 hn hn2) (by decide) (star_ns hn) (star_nsts (by simp [nsts, hn2]))) (vv_imp (g := fun x y M2 => match x, y with | .int i, .int j => .ok (.int ((Nat.gcd i.natAbs j.natAbs : Nat) : Int)) M2 | _, _ => .stuck) (fun e M => by first | (simp only [ev]; done) | (simp only [ev]; rfl)) fun F io H M sg x y v u Q s c q1 q2 h => ?_)
  cases x with
  | int i => cases y with
    | int j => rw [rep_int q1, rep_int q2]; exact ⟨i, j, rfl, h.ok s c (by simp only [RV, Rep])⟩
    | _ => exact (show False from h).elim
  | _ => exact (show False from h).elim
end
end Rb

/-! RbSnd4: places, slices, lengths, in, texts. Own work. -/
namespace Rb
open PySem PySem.Spec PyProof.Rows L2
/-- no slice as an index -/
def nsl : Expr → Bool
  | .Slice _ _ _ _ => false
  | _ => true
theorem plain_ix {e : Expr} (h : nsl e = true) : PlainIx e := fun o i => by cases e <;> first | (cases h; done) | rfl
section
variable {X : Cx} {d : Wd} {C : CallT} {W : WX} {pos px : Pos} {x : Str}
theorem atI_reps {F : Hp} {io : List Addr} {l : List D} {vs : List V} {k : Int} {z : D} (r : Reps d F io l vs) (h : atD l k = some z) : ∃ v, atI vs k = some v ∧ Rep d F io z v := by
  unfold atD atI at h
  obtain ⟨j, e1, e2⟩ := Option.bind_eq_some_iff.mp h
  obtain ⟨v, e3, e4⟩ := r.get e2
  refine ⟨v, ?_, e4⟩
  unfold atI
  rw [← r.length, e1]
  exact e3
theorem cut_reps {F : Hp} {io : List Addr} {l : List D} {vs : List V} {lo hi : Option Int} (r : Reps d F io l vs) : Reps d F io (cutD l lo hi) (cutV vs lo hi) := by
  unfold cutD cutV
  rw [← r.length]
  exact (r.drop _).take _
theorem ix_all (hK : X.K = d.K) : IxR X (fun v u H Q => (∃ F io M x k z, Sub F H ∧ Cels d F io H M ∧ RO d F io H x v ∧ u = .int k ∧ ixD x.2 (.int k) M = some z ∧ ∀ F' io' H' b, Ex F io H F' io' H' → Sub F' H' → Cels d F' io' H' M → Rep d F' io' z b → Q b H')) := by
  intro value slice pins s sg H v u vv uu Q I r1 r2 h hs
  obtain ⟨F, io, M, x, k, z, sf, c, ro, rfl, e, q⟩ := h
  obtain ⟨fl, x⟩ := x
  rcases ro with ⟨_, a, vs, l, rfl, rfl, k1, k2, _, _⟩ | ⟨_, k1⟩
  · obtain ⟨w, e1, e2⟩ := atI_reps k1 (show atD l k = some z from e)
    exact ix_list value slice pins s sg H _ _ vv uu Q I r1 r2 ⟨a, vs, k, w, rfl, rfl, SqL.of k2, e1, post_plain sf c q e2⟩ hs
  · have k1 : Rep d F io x v := k1
    have e : ixD x (.int k) M = some z := e
    cases x with
    | tup l =>
      obtain ⟨a, vs, rfl, k2, k3⟩ := rep_tup k1
      obtain ⟨w, e1, e2⟩ := atI_reps k3 (show atD l k = some z from e)
      exact ix_tup value slice pins s sg H _ _ vv uu Q I r1 r2 ⟨a, vs, k, w, rfl, rfl, by rw [hK]; exact sf.sqt k2, e1, post_plain sf c q e2⟩ hs
    | lst l =>
      obtain ⟨a, vs, rfl, k2, k3⟩ := rep_lst k1
      obtain ⟨w, e1, e2⟩ := atI_reps k3 (show atD l k = some z from e)
      exact ix_list value slice pins s sg H _ _ vv uu Q I r1 r2 ⟨a, vs, k, w, rfl, rfl, SqL.of (sf _ _ k2), e1, post_plain sf c q e2⟩ hs
    | ro l =>
      obtain ⟨a, vs, rfl, k2, k3⟩ := rep_ro k1
      obtain ⟨w, e1, e2⟩ := atI_reps k3 (show atD l k = some z from e)
      exact ix_list value slice pins s sg H _ _ vv uu Q I r1 r2 ⟨a, vs, k, w, rfl, rfl, by rw [hK]; exact sf.sql k2, e1, post_plain sf c q e2⟩ hs
    | str t =>
      rw [rep_str k1] at r1
      simp only [ixD] at e
      split at e
      · rename_i hz
        obtain ⟨ch, e1, rfl⟩ := Option.map_eq_some_iff.mp e
        rw [lim_eq] at hz
        exact ix_str value slice pins s sg H _ _ vv uu Q I r1 r2 ⟨t, k, ch, rfl, rfl, hz, e1, post_plain sf c q (by simp only [Rep])⟩ hs
      · cases e
    | cel r =>
      obtain ⟨a, rfl, k2⟩ := rep_cel k1
      simp only [ixD] at e
      split at e
      · rename_i l hl
        obtain ⟨a', k3, vs, k4, k5⟩ := c.cel r _ hl
        rw [k2] at k3; cases k3
        obtain ⟨w, e1, e2⟩ := atI_reps k5 e
        exact ix_list value slice pins s sg H _ _ vv uu Q I r1 r2 ⟨a, vs, k, w, rfl, rfl, SqL.of k4, e1, post_plain sf c q e2⟩ hs
      · cases e
    | _ => simp only [ixD] at e; cases e
/-- o[i], i an int -/
theorem ix_imp {o i : P} {r : R2} (hr : ∀ F io M x y u v H sg Q, Sub F H → Cels d F io H M → RO d F io H x v → Rep d F io y u → Sat d W sg F io H (oR (ixD x.2 y M) M) (RV d) Q → r v u H Q) :
    ∀ sg H Q, teI d C W (.ix o i) sg H Q → tOp r (toI d C W o) (teI d C W i) sg H Q := by
  intro sg H Q h
  obtain ⟨F, io, e, M, rl, h⟩ := h
  simp only [ev] at h
  refine ⟨F, io, e, M, rl, (h.bind (RO d)).mono fun v H1 m => ?_⟩
  obtain ⟨F1, io1, M1, x, x1, s1, c1, q1, h1⟩ := m
  refine ⟨F1, io1, e, M1, rl.ex x1 s1 c1, (h1.bind (RV d)).mono fun u H2 m2 => ?_⟩
  obtain ⟨F2, io2, M2, y, x2, s2, c2, q2, h2⟩ := m2
  exact hr F2 io2 M2 x y u v H2 sg Q s2 c2 (q1.later x2) q2 h2
theorem s_ix {o i : P} {eo ei : Expr} (hK : X.K = d.K) (hn : nsl ei = true) (ho : PE X eo (toI d C W o)) (hi : PE X ei (teI d C W i)) : PE X (.Subscript eo ei pos) (teI d C W (.ix o i)) := by
  refine PE_imp (pe_ix (ix_all hK) ho hi (plain_ix hn)) (ix_imp fun F io M x y u v H sg Q s c q1 q2 h => ?_)
  obtain ⟨z, e1, h'⟩ := h.oR
  cases y with
  | int k => exact ⟨F, io, M, x, k, z, s, c, q1, rep_int q2, e1, h'⟩
  | _ => simp only [ixD] at e1; cases e1
/-! ### slices -/
theorem cutD_whole {l : List D} {lo hi : Option Int} (h : HT.sIx l.length 0 lo = 0 ∧ HT.sIx l.length l.length hi = l.length) : cutD l lo hi = l := by
  unfold cutD; rw [h.1, h.2]; simp
def rSlD (d : Wd) : V → Option Int → Option Int → Hp → VK → Prop := fun v lo hi H Q => ∃ F io M x z, Sub F H ∧ Cels d F io H M ∧ RO d F io H x v ∧ slD x.2 lo hi M = some z ∧ ∀ F' io' H' b, Ex F io H F' io' H' → Sub F' H' → Cels d F' io' H' M → Rep d F' io' z b → Q b H'
theorem sl_all (hK : X.K = d.K) : SlR X (rSlD d) := by
  intro pins s sg H v vv vl vu lo hi sl Q I rx hs pl pu h
  obtain ⟨F, io, M, x, z, sf, c, ro, e, q⟩ := h
  obtain ⟨fl, x⟩ := x
  rcases ro with ⟨_, a, vs, l, rfl, rfl, k1, k2, _, _⟩ | ⟨_, k1⟩
  · have e : some (D.lst (cutD l lo hi)) = some z := e
    cases e
    exact sl_list pins s sg H _ vv vl vu lo hi sl Q I rx hs pl pu ⟨a, vs, rfl, SqL.of k2, fun p hp => post_lst sf c q hp (cut_reps k1)⟩
  · have k1 : Rep d F io x v := k1
    have e : slD x lo hi M = some z := e
    cases x with
    | tup l =>
      obtain ⟨a, vs, rfl, k2, k3⟩ := rep_tup k1
      simp only [slD, Option.some.injEq] at e; subst e
      refine sl_tupA pins s sg H _ vv vl vu lo hi sl Q I rx hs pl pu ⟨a, vs, rfl, by rw [hK]; exact sf.sqt k2, fun hw => ?_, fun _ p hp => post_tup sf c q hp (cut_reps k3)⟩
      refine post_plain sf c q ?_
      rw [cutD_whole (by rw [k3.length]; exact hw)]
      exact k1
    | lst l =>
      obtain ⟨a, vs, rfl, k2, k3⟩ := rep_lst k1
      simp only [slD, Option.some.injEq] at e; subst e
      exact sl_list pins s sg H _ vv vl vu lo hi sl Q I rx hs pl pu ⟨a, vs, rfl, SqL.of (sf _ _ k2), fun p hp => post_lst sf c q hp (cut_reps k3)⟩
    | ro l =>
      obtain ⟨a, vs, rfl, k2, k3⟩ := rep_ro k1
      simp only [slD, Option.some.injEq] at e; subst e
      exact sl_list pins s sg H _ vv vl vu lo hi sl Q I rx hs pl pu ⟨a, vs, rfl, by rw [hK]; exact sf.sql k2, fun p hp => post_lst sf c q hp (cut_reps k3)⟩
    | str t =>
      simp only [slD] at e
      split at e
      · rename_i hz
        cases e
        rw [rep_str k1] at rx
        exact sl_str pins s sg H _ vv vl vu lo hi sl Q I rx hs pl pu ⟨t, rfl, by rw [← lim_eq]; exact hz, post_plain sf c q (by
          have : cutStr t lo hi = cutS t lo hi := by unfold cutStr cutS cutD; simp [Str.length]
          rw [this]; simp only [Rep])⟩
      · cases e
    | cel r =>
      obtain ⟨a, rfl, k2⟩ := rep_cel k1
      simp only [slD] at e
      split at e
      · rename_i l hl
        cases e
        obtain ⟨a', k3, vs, k4, k5⟩ := c.cel r _ hl
        rw [k2] at k3; cases k3
        exact sl_list pins s sg H _ vv vl vu lo hi sl Q I rx hs pl pu ⟨a, vs, rfl, SqL.of k4, fun p hp => post_lst sf c q hp (cut_reps k5)⟩
      · cases e
    | _ => simp only [slD] at e; cases e
theorem s_slf {o a : P} {eo ea : Expr} {p2 : Pos} (hK : X.K = d.K) (ho : PE X eo (toI d C W o)) (ha : PE X ea (teI d C W a)) : PE X (.Subscript eo (.Slice (some ea) none none p2) pos) (teI d C W (.slf o a)) := by
  refine PE_imp (pe_slice (sl_all hK) ho (po_some ha) po_none) fun sg H Q h => ?_
  obtain ⟨F, io, e, M, rl, h⟩ := h
  simp only [ev] at h
  refine ⟨F, io, e, M, rl, (h.bind (RO d)).mono fun v H1 m => ?_⟩
  obtain ⟨F1, io1, M1, x, x1, s1, c1, q1, h1⟩ := m
  refine ⟨F1, io1, e, M1, rl.ex x1 s1 c1, (h1.bind (RV d)).mono fun u H2 m2 => ?_⟩
  obtain ⟨F2, io2, M2, y, x2, s2, c2, q2, h2⟩ := m2
  cases y with
  | int k =>
    obtain ⟨z, e1, h2⟩ := Sat.oR h2
    exact ⟨k, rep_int q2, F2, io2, M2, x, z, s2, c2, q1.later x2, e1, h2⟩
  | _ => exact (show False from h2).elim
theorem s_slt {o a : P} {eo ea : Expr} {p2 : Pos} (hK : X.K = d.K) (ho : PE X eo (toI d C W o)) (ha : PE X ea (teI d C W a)) : PE X (.Subscript eo (.Slice none (some ea) none p2) pos) (teI d C W (.slt o a)) := by
  refine PE_imp (pe_slice (sl_all hK) ho po_none (po_some ha)) fun sg H Q h => ?_
  obtain ⟨F, io, e, M, rl, h⟩ := h
  simp only [ev] at h
  refine ⟨F, io, e, M, rl, (h.bind (RO d)).mono fun v H1 m => ?_⟩
  obtain ⟨F1, io1, M1, x, x1, s1, c1, q1, h1⟩ := m
  refine ⟨F1, io1, e, M1, rl.ex x1 s1 c1, (h1.bind (RV d)).mono fun u H2 m2 => ?_⟩
  obtain ⟨F2, io2, M2, y, x2, s2, c2, q2, h2⟩ := m2
  cases y with
  | int k =>
    obtain ⟨z, e1, h2⟩ := Sat.oR h2
    exact ⟨k, rep_int q2, F2, io2, M2, x, z, s2, c2, q1.later x2, e1, h2⟩
  | _ => exact (show False from h2).elim

/-! ### a length -/
theorem len_imp {a : P} : ∀ sg H Q, teI d C W (.len a) sg H Q → (toI d C W a) sg H (fun v H1 => ∃ F io M x n, Sub F H1 ∧ Cels d F io H1 M ∧ RO d F io H1 x v ∧ lenD x.2 M = some n ∧ Q (.int (n : Nat)) H1) := by
  intro sg H Q h
  obtain ⟨F, io, e, M, rl, h⟩ := h
  simp only [ev] at h
  refine ⟨F, io, e, M, rl, (h.bind (RO d)).mono fun v H1 m => ?_⟩
  obtain ⟨F1, io1, M1, x, x1, s1, c1, q1, h1⟩ := m
  obtain ⟨z, e1, h1⟩ := h1.oR
  obtain ⟨n, e2, rfl⟩ := Option.map_eq_some_iff.mp e1
  exact ⟨F1, io1, M1, x, n, s1, c1, q1, e2, h1.ok s1 c1 (by simp only [RV, Rep])⟩
theorem s_len {a : P} {e : Expr} (hK : X.K = d.K) (hg : Gl X "len") (hm : X.mg "len" = none) (hn : nst e = true) (h : PE X e (toI d C W a)) : PE X (.Call (.Name "len" px) [e] [] pos) (teI d C W (.len a)) := by
  refine PE_imp (pe_callB (CallR_or call_len_seq call_len_str) hg hm PySem.boot_len (a_one h hn) (by decide) (by decide) (star_ns hn) rfl) fun sg H Q h => ?_
  obtain ⟨F, io, e, M, rl, h⟩ := len_imp sg H Q h
  refine ⟨F, io, e, M, rl, h.mono fun v H1 m => ?_⟩
  obtain ⟨F1, io1, M1, x, n, s1, c1, ro, e1, q⟩ := m
  obtain ⟨fl, x⟩ := x
  rcases ro with ⟨_, a, vs, l, rfl, rfl, k1, k2, _, _⟩ | ⟨_, k1⟩
  · simp only [lenD, seqD, Option.map_some, Option.some.injEq] at e1
    subst e1
    exact .inl ⟨a, vs, rfl, .inl (SqL.of k2), by rw [← k1.length]; exact q⟩
  · have k1 : Rep d F1 io1 x v := k1
    cases x with
    | str s =>
      simp only [lenD] at e1
      split at e1
      · rename_i hz
        cases e1
        rw [rep_str k1]
        exact .inr ⟨s, rfl, by rw [← lim_eq]; exact hz, q⟩
      · cases e1
    | tup l =>
      simp only [lenD, seqD, Option.map_some, Option.some.injEq] at e1
      subst e1
      obtain ⟨a, vs, rfl, k2, k3⟩ := rep_tup k1
      exact .inl ⟨a, vs, rfl, .inr (by rw [hK]; exact s1.sqt k2), by rw [← k3.length]; exact q⟩
    | lst l =>
      simp only [lenD, seqD, Option.map_some, Option.some.injEq] at e1
      subst e1
      obtain ⟨a, vs, rfl, k2, k3⟩ := rep_lst k1
      exact .inl ⟨a, vs, rfl, .inl (SqL.of (s1 _ _ k2)), by rw [← k3.length]; exact q⟩
    | cel r =>
      obtain ⟨a, rfl, k2⟩ := rep_cel k1
      simp only [lenD, seqD, Option.map_eq_some_iff] at e1
      obtain ⟨l, e1, e2⟩ := e1
      split at e1
      · rename_i m hm
        cases e1
        obtain ⟨a', k3, vs, k4, k5⟩ := c1.cel r _ hm
        rw [k2] at k3; cases k3
        refine .inl ⟨a, vs, rfl, .inl (SqL.of k4), ?_⟩
        rw [← k5.length, e2]; exact q
      · cases e1
    | _ => simp only [lenD, seqD, Option.map_none] at e1; cases e1

/-! ### in, not in -/
theorem dct_look : ∀ {kvs : List (Str × D)} {vkv : List (Key × V)}, vkv.map (·.1) = kvs.map (fun p => Sum.inr p.1) → Reps d F io (kvs.map (·.2)) (vkv.map (·.2)) → ∀ f : Str,
    (lookF f kvs = none ∧ valV vkv (Sum.inr f : Key) = none) ∨ ∃ y v, lookF f kvs = some y ∧ valV vkv (Sum.inr f : Key) = some v ∧ Rep d F io y v
  | [], vkv, hk, hr, f => by
    have : vkv = [] := by simpa using hk
    subst this
    exact .inl ⟨rfl, rfl⟩
  | (g, x) :: kvs, vkv, hk, hr, f => by
    cases vkv with
    | nil => simp at hk
    | cons p vkv =>
      simp only [List.map_cons, List.cons.injEq] at hk
      simp only [List.map_cons, Reps] at hr
      obtain ⟨v, r, e, h1, h2⟩ := hr
      simp only [List.cons.injEq] at e
      obtain ⟨e1, e2⟩ := e
      subst e2
      by_cases h : f = g
      · subst h
        exact .inr ⟨x, p.2, by simp [lookF], by rw [valV_pos hk.1], by rw [e1]; exact h1⟩
      · have hp : ¬ p.1 = (Sum.inr f : Key) := fun q => by rw [hk.1] at q; exact h (Sum.inr.inj q).symm
        rw [valV_neg hp]
        have : lookF f ((g, x) :: kvs) = lookF f kvs := by simp [lookF, h]
        rw [this]
        exact dct_look hk.2 h2 f
def rInT (K : PySem.W.Frag) : R2 := fun x y H Q => ∃ d ds, Dp K H x d ∧ Dp K H y (.tuple ds) ∧ SeqAt.shaped d = true ∧ SeqAt.shaped (.tuple ds) = true ∧ Q (.bl (ds.any fun z => PyData.eqv z d)) H
def rNotInT (K : PySem.W.Frag) : R2 := fun x y H Q => ∃ d ds, Dp K H x d ∧ Dp K H y (.tuple ds) ∧ SeqAt.shaped d = true ∧ SeqAt.shaped (.tuple ds) = true ∧ Q (.bl (!ds.any fun z => PyData.eqv z d)) H
theorem op_inT (hu : X.A.units + 65 < cLine) : OpR X (compareOp .In) (rInT X.K) := by
  intro pins s σ H x y v u Q I rx ry h
  obtain ⟨d, ds, hd, he, sd, se, q⟩ := h
  obtain ⟨as, r1⟩ := Dp.reads I d x v hd rx
  obtain ⟨bs, r2⟩ := Dp.reads I (.tuple ds) y u he ry
  exact SeqAt.in_tuple_reads r2 r1 (SeqAt.canLay_of_shaped se) (SeqAt.canLay_of_shaped sd) (room_in_shaped sd hu) ⟨.bl _, H, I, rfl, q⟩
theorem op_notInT (hu : X.A.units + 65 < cLine) : OpR X (compareOp .NotIn) (rNotInT X.K) := by
  intro pins s σ H x y v u Q I rx ry h
  obtain ⟨d, ds, hd, he, sd, se, q⟩ := h
  obtain ⟨as, r1⟩ := Dp.reads I d x v hd rx
  obtain ⟨bs, r2⟩ := Dp.reads I (.tuple ds) y u he ry
  exact SeqAt.notIn_tuple_reads r2 r1 (SeqAt.canLay_of_shaped se) (SeqAt.canLay_of_shaped sd) (room_in_shaped sd hu) ⟨.bl _, H, I, rfl, q⟩
theorem shaped_tup {l : List PyData} (h : SeqAt.shaped (.list l) = true) : SeqAt.shaped (.tuple l) = true := by
  unfold SeqAt.shaped at h ⊢
  simpa [PyData.canLay0, PyData.depth] using h
/-- by values: x, what it is asked of -/
def rInD2 (d : Wd) (neg : Bool) : R2 := fun v u H Q => ∃ F io M x y r, Sub F H ∧ Cels d F io H M ∧ Rep d F io x v ∧ RO d F io H y u ∧ inD x y M = some r ∧ Q (.bl (r != neg)) H
theorem in_all {neg : Bool} (hK : X.K = d.K) (hu : X.A.units + 65 < cLine) : OpR X (compareOp (if neg then .NotIn else .In)) (rInD2 d neg) := by
  intro pins s sg H v u vv uu Q I r1 r2 h
  obtain ⟨F, io, M, x, y, r, sf, c, h1, ro, e, q⟩ := h
  have lst : ∀ {a : Addr} {vs : List V} {l : List D}, u = .ref a → H a = some (.lst vs) → Reps d F io l vs → inO x l = some r → wpAny (model X.prog X.w) X.A (compareOp (if neg then .NotIn else .In) vv uu) (EP X pins sg Q) X.xe s := by
    intro a vs l e1 e2 e3 e4
    subst e1
    unfold inO at e4
    split at e4
    · rename_i p q' p1 p2
      split at e4
      · rename_i hs
        cases e4
        simp only [Bool.and_eq_true] at hs
        cases neg with
        | false => exact op_inD hu pins s sg H _ _ vv uu Q I r1 r2 ⟨p, q', by rw [hK]; exact Rep.dp sf _ _ _ h1 p1, by rw [hK]; exact .lst (SqL.of e2) (Reps.dp sf _ _ _ e3 p2), hs.1, hs.2, by simpa using q⟩
        | true => exact op_notInD hu pins s sg H _ _ vv uu Q I r1 r2 ⟨p, q', by rw [hK]; exact Rep.dp sf _ _ _ h1 p1, by rw [hK]; exact .lst (SqL.of e2) (Reps.dp sf _ _ _ e3 p2), hs.1, hs.2, by simpa using q⟩
      · cases e4
    · cases e4
  have tup : ∀ {a : Addr} {vs : List V} {l : List D}, u = .ref a → SqT d.K F a vs → Reps d F io l vs → inO x l = some r → wpAny (model X.prog X.w) X.A (compareOp (if neg then .NotIn else .In) vv uu) (EP X pins sg Q) X.xe s := by
    intro a vs l e1 e2 e3 e4
    subst e1
    unfold inO at e4
    split at e4
    · rename_i p q' p1 p2
      split at e4
      · rename_i hs
        cases e4
        simp only [Bool.and_eq_true] at hs
        cases neg with
        | false => exact op_inT hu pins s sg H _ _ vv uu Q I r1 r2 ⟨p, q', by rw [hK]; exact Rep.dp sf _ _ _ h1 p1, by rw [hK]; exact .tup (sf.sqt e2) (Reps.dp sf _ _ _ e3 p2), hs.1, shaped_tup hs.2, by simpa using q⟩
        | true => exact op_notInT hu pins s sg H _ _ vv uu Q I r1 r2 ⟨p, q', by rw [hK]; exact Rep.dp sf _ _ _ h1 p1, by rw [hK]; exact .tup (sf.sqt e2) (Reps.dp sf _ _ _ e3 p2), hs.1, shaped_tup hs.2, by simpa using q⟩
      · cases e4
    · cases e4
  obtain ⟨fl, y⟩ := y
  rcases ro with ⟨_, a, vs, l, rfl, rfl, k1, k2, _, _⟩ | ⟨_, k1⟩
  · refine lst rfl k2 k1 ?_
    unfold inD at e
    split at e
    · rename_i z1 z2; cases z2
    · rename_i z1 z2; cases z2
    · exact e
  · have k1 : Rep d F io y u := k1
    unfold inD at e
    split at e
    · rename_i z t e2
      have e2 : y = .str t := e2
      subst e2
      cases e
      have e3 := rep_str h1
      have e4 := rep_str k1
      subst e3 e4
      cases neg with
      | false => exact op_in_str pins s sg H _ _ vv uu Q I r1 r2 ⟨z, t, rfl, rfl, by simpa [strHas] using q⟩
      | true => exact op_notin_str pins s sg H _ _ vv uu Q I r1 r2 ⟨z, t, rfl, rfl, by simpa [strHas] using q⟩
    · rename_i f n e2
      have e2 : y = .cel n := e2
      subst e2
      obtain ⟨a, rfl, k2⟩ := rep_cel k1
      split at e
      · rename_i kvs hm
        cases e
        obtain ⟨a', k3, vkv, k4, ⟨k5, _⟩, k6⟩ := c.cel n _ hm
        rw [k2] at k3; cases k3
        have e3 := rep_str h1
        subst e3
        have dg := DGet.k (k := (Sum.inr f : Key)) k4
        have e4 : (valV vkv (Sum.inr f : Key)).isSome = (lookF f kvs).isSome := by
          rcases dct_look k5 k6 f with ⟨l1, l2⟩ | ⟨y, w, l1, l2, l3⟩
          · rw [l1, l2]; rfl
          · rw [l1, l2]; rfl
        obtain rfl : uu = Value.ref a := r2
        rw [← e4] at q
        cases neg with
        | false => exact d_in (by omega) I dg r1 fun s3 I3 => ⟨.bl _, H, I3, rfl, by simpa using q⟩
        | true => exact d_notIn (by omega) I dg r1 fun s3 I3 => ⟨.bl _, H, I3, rfl, by simpa using q⟩
      · rename_i m hm
        obtain ⟨a', k3, vs, k4, k5⟩ := c.cel n _ hm
        rw [k2] at k3; cases k3
        exact lst rfl k4 k5 e
      · cases e
    · obtain ⟨l, e1, e2⟩ := Option.bind_eq_some_iff.mp e
      have e1 : seqD y M = some l := e1
      cases y with
      | tup m => cases e1; obtain ⟨a, vs, e3, k2, k3⟩ := rep_tup k1; exact tup e3 k2 k3 e2
      | lst m => cases e1; obtain ⟨a, vs, e3, k2, k3⟩ := rep_lst k1; exact lst e3 (sf _ _ k2) k3 e2
      | cel n =>
        obtain ⟨a, rfl, k2⟩ := rep_cel k1
        simp only [seqD] at e1
        split at e1
        · rename_i m hm
          cases e1
          obtain ⟨a', k3, vs, k4, k5⟩ := c.cel n _ hm
          rw [k2] at k3; cases k3
          exact lst rfl k4 k5 e2
        · cases e1
      | _ => cases e1
theorem in_imp {neg : Bool} {a b : P} : ∀ sg H Q, teI d C W (.cmp (if neg then .notin else .isin) a b) sg H Q → tOp (rInD2 d neg) (teI d C W a) (toI d C W b) sg H Q := by
  intro sg H Q h
  obtain ⟨F, io, e, M, rl, h⟩ := h
  have h : Sat d W sg F io H ((ev d.T C a e M).bind fun x M1 => (opOf b e M1 (ev d.T C b e M1)).bind fun y M2 => oR ((inD x y M2).map fun r => .bl (r != neg)) M2) (RV d) Q := by
    cases neg with
    | false =>
      have : ev d.T C (.cmp .isin a b) e M = (ev d.T C a e M).bind fun x M1 => (opOf b e M1 (ev d.T C b e M1)).bind fun y M2 => oR ((inD x y M2).map fun r => .bl (r != false)) M2 := by
        simp only [ev, Bool.bne_false]
      rw [← this]; exact h
    | true =>
      have : ev d.T C (.cmp .notin a b) e M = (ev d.T C a e M).bind fun x M1 => (opOf b e M1 (ev d.T C b e M1)).bind fun y M2 => oR ((inD x y M2).map fun r => .bl (r != true)) M2 := by
        simp only [ev, Bool.bne_true]
      rw [← this]; exact h
  refine ⟨F, io, e, M, rl, (h.bind (RV d)).mono fun v H1 m => ?_⟩
  obtain ⟨F1, io1, M1, x, x1, s1, c1, q1, h1⟩ := m
  refine ⟨F1, io1, e, M1, rl.ex x1 s1 c1, (h1.bind (RO d)).mono fun u H2 m2 => ?_⟩
  obtain ⟨F2, io2, M2, y, x2, s2, c2, q2, h2⟩ := m2
  obtain ⟨z, e1, h2⟩ := h2.oR
  obtain ⟨r, e2, rfl⟩ := Option.map_eq_some_iff.mp e1
  exact ⟨F2, io2, M2, x, y, r, s2, c2, Rep.mono x2.sub x2.pre _ _ q1, q2, e2, h2.ok s2 c2 (by simp only [RV, Rep])⟩
theorem s_in {neg : Bool} {a b : P} {ea eb : Expr} (hK : X.K = d.K) (hu : X.A.units + 65 < cLine) (ha : PE X ea (teI d C W a)) (hb : PE X eb (toI d C W b)) (hm : behindInMarks (if neg then .NotIn else .In) eb = false) :
    PE X (.Compare ea [if neg then .NotIn else .In] [eb] pos) (teI d C W (.cmp (if neg then .notin else .isin) a b)) := PE_imp (pe_cmpR (in_all hK hu) ha hb hm) in_imp
theorem t_in {neg : Bool} {a b : P} {ea eb : Expr} (hK : X.K = d.K) (hu : X.A.units + 65 < cLine) (ha : PE X ea (teI d C W a)) (hb : PE X eb (toI d C W b)) (hm : behindInMarks (if neg then .NotIn else .In) eb = false) :
    PT X (.Compare ea [if neg then .NotIn else .In] [eb] pos) (ttI d C W (.cmp (if neg then .notin else .isin) a b)) := PT_imp (pt_cmpR (in_all hK hu) ha hb hm) (tt_of in_imp)
end
end Rb

/-! RbSnd5: the program's own defs and classes called. Own work. -/
namespace Rb
open PySem PySem.Spec PyProof.Rows
open L2 hiding XE Takes CX passes_call takes_of MkP PMk ps_raise mk_of ps_try_as HdsOk ps_try_many pmk_own passAt St
open L2N
/-- what a def promises: the small language's call -/
def spI (d : Wd) (n f : Nat) : Sp := fun vs H Q E => ∃ F io args M, Sub F H ∧ Cels d F io H M ∧ Reps d F io args vs ∧ Sat d (fun cls dd _ H => E cls dd H) [] F io H (run d.T n f args M) (RV d) Q
theorem Sat.wish {α β : Type} {d : Wd} {W W' : WX} {sg sg' : L2.St} {F : Hp} {io : List Addr} {H : Hp} {r : Res α} {R : Hp → List Addr → Hp → α → β → Prop} {Q : β → Hp → Prop} (h : Sat d W sg F io H r R Q) (k : ∀ c dd H, W c dd sg H → W' c dd sg' H) :
    Sat d W' sg' F io H r R Q := by
  cases r with
  | stuck => exact h
  | exc c y M' => exact fun F2 io2 H2 cls dd x2 s2 c2 q2 => k _ _ _ (h F2 io2 H2 cls dd x2 s2 c2 q2)
  | ok a M1 => exact h
/-- a def of the text, as it stands -/
structure FnF (d : Wd) (f : Nat) (fd : FD) : Prop where
  keep : PySem.W.keepIn d.K (.ref (d.fa f)) = true
  bind : Binds d.K (d.fdt f) (fd.ps.map Str.ofString) []
  kbind : d.T.kw f = true → ∀ (s : Shared) (ws : List Value), d.K.In s.heap → ws.length = fd.ps.length → BindsTo s (d.fdt f) ⟨[], (fd.ps.map Str.ofString).zip ws⟩ ((fd.ps.map Str.ofString).zip ws)
/-- a class of the text whose instances are made -/
structure ClF (d : Wd) (c : Nat) : Prop where
  cls : Cls d.K (d.ca c)
  mk1 : ∀ f, d.T.init c = some f → Mk d.K (d.ca c) (d.fa f)
  mg : d.mg (Str.ofString (d.T.cname c)) = some (.ref (d.ca c))
  att : ∀ f ∈ d.T.flds c, NoAttr d.K (d.ca c) f
  co : PySem.W.findIn d.K (.ref (d.ca c)) "__class__" = some (some (.builtin "object.__class__"))
  gs : PySem.W.specialIn d.K (.builtin "object.__class__") "__get__" = some (some (.builtin "getset_descriptor.__get__"))
  tk : PySem.W.takesIn d.K (.builtin "object.__class__") = some true
  mro : PySem.W.mroIn d.K (d.ca c) (.type "object") = some true
  dfl : ∀ f fd k, d.T.init c = some f → d.T.fn f = some fd → (d.T.dfl c = [] ∨ 0 < k) → k + ((d.T.dfl c).drop k).length + 1 = fd.ps.length → ∃ ds vs, Binds d.K (d.fdt f) (fd.ps.map Str.ofString) ds ∧ Vals vs ds ∧ ∀ F io, Reps d F io ((d.T.dfl c).drop k) vs
  kbind : ∀ f fd, d.T.init c = some f → d.T.fn f = some fd → d.T.kw f = true → ∀ (s : Shared) (x : Value) (ws : List Value), d.K.In s.heap → ws.length + 1 = fd.ps.length → BindsTo s (d.fdt f) ⟨[x], (fd.ps.map Str.ofString).tail.zip ws⟩ ((fd.ps.map Str.ofString).zip (x :: ws))
/-- the context of a def's body, of a comprehension's block -/
structure Gd (d : Wd) (X : Cx) (n : Nat) : Prop where
  K : X.K = d.K
  mg : X.mg = d.mg
  calm : X.calm = true
  room : Room (2 * n + 1) X.A
  fns : ∀ f fd, d.T.fn f = some fd → FnOk X.prog X.w X.K X.mg X.base (L2N.CX X.prog X.w) (2 * n) (d.fa f) (d.fdt f) (fd.ps.map Str.ofString) (spI d n f)
section
variable {X : Cx} {d : Wd} {n : Nat} {W : WX} {pos px apos : Pos} {x : Str}
theorem sp_of {C : CallT} (hC : C = run d.T n) {F : Hp} {io : List Addr} {H : Hp} {M : Sto} {sg : L2.St} {l : List D} {vs : List V} {f : Nat} {Q : VK} (s : Sub F H) (c : Cels d F io H M) (r : Reps d F io l vs) (h : Sat d W sg F io H (C f l M) (RV d) Q) : spI d n f vs H Q (WE W sg) := by
  subst hC
  exact ⟨F, io, l, M, s, c, r, h.wish fun _ _ _ z => z⟩
theorem run_len {n f : Nat} {fd : FD} {T : Tb} {args : List D} {M : Sto} (h : T.fn f = some fd) (ne : run T n f args M ≠ .stuck) : args.length = fd.ps.length := by
  cases n with
  | zero => exact absurd rfl ne
  | succ n =>
    simp only [run, h] at ne
    split at ne
    · rename_i z; exact z.1
    · exact absurd rfl ne
theorem spI_len {n f : Nat} {fd : FD} (h : d.T.fn f = some fd) {vs : List V} {H : Hp} {Q : VK} {E : XK} (q : spI d n f vs H Q E) : vs.length = (fd.ps.map Str.ofString).length := by
  obtain ⟨F, io, args, M, _, _, r, k⟩ := q
  rw [List.length_map, ← run_len (args := args) (M := M) (n := n) h, r.length]
  intro z; rw [z] at k; exact k.elim

/-- f(e, ..) -/
theorem s_call {f : Nat} {fd : FD} {ps : List P} {e : Expr} {es : List Expr} (G : Gd d X n) (hf : d.T.fn f = some fd) (FF : FnF d f fd) (tk : Takes X W) (hg : Gl X x) (hm : d.mg x = some (.ref (d.fa f))) (hd : (x == ("__debug__" : Str)) = false) (hn : nsts (e :: es) = true)
    (ha : PA X (e :: es) (taI d (run d.T n) W ps)) : PE X (.Call (.Name x px) (e :: es) [] pos) (teI d (run d.T n) W (.call f ps)) := by
  have hn' : nst e = true ∧ nsts es = true := by unfold nsts at hn ⊢; rw [List.all_cons, Bool.and_eq_true] at hn; exact hn
  refine PE_imp (pe_callS (G.fns f fd hf) (G.room.mono (by omega)) hg (by rw [G.mg]; exact hm) (by rw [G.K]; exact FF.keep) (by rw [G.K]; exact FF.bind) (fun sg => passAt tk sg) ha hd (star_ns hn'.1) (star_nsts hn'.2)) fun sg H Q h => ?_
  obtain ⟨F, io, e, M, rl, h⟩ := h
  simp only [ev] at h
  refine ⟨F, io, e, M, rl, (h.bind (RVs d)).mono fun vs H1 m => ?_⟩
  obtain ⟨F1, io1, M1, l, x1, s1, c1, q1, h1⟩ := m
  exact sp_of rfl s1 c1 q1 h1
theorem s_call0 {f : Nat} {fd : FD} (G : Gd d X n) (hf : d.T.fn f = some fd) (FF : FnF d f fd) (tk : Takes X W) (hg : Gl X x) (hm : d.mg x = some (.ref (d.fa f))) (hd : (x == ("__debug__" : Str)) = false) :
    PE X (.Call (.Name x px) [] [] pos) (teI d (run d.T n) W (.call f [])) := by
  refine ⟨fun pins s sg H Q I h => ?_⟩
  refine wpAny_Call_Name_kw (ld_glob I hg (by rw [G.mg]; exact hm) ?_ hd)
  refine PySem.W.callWith_K0 I.kIn (by rw [G.K]; exact FF.keep) ?_
  obtain ⟨F, io, e, M, rl, h⟩ := h
  simp only [ev, evs, Res.bind] at h
  exact run_fnS (us := []) (vs := []) (G.fns f fd hf) (G.room.mono (by omega)) (by rw [G.K]; exact FF.bind) (passAt tk sg) I .nil (sp_of rfl rl.sub rl.cl Reps.nil h)

/-! ### methods -/
/-- the eval of a method's call -/
def MethForm (o : Expr) (m : Str) (apos pos : Pos) (es : List Expr) (env : PySem.Env) : Prop := ∃ pl : Sem Bool, eval (.Call (.Attribute o m apos) es [] pos) env = (do
      let ov ← eval o env
      standAt apos.atName
      let (f, first) ← holding [ov] (getMethod ov m pl)
      callWith pos f first (backTo pos (starEach es env)) (backToKw pos (keywordEach [] env)))
/-- no super() -/
def nsup : Expr → Bool
  | .Call (.Name _ _) [] [] _ => false
  | _ => true
theorem base_of {o : Expr} {attr : Str} {env : PySem.Env} (h : nsup o = true) : attributeBase o attr env (eval o env) = eval o env := by
  cases o with
  | Call f args kws p =>
    cases f with
    | Name i q =>
      cases args with
      | nil => cases kws with
        | nil => cases h
        | cons _ _ => rfl
      | cons _ _ => rfl
    | _ => rfl
  | _ => rfl
theorem all_ns {pos : Pos} {env : PySem.Env} : ∀ {es : List Expr}, nsts es = true → (backTo pos (starEach es env)).all (!·.1) = true
  | [], _ => rfl
  | e :: es, h => by
    unfold nsts at h
    rw [List.all_cons, Bool.and_eq_true] at h
    rw [star_ns h.1]
    show (!false && (backTo pos (starEach es env)).all (!·.1)) = true
    rw [all_ns (es := es) h.2]; rfl
theorem meth_form {o : Expr} {m : Str} {apos pos : Pos} {es : List Expr} {env : PySem.Env} (h : nsup o = true) (hn : nsts es = true) (hl : (apos.endLine == pos.line) = true) (hz : es.length < 30) : MethForm o m apos pos es env := by
  refine ⟨(do return (← importBound o env).getD true), ?_⟩
  rw [arm_eval_Call, base_of h]
  have hform : methodCallForm (es.length + ([] : List Keyword).length) (backTo pos (starEach es env)) (backToKw pos (keywordEach [] env)) = true := by
    unfold methodCallForm
    rw [all_ns hn]
    simp [backToKw, keywordEach, hz]
  unfold methodCall calleeOf methodCallPos
  simp only [hform, hl, if_true, Bool.not_true, Bool.or_true]
  rfl

theorem lookF_get {F : Hp} {io : List Addr} : ∀ {fs : List (Str × D)} {vs : List (Str × V)} {f : Str} {y : D}, fs.map (·.1) = vs.map (·.1) → Reps d F io (fs.map (·.2)) (vs.map (·.2)) → lookF f fs = some y → ∃ v, vs.lookup f = some v ∧ Rep d F io y v
  | [], _, _, _, _, _, h => by simp [lookF] at h
  | (g, z) :: fs, vs, f, y, hk, hr, h => by
    cases vs with
    | nil => simp at hk
    | cons p vs =>
      obtain ⟨g', v⟩ := p
      simp only [List.map_cons, List.cons.injEq] at hk
      obtain ⟨hg, hk⟩ := hk
      have hg : g = g' := hg
      subst hg
      simp only [List.map_cons, Reps] at hr
      obtain ⟨u, r, e, h1, h2⟩ := hr
      cases e
      simp only [lookF] at h
      split at h
      · rename_i q
        cases h
        subst q
        exact ⟨v, by simp [List.lookup], h1⟩
      · rename_i q
        obtain ⟨w, k1, k2⟩ := lookF_get hk h2 h
        have : (f == g) = false := by simpa using q
        exact ⟨w, by simp [List.lookup, this, k1], k2⟩
theorem lookF_none : ∀ {fs : List (Str × D)} {vs : List (Str × V)} {f : Str}, fs.map (·.1) = vs.map (·.1) → lookF f fs = none → vs.lookup f = none
  | [], vs, _, hk, _ => by
    cases vs with
    | nil => rfl
    | cons _ _ => simp at hk
  | (g, z) :: fs, vs, f, hk, h => by
    cases vs with
    | nil => simp at hk
    | cons p vs =>
      obtain ⟨g', v⟩ := p
      simp only [List.map_cons, List.cons.injEq] at hk
      obtain ⟨hg, hk⟩ := hk
      have hg : g = g' := hg
      subst hg
      simp only [lookF] at h
      split at h
      · cases h
      · rename_i q
        have : (f == g) = false := by simpa using q
        simp [List.lookup, this, lookF_none hk h]
/-- an object as it stands -/
theorem obj_at {F : Hp} {io : List Addr} {H : Hp} {M : Sto} {x : D} {v : V} {c : Nat} {fs : List (Str × D)} (s : Sub F H) (cl : Cels d F io H M) (r : Rep d F io x v) (h : objD d.T x M = some (c, fs)) :
    ∃ a dx vfs, v = .ref a ∧ H a = some (.ins (d.ca c) dx vfs) ∧ fs.map (·.1) = vfs.map (·.1) ∧ Reps d F io (fs.map (·.2)) (vfs.map (·.2)) := by
  cases x with
  | ins k l =>
    simp only [objD, Option.some.injEq, Prod.mk.injEq] at h
    obtain ⟨rfl, rfl⟩ := h
    obtain ⟨a, dx, vs, rfl, h1, h2, h3, h4⟩ := rep_ins r
    have hl := h4.length
    refine ⟨a, dx, _, rfl, s _ _ h1, ?_, ?_⟩
    · rw [List.map_fst_zip (by omega), List.map_fst_zip (by omega)]
    · rw [List.map_snd_zip (by omega), List.map_snd_zip (by omega)]; exact h4
  | cel n =>
    simp only [objD] at h
    split at h
    · rename_i c' fs' hm
      cases h
      obtain ⟨a, rfl, k1⟩ := rep_cel r
      obtain ⟨a', k2, dx, vfs, k3, k4, k5, k6⟩ := cl.cel n _ hm
      rw [k1] at k2; cases k2
      exact ⟨a, dx, vfs, rfl, k3, k5, k6⟩
    · cases h
  | _ => simp only [objD] at h; cases h
theorem isObj_at {F : Hp} {io : List Addr} {H : Hp} {M : Sto} {x : D} {v : V} {c : Nat} {f : Str} (s : Sub F H) (cl : Cels d F io H M) (r : Rep d F io x v) (h : isObj d.T c x f M = true) :
    ∃ a dx vfs, v = .ref a ∧ H a = some (.ins (d.ca c) dx vfs) ∧ vfs.lookup f = none := by
  unfold isObj at h
  split at h
  · rename_i y hy
    obtain ⟨c', fs⟩ := y
    simp only [Bool.and_eq_true, decide_eq_true_eq, Option.isNone_iff_eq_none] at h
    obtain ⟨rfl, h⟩ := h
    obtain ⟨a, dx, vfs, h1, h2, h3, h4⟩ := obj_at s cl r hy
    exact ⟨a, dx, vfs, h1, h2, lookF_none h3 h⟩
  · cases h
/-- o.f -/
theorem s_att {c : Nat} {o : P} {eo : Expr} {f : Str} {C : CallT} (hK : X.K = d.K) (hc : Cls d.K (d.ca c)) (na : NoAttr d.K (d.ca c) f) (hs : nsup eo = true) (h : PE X eo (teI d C W o)) : PE X (.Attribute eo f pos) (teI d C W (.att c o f)) := by
  refine PE_imp (pe_fld h (base_of hs)) (un_imp (g := fun x M1 => oR (attD d.T c x f M1) M1) (fun e M => by simp only [ev]) (r := fun v H1 Q => ∃ a C' dx fs v', v = .ref a ∧ H1 a = some (.ins C' dx fs) ∧ Cls X.K C' ∧ NoAttr X.K C' f ∧ fs.lookup f = some v' ∧ Q v' H1) fun F io H M sg x v Q s cl q hh => ?_)
  obtain ⟨y, e1, h7⟩ := hh.oR
  obtain ⟨⟨c', fs⟩, e2, e3⟩ := Option.bind_eq_some_iff.mp e1
  split at e3
  · rename_i hc'
    have hc' : c' = c := hc'
    subst hc'
    obtain ⟨a, dx, vfs, h1, h2, h3, h4⟩ := obj_at s cl q e2
    obtain ⟨w, h5, h6⟩ := lookF_get h3 h4 e3
    exact ⟨a, d.ca c', dx, vfs, w, h1, h2, by rw [hK]; exact hc, by rw [hK]; exact na, h5, Sat.ok (R := RV d) h7 s cl h6⟩
  · cases e3
theorem Sat.noExc {α β : Type} {W W' : WX} {sg sg' : L2.St} {F : Hp} {io : List Addr} {H : Hp} {r : Res α} {R : Hp → List Addr → Hp → α → β → Prop} {Q : β → Hp → Prop} (h : Sat d W sg F io H (noExc r) R Q) : Sat d W' sg' F io H r R Q := by
  cases r with
  | stuck => exact h
  | exc c y M' => exact h.elim
  | ok a M1 => exact h
/-- o.p, a property -/
theorem s_prop {c m : Nat} {o : P} {eo : Expr} {fd : FD} {pa : Addr} (G : Gd d X n) (hf : d.T.fn m = some fd) (FF : FnF d m fd) (hc : Cls d.K (d.ca c)) (hp : PropOf d.K (d.ca c) (Str.ofString fd.name) pa (d.fa m)) (hs : nsup eo = true) (h : PE X eo (teI d (run d.T n) W o)) :
    PE X (.Attribute eo (Str.ofString fd.name) pos) (teI d (run d.T n) W (.prop c o m)) := by
  refine PE_imp (pe_prop (E := fun _ _ _ => False) h (by rw [G.K]; exact hc) (by rw [G.K]; exact hp) (G.fns m fd hf) (G.room.mono (by omega)) (by rw [G.K]; exact FF.bind) .nil (fun pins σ H s e s' I z => ?_) (base_of hs)) (un_imp (g := fun x M1 => if isObj d.T c x (mName d.T m) M1 then noExc (run d.T n m [x] M1) else .stuck) (fun e M => by simp only [ev]) (r := fun v H1 Q => ∃ a dx fs, v = .ref a ∧ H1 a = some (.ins (d.ca c) dx fs) ∧ spI d n m (.ref a :: []) H1 Q (fun _ _ _ => False)) fun F io H M sg x v Q s cl q h => ?_)
  · obtain ⟨_, _, _, _, _, _, _, _, _, _, _, _, z⟩ := z; exact z
  · split at h
    · rename_i ho
      obtain ⟨a, dx, vfs, rfl, h2, _⟩ := isObj_at s cl q ho
      exact ⟨a, dx, vfs, rfl, h2, F, io, [x], M, s, cl, Reps.cons q Reps.nil, h.noExc⟩
    · exact h.elim
/-- o.m(e, ..), what is raised wished for at the slots -/
theorem s_meth {c m : Nat} {o : P} {eo e1 : Expr} {ps : List P} {es : List Expr} {fd : FD} (G : Gd d X n) (hf : d.T.fn m = some fd) (FF : FnF d m fd) (hc : Cls d.K (d.ca c)) (hm : Meth d.K (d.ca c) (Str.ofString fd.name) (d.fa m)) (tk : Takes X W)
    (hs : nsup eo = true) (hn : nsts (e1 :: es) = true) (hl : (apos.endLine == pos.line) = true) (hz : (e1 :: es).length < 30) (h : PE X eo (teI d (run d.T n) W o)) (ha : PA X (e1 :: es) (taI d (run d.T n) W ps)) :
    PE X (.Call (.Attribute eo (Str.ofString fd.name) apos) (e1 :: es) [] pos) (teI d (run d.T n) W (.meth c o m ps)) := by
  obtain ⟨pl, ht⟩ := meth_form (m := Str.ofString fd.name) (env := X.env) hs hn hl hz
  have hc : Cls X.K (d.ca c) := by rw [G.K]; exact hc
  have hm : Meth X.K (d.ca c) (Str.ofString fd.name) (d.fa m) := by rw [G.K]; exact hm
  refine ⟨fun pins s sg H Q I q => ?_⟩
  obtain ⟨F, io, e, M, rl, q⟩ := q
  simp only [ev] at q
  refine PySem.W.methodCall_KW (pl := pl) (thn (h.run pins s sg H _ I ⟨F, io, e, M, rl, q.bind (RV d)⟩) fun u s1 hu => ?_) ht
  obtain ⟨v, H1, I1, rx, F1, io1, M1, x, x1, s1', c1, q1, h1⟩ := hu
  split at h1
  · rename_i ho
    obtain ⟨a, dx, vfs, rfl, h2, h3⟩ := isObj_at s1' c1 q1 (by rw [mName, hf] at ho; exact ho)
    obtain rfl : u = Value.ref a := rx
    refine getmeth_ok I1 h2 hc hm h3 ?_
    have key : ∀ us s2, AP X pins sg (fun vs H2 => spI d n m (.ref a :: vs) H2 Q (WE W sg)) us s2 → X.K.In s2.heap ∧ wpAny (model X.prog X.w) X.A (call (.ref (d.fa m)) ([.ref a] ++ us)) (EP X pins sg Q) X.xe s2 := by
      rintro us s2 ⟨vs, H2, I2, r2, q2⟩
      exact ⟨I2.kIn, run_fnS (us := .ref a :: us) (vs := .ref a :: vs) (G.fns m fd hf) (G.room.mono (by omega)) (by rw [G.K]; exact FF.bind) (passAt tk sg) I2 (.cons rfl r2) q2⟩
    have args : wpAny (model X.prog X.w) X.A (spliced (backTo pos (starEach (e1 :: es) X.env))) (AP X pins sg (fun vs H2 => spI d n m (.ref a :: vs) H2 Q (WE W sg))) X.xe s1 := by
      refine ha.run pos pins s1 sg H1 _ I1 ⟨F1, io1, e, M1, rl.ex x1 s1' c1, (h1.bind (RVs d)).mono fun vs H2 m2 => ?_⟩
      obtain ⟨F2, io2, M2, l, x2, s2', c2, q2, h4⟩ := m2
      exact sp_of rfl s2' c2 (Reps.cons (Rep.mono x2.sub x2.pre _ _ q1) q2) h4
    have hn' : nst e1 = true ∧ nsts es = true := by unfold nsts at hn ⊢; rw [List.all_cons, Bool.and_eq_true] at hn; exact hn
    exact PySem.W.callWith_K (first := [.ref a]) (h₀ := X.base) I.ok.mod.kin hm.kp (thn args fun us s2 hu => key us s2 hu) (star_ns hn'.1) (star_nsts hn'.2)
  · exact h1.elim
/-- o.m() -/
theorem s_meth0 {c m : Nat} {o : P} {eo : Expr} {fd : FD} (G : Gd d X n) (hf : d.T.fn m = some fd) (FF : FnF d m fd) (hc : Cls d.K (d.ca c)) (hm : Meth d.K (d.ca c) (Str.ofString fd.name) (d.fa m)) (tk : Takes X W)
    (hs : nsup eo = true) (hl : (apos.endLine == pos.line) = true) (h : PE X eo (teI d (run d.T n) W o)) :
    PE X (.Call (.Attribute eo (Str.ofString fd.name) apos) [] [] pos) (teI d (run d.T n) W (.meth c o m [])) := by
  obtain ⟨pl, ht⟩ := meth_form (m := Str.ofString fd.name) (env := X.env) hs (es := []) rfl hl (by decide)
  have hc : Cls X.K (d.ca c) := by rw [G.K]; exact hc
  have hm : Meth X.K (d.ca c) (Str.ofString fd.name) (d.fa m) := by rw [G.K]; exact hm
  refine ⟨fun pins s sg H Q I q => ?_⟩
  obtain ⟨F, io, e, M, rl, q⟩ := q
  simp only [ev] at q
  refine PySem.W.methodCall_KW (pl := pl) (thn (h.run pins s sg H _ I ⟨F, io, e, M, rl, q.bind (RV d)⟩) fun u s1 hu => ?_) ht
  obtain ⟨v, H1, I1, rx, F1, io1, M1, x, x1, s1', c1, q1, h1⟩ := hu
  split at h1
  · rename_i ho
    obtain ⟨a, dx, vfs, rfl, h2, h3⟩ := isObj_at s1' c1 q1 (by rw [mName, hf] at ho; exact ho)
    obtain rfl : u = Value.ref a := rx
    refine getmeth_ok I1 h2 hc hm h3 ?_
    simp only [evs, Res.bind] at h1
    exact PySem.W.callWith_K0 (first := [.ref a]) I1.kIn hm.kp (run_fnS (us := [.ref a]) (vs := [.ref a]) (G.fns m fd hf) (G.room.mono (by omega)) (by rw [G.K]; exact FF.bind) (passAt tk sg) I1 (.cons rfl .nil) (sp_of rfl s1' c1 (Reps.cons q1 Reps.nil) h1))
  · exact h1.elim
/-! ### classes -/
/-- C(..), what is raised wished for at the slots -/
theorem run_makeS {CX : CXT} {k : Nat} {f C : Addr} {fd : FuncData} {ps : List Str} {sp : Sp} {E : XK} {pins : List (Addr × Obj)} {sg : L2.St} {H : Hp} {s : Shared} {Q : VK} {us us' : List Value} {vs : List V} (Mk' : Mk X.K C f) (F : FnOk X.prog X.w X.K X.mg X.base CX k f fd ps sp) (hr : Room (k + 1) X.A)
    (kw : List (Str × Value)) (hb : ∀ s' : Shared, X.K.In s'.heap → ∀ x : Value, (x :: us').length = ps.length → BindsTo s' fd ⟨x :: us, kw⟩ (ps.zip (x :: us')))
    (hx : PassesAt CX X sg E) (I : Inv X pins sg H s) (r : Vals vs us')
    (h : ∀ x dx, H x = none → H dx = none → dx ≠ x → sp (.ref x :: vs) (upd (upd H dx (.own x)) x (.ins C dx [])) (fun v H2 => v = .non ∧ Q (.ref x) H2) E) :
    wpAny (model X.prog X.w) X.A (call (.ref C) us kw) (EP X pins sg Q) X.xe s := by
  have hq := h (s.heap.objs.size + 1) s.heap.objs.size (I.hok.fresh (Nat.le_succ _)) (I.hok.fresh (Nat.le_refl _)) (Nat.ne_of_lt (Nat.lt_succ_self _))
  have I2 := Inv.made (C := C) I
  have r2 : Vals (V.ref (s.heap.objs.size + 1) :: vs) (Value.ref (s.heap.objs.size + 1) :: us') := .cons rfl r
  have hl : (Value.ref (s.heap.objs.size + 1) :: us').length = ps.length := by
    have e := r2.length
    rw [F.len _ _ _ _ hq] at e
    exact e.symm
  refine wpAny_call (make_map (f := f) I.kIn Mk'.makes Mk'.init (beq_iff_eq.mp Mk'.fn) (codeAny_mono (F.run _ X.stack _ _ ⟨Value.ref (s.heap.objs.size + 1) :: us, kw⟩ (Value.ref (s.heap.objs.size + 1) :: us') _ _ E (hr.make C us kw)
    (I2.env0.make C us kw) (hb _ I2.kIn _ hl) r2 hq) fun r s' hq' => ?_))
  cases r with
  | error e => exact hx pins _ _ e s' I2 hq'
  | ok fl =>
    cases fl with
    | ret u =>
      obtain ⟨v, H', I3, rv, ev, q3⟩ := I2.after hq'
      subst ev
      exact ⟨rv, ⟨V.ref (s.heap.objs.size + 1), H', I3, rfl, q3⟩⟩
    | next => exact False.elim hq'
    | brk => exact False.elim hq'
    | cont => exact False.elim hq'
end
/-! ### an own == -/
structure EqF (d : Wd) (c f : Nat) : Prop where
  fd : ∃ fd, d.T.fn f = some fd ∧ FnF d f fd
  find : PySem.W.findIn d.K (.ref (d.ca c)) "__eq__" = some (some (.ref (d.fa f)))
  isf : PySem.W.isFn d.K (.ref (d.fa f)) = true
  nN : PySem.W.notFirst d.K (d.ca c) (.type "NoneType") = true
  nT : PySem.W.notFirst d.K (d.ca c) (.type "tuple") = true
  nC : ∀ c', (d.T.init c').isSome = true → PySem.W.notFirst d.K (d.ca c) (.ref (d.ca c')) = true
theorem cmp_eq {X : Cx} {d : Wd} {n : Nat} {W : WX} (G : Gd d X n) (hu : X.A.units + 64 < cLine) (hq : ∀ c f, d.T.eqf c = some f → EqF d c f) : CmpOk X d (run d.T n) W .Eq .eq := by
  intro pins s sg H v u vv uu Q I r1 r2 h
  obtain ⟨F, io, M, x, y, sg', sf, c, h1, h2, h⟩ := h
  cases x with
  | ins k l =>
    simp only [cmpD] at h
    cases hk : d.T.eqf k with
    | none => rw [hk] at h; exact h.elim
    | some f =>
      rw [hk] at h
      dsimp only at h
      by_cases hy : eqR d.T y = true
      · rw [if_pos hy] at h
        obtain ⟨⟨fd, hf, FF⟩, fnd, isf, nN, nT, nC⟩ := hq k f hk
        obtain ⟨a, dx, vs, rfl, ha, _, _, _⟩ := rep_ins h1
        cases r1
        obtain ⟨mA, J, _⟩ := ins_get I.hok (sf _ _ ha)
        obtain ⟨od, J, _⟩ := J.look
        obtain ⟨m, hF⟩ := I.fr
        have tb : ∃ t, PySem.W.Looks (model X.prog X.w) s.heap (typeOf uu) t ∧ PySem.W.notFirst X.K (d.ca k) t = true := by
          rw [G.K]
          cases y with
          | non =>
            have := rep_non h2
            subst this
            cases r2
            exact ⟨_, PySem.W.Looks.of_pure rfl, nN⟩
          | tup l2 =>
            obtain ⟨b, ws, rfl, hb, _⟩ := rep_tup h2
            cases r2
            obtain ⟨its, r, e, _⟩ := I.tuple (by rw [G.K]; exact sf.sqt hb)
            obtain ⟨o, ho, hc, _⟩ := e
            exact ⟨.type "tuple", hc ▸ (PySem.W.Looks.ld ho).andThen .now, nT⟩
          | ins k2 l2 =>
            obtain ⟨b, dy, ws, rfl, hb, _, _, _⟩ := rep_ins h2
            cases r2
            obtain ⟨mB, J', _⟩ := ins_get I.hok (sf _ _ hb)
            obtain ⟨od', J', _⟩ := J'.look
            exact ⟨_, J'.type, nC k2 hy⟩
          | _ => cases hy
        obtain ⟨t, ht, hn⟩ := tb
        show wpAny (model X.prog X.w) X.A (richCompare .Eq (.ref a) uu) (EP X pins sg Q) X.xe s
        refine PySem.W.cmp_K (op := .Eq) (tb := t) (by omega) hF I.ok.mod.kin J ht hn (by rw [G.K]; exact fnd) (by rw [G.K]; exact isf) ?_
        have sp : spI d n f [.ref a, u] H (fun w H' => (∃ b, w = .bl b) ∧ Q w H') (fun _ _ _ => False) := by
          refine ⟨F, io, [.ins k l, y], M, sf, c, Reps.cons h1 (Reps.cons h2 Reps.nil), ?_⟩
          cases hr : run d.T n f [.ins k l, y] M with
          | ok r M1 =>
            rw [hr] at h
            cases r with
            | bl b => exact fun F' io' H' w x s' c' q => ⟨⟨b, rep_bl q⟩, h F' io' H' w x s' c' q⟩
            | _ => exact h.elim
          | exc _ _ _ => rw [hr] at h; exact h.elim
          | stuck => rw [hr] at h; exact h.elim
        refine wpAny_mono (run_fnS (E := fun _ _ _ _ => False) (us := [.ref a, uu]) (vs := [.ref a, u]) (G.fns f fd hf) (G.room.mono (by omega)) (by rw [G.K]; exact FF.bind) (fun pins H s e s' I z => ?_) I (.cons rfl (.cons r2 .nil)) sp) (fun r s' hq => ?_) fun _ _ e => e
        · obtain ⟨_, _, _, _, _, _, _, _, _, _, _, _, z⟩ := z; exact z.elim
        · obtain ⟨w, H', I', rw_, ⟨b, rfl⟩, q⟩ := hq
          cases rw_
          exact ⟨.bl b, H', I', rfl, q⟩
      · rw [if_neg hy] at h; exact h.elim
  | _ => exact op_eqDD G.K hu pins s sg H v u vv uu Q I r1 r2 (rOf_of (g := fun x y => (eqO x y).map .bl) sf c h1 h2 h)
end Rb

/-! RbSnd6: instances made, keywords, isinstance, texts. Own work. -/
namespace Rb
open PySem PySem.Spec PyProof.Rows L2
section
variable {d : Wd}

mutual
theorem Rep.back {F F' : Hp} {io io' : List Addr} (p : Pre io io') : ∀ (x : D) (v v0 : V), Rep d F' io' x v → Rep d F io x v0 → Rep d F' io x v
  | .non, _, _, h, _ => by simpa only [Rep] using h
  | .bl _, _, _, h, _ => by simpa only [Rep] using h
  | .int _, _, _, h, _ => by simpa only [Rep] using h
  | .str _, _, _, h, _ => by simpa only [Rep] using h
  | .tup l, v, v0, h, k => by
    obtain ⟨a, vs, rfl, h1, h2⟩ := rep_tup h
    obtain ⟨a0, vs0, rfl, k1, k2⟩ := rep_tup k
    exact rep_tup' h1 (Reps.back p l vs vs0 h2 k2)
  | .lst l, v, v0, h, k => by
    obtain ⟨a, vs, rfl, h1, h2⟩ := rep_lst h
    obtain ⟨a0, vs0, rfl, k1, k2⟩ := rep_lst k
    exact rep_lst' h1 (Reps.back p l vs vs0 h2 k2)
  | .ro l, v, v0, h, k => by
    obtain ⟨a, vs, rfl, h1, h2⟩ := rep_ro h
    obtain ⟨a0, vs0, rfl, k1, k2⟩ := rep_ro k
    simp only [Rep]
    exact ⟨a, vs, rfl, h1, Reps.back p l vs vs0 h2 k2⟩
  | .cel r, v, v0, h, k => by
    obtain ⟨a, rfl, h1⟩ := rep_cel h
    obtain ⟨a0, rfl, k1⟩ := rep_cel k
    have := p _ _ k1
    rw [this] at h1; cases h1
    simp only [Rep]; exact ⟨_, rfl, k1⟩
  | .ins c l, v, v0, h, k => by
    obtain ⟨a, dx, vs, rfl, h1, h2, h3, h4⟩ := rep_ins h
    obtain ⟨a0, dx0, vs0, rfl, k1, k2, k3, k4⟩ := rep_ins k
    simp only [Rep]
    exact ⟨a, dx, vs, rfl, h1, h2, h3, Reps.back p l vs vs0 h4 k4⟩
  | .exn _ _, _, _, h, _ => (rep_exn h).elim
theorem Reps.back {F F' : Hp} {io io' : List Addr} (p : Pre io io') : ∀ (l : List D) (vs vs0 : List V), Reps d F' io' l vs → Reps d F io l vs0 → Reps d F' io l vs
  | [], _, _, h, _ => by simpa only [Reps] using h
  | x :: l, vs, vs0, h, k => by
    simp only [Reps] at h k
    obtain ⟨v, r, rfl, h1, h2⟩ := h
    obtain ⟨v0, r0, rfl, k1, k2⟩ := k
    exact Reps.cons (Rep.back p x v v0 h1 k1) (Reps.back p l r r0 h2 k2)
end

mutual
theorem Rep.noC {F : Hp} {io io' : List Addr} : ∀ (x : D) (v : V), Rep d F io x v → x.noC = true → Rep d F io' x v
  | .non, _, h, _ => by simpa only [Rep] using h
  | .bl _, _, h, _ => by simpa only [Rep] using h
  | .int _, _, h, _ => by simpa only [Rep] using h
  | .str _, _, h, _ => by simpa only [Rep] using h
  | .tup l, v, h, k => by
    obtain ⟨a, vs, rfl, h1, h2⟩ := rep_tup h
    exact rep_tup' h1 (Reps.noC l vs h2 (by simpa only [D.noC] using k))
  | .lst l, v, h, k => by
    obtain ⟨a, vs, rfl, h1, h2⟩ := rep_lst h
    exact rep_lst' h1 (Reps.noC l vs h2 (by simpa only [D.noC] using k))
  | .ro l, v, h, k => by
    obtain ⟨a, vs, rfl, h1, h2⟩ := rep_ro h
    simp only [Rep]
    exact ⟨a, vs, rfl, h1, Reps.noC l vs h2 (by simpa only [D.noC] using k)⟩
  | .cel r, v, h, k => by simp only [D.noC] at k; cases k
  | .ins c l, v, h, k => by
    obtain ⟨a, dx, vs, rfl, h1, h2, h3, h4⟩ := rep_ins h
    simp only [Rep]
    exact ⟨a, dx, vs, rfl, h1, h2, h3, Reps.noC l vs h4 (by simpa only [D.noC] using k)⟩
  | .exn _ _, _, h, _ => (rep_exn h).elim
theorem Reps.noC {F : Hp} {io io' : List Addr} : ∀ (l : List D) (vs : List V), Reps d F io l vs → D.noCs l = true → Reps d F io' l vs
  | [], _, h, _ => by simpa only [Reps] using h
  | x :: l, vs, h, k => by
    simp only [D.noCs, Bool.and_eq_true] at k
    simp only [Reps] at h
    obtain ⟨v, r, rfl, h1, h2⟩ := h
    exact Reps.cons (Rep.noC x v h1 k.1) (Reps.noC l r h2 k.2)
end
theorem zip_of_maps {α β : Type} : ∀ {l : List (α × β)} {a : List α} , l.map (·.1) = a → l = a.zip (l.map (·.2))
  | [], _, h => by subst h; rfl
  | p :: l, _, h => by
    subst h
    have := zip_of_maps (l := l) rfl
    rw [List.map_cons, List.map_cons, List.zip_cons_cons, ← this]
/-- a new cell -/
theorem ex_cell {F H : Hp} {io : List Addr} {M : Sto} {p : Addr} {o : HO} {c : Cell} (s : Sub F H) (cl : Cels d F io H M) (h : H p = none) (hc : CellR d F (io ++ [p]) (upd H p o) p c) :
    Ex F io H F (io ++ [p]) (upd H p o) ∧ Sub F (upd H p o) ∧ Cels d F (io ++ [p]) (upd H p o) (M ++ [c]) := by
  obtain ⟨x1, x2, x3⟩ := ex_own (o := o) s cl h
  have hp : p ∉ io := fun z => cl.has z h
  refine ⟨⟨x1.sub, Pre.app _ _, x1.frz, fun a ha => ?_, x1.keep, x1.there, x1.od⟩, x2, ?_⟩
  · rcases List.mem_append.mp ha with q | q
    · exact .inl q
    · have : a = p := by simpa using q
      subst this; exact .inr h
  · refine ⟨by simp [x3.len], ?_, fun a ha => ?_, fun r c' e => ?_⟩
    · rw [List.nodup_append]
      refine ⟨x3.nd, by simp, fun a ha b hb => ?_⟩
      have : b = p := by simpa using hb
      subst this; intro q; subst q; exact hp ha
    · rcases List.mem_append.mp ha with q | q
      · exact x3.out a q
      · have : a = p := by simpa using q
        subst this; exact s.none h
    · by_cases hr : r < M.length
      · rw [List.getElem?_append_left hr] at e
        obtain ⟨a, k1, k2⟩ := x3.cel r c' e
        refine ⟨a, by rw [List.getElem?_append_left (by rw [x3.len]; exact hr)]; exact k1, ?_⟩
        have pr := Pre.app io [p]
        cases c' with
        | lst l => obtain ⟨vs, e1, e2⟩ := k2; exact ⟨vs, e1, Reps.mono (Sub.refl _) pr _ _ e2⟩
        | obj c fs => obtain ⟨dx, vfs, e1, e2, e3, e4⟩ := k2; exact ⟨dx, vfs, e1, e2, e3, Reps.mono (Sub.refl _) pr _ _ e4⟩
        | dct kvs => obtain ⟨vkv, e1, e2, e3⟩ := k2; exact ⟨vkv, e1, e2, Reps.mono (Sub.refl _) pr _ _ e3⟩
      · have : r = M.length := by
          rcases Nat.lt_or_ge r (M ++ [c]).length with q | q
          · simp at q; omega
          · rw [List.getElem?_eq_none q] at e; cases e
        subst this
        rw [List.getElem?_append_right (Nat.le_refl _)] at e
        simp at e; subst e
        exact ⟨p, by rw [← x3.len, List.getElem?_append_right (Nat.le_refl _)]; simp, hc⟩
end
section
variable {X : Cx} {d : Wd} {n : Nat} {W : WX} {pos px apos : Pos} {x : Str}
/-- __init__'s promise at a new instance -/
theorem ins_sp {c f : Nat} {F : Hp} {io : List Addr} {H : Hp} {M : Sto} {l : List D} {vs : List V} {sg : L2.St} {Q : VK} (hi : d.T.init c = some f) (s : Sub F H) (cl : Cels d F io H M) (r : Reps d F io l vs)
    (h : Sat d W sg F io H (newIns d.T (run d.T n) c l M) (RV d) Q) : ∀ x dx, H x = none → H dx = none → dx ≠ x → spI d n f (.ref x :: vs) (upd (upd H dx (.own x)) x (.ins (d.ca c) dx [])) (fun v H2 => v = .non ∧ Q (.ref x) H2) (WE W sg) := by
  intro x dx hx hdx ne
  have hx' : upd H dx (.own x) x = none := by rw [upd_ne (Ne.symm ne)]; exact hx
  obtain ⟨y1, y2, y3⟩ := ex_own (o := HO.own x) s cl hdx
  obtain ⟨z1, z2, z3⟩ := ex_cell (o := .ins (d.ca c) dx []) (c := .obj c []) y2 y3 hx' ⟨dx, [], upd_same, by rw [upd_ne ne]; exact upd_same, rfl, Reps.nil⟩
  have x0 := y1.trans z1
  refine ⟨F, io ++ [x], .cel M.length :: l, M ++ [.obj c []], z2, z3, Reps.cons (by simp only [Rep]; exact ⟨x, rfl, by rw [← cl.len, List.getElem?_append_right (Nat.le_refl _)]; simp⟩) (Reps.mono (Sub.refl _) (Pre.app _ _) _ _ r), ?_⟩
  unfold newIns at h
  rw [hi] at h
  simp only at h
  cases q : run d.T n f (.cel M.length :: l) (M ++ [.obj c []]) with
  | stuck => rw [q] at h; exact h
  | exc k y M' =>
    rw [q] at h
    exact fun F' io' H' cls dd x1 s1 c1 e1 => h F' io' H' cls dd (x0.trans x1) s1 c1 e1
  | ok v M' =>
    rw [q] at h
    intro F' io' H' b x1 s1 c1 rb
    replace h : Sat d W sg F io H (match v, M'[M.length]? with
      | .non, some (.obj c' fs) => if c' = c ∧ M' = M ++ [.obj c fs] ∧ fs.map (·.1) = d.T.flds c ∧ D.noCs (fs.map (·.2)) = true then .ok (.ins c (fs.map (·.2))) M else .stuck
      | _, _ => .stuck) (RV d) Q := h
    split at h
    · rename_i c' fs hM
      split at h
      · rename_i hh
        obtain ⟨rfl, hM', hk, hn⟩ := hh
        refine ⟨rep_non rb, ?_⟩
        have hio : io'[M.length]? = some x := x1.pre _ _ (by rw [← cl.len, List.getElem?_append_right (Nat.le_refl _)]; simp)
        obtain ⟨a, k1, dx', vfs, k2, k3, k4, k5⟩ := c1.cel M.length _ hM
        rw [hio] at k1; cases k1
        have hxF : F' x = none := c1.out x (List.mem_of_getElem? hio)
        have nd : dx' ≠ x := fun z => by rw [z, k2] at k3; cases k3
        have hlen : io'.length = M.length + 1 := by rw [c1.len, hM']; simp
        have hpre : Pre io io' := x0.pre.trans x1.pre
        have hx_io : x ∉ io := fun z => cl.has z hx
        -- the object and its dict freeze
        have Fs : Sub F' (upd (upd F' x (.ins (d.ca c') dx' vfs)) dx' (.own x)) := by
          intro b o e
          by_cases e1 : b = dx'
          · subst e1; rw [upd_same]; rw [s1 _ _ e] at k3; exact k3.symm ▸ rfl
          · rw [upd_ne e1]
            by_cases e2 : b = x
            · subst e2; rw [hxF] at e; cases e
            · rw [upd_ne e2]; exact e
        have Fx : (upd (upd F' x (.ins (d.ca c') dx' vfs)) dx' (.own x)) x = some (.ins (d.ca c') dx' vfs) := by rw [upd_ne (Ne.symm nd)]; exact upd_same
        have dio : ∀ a ∈ io, a ≠ dx' := fun a ha z => by
          subst z
          obtain ⟨r, hr, e⟩ := List.mem_iff_getElem.mp ha
          have hrM : r < M.length := by rw [← cl.len]; exact hr
          have e1 : io'[r]? = some a := hpre _ _ (by rw [List.getElem?_eq_getElem hr, e])
          obtain ⟨b, e2, e3⟩ := c1.cel r M[r] (by rw [hM', List.getElem?_append_left hrM]; simp [hrM])
          rw [e1] at e2; cases e2
          cases q2 : M[r] with
          | lst l => rw [q2] at e3; obtain ⟨vs, e4, _⟩ := e3; rw [k3] at e4; cases e4
          | obj c fs => rw [q2] at e3; obtain ⟨dx, vfs, e4, _⟩ := e3; rw [k3] at e4; cases e4
          | dct kvs => rw [q2] at e3; obtain ⟨vkv, e4, _⟩ := e3; rw [k3] at e4; cases e4
        refine h (upd (upd F' x (.ins (d.ca c') dx' vfs)) dx' (.own x)) io H' (.ref x) ⟨(x0.trans x1).sub.trans Fs, Pre.refl _, fun b o e => ?_, fun a ha => .inl ha, (x0.trans x1).keep, (x0.trans x1).there, (x0.trans x1).od⟩ ?_ ⟨cl.len, cl.nd, fun a ha => ?_, fun r k e => ?_⟩ ?_
        · by_cases e1 : b = dx'
          · subst e1
            obtain ⟨fs', od⟩ := x1.od x (d.ca c') dx [] upd_same
            rw [k2] at od; cases od
            exact .inr hdx
          · rw [upd_ne e1] at e
            by_cases e2 : b = x
            · subst e2; exact .inr hx
            · rw [upd_ne e2] at e; exact (x0.trans x1).frz b o e
        · intro b o e
          by_cases e1 : b = dx'
          · subst e1; rw [upd_same] at e; cases e; exact k3
          · rw [upd_ne e1] at e
            by_cases e2 : b = x
            · subst e2; rw [upd_same] at e; cases e; exact k2
            · rw [upd_ne e2] at e; exact s1 b o e
        · have n1 : a ≠ dx' := dio a ha
          have n2 : a ≠ x := fun z => hx_io (z ▸ ha)
          rw [upd_ne n1, upd_ne n2]
          obtain ⟨r, hr, e⟩ := List.mem_iff_getElem.mp ha
          exact c1.out a (List.mem_of_getElem? (hpre r a (by rw [List.getElem?_eq_getElem hr, e])))
        · have hrM : r < M.length := by
            rcases Nat.lt_or_ge r M.length with q | q
            · exact q
            · rw [List.getElem?_eq_none q] at e; cases e
          obtain ⟨a0, k6, k7⟩ := cl.cel r k e
          obtain ⟨a1, k8, k9⟩ := c1.cel r k (by rw [hM', List.getElem?_append_left hrM]; exact e)
          rw [hpre _ _ k6] at k8; cases k8
          refine ⟨a0, k6, ?_⟩
          cases k with
          | lst l => obtain ⟨vs, e1, e2⟩ := k9; obtain ⟨vs0, _, e4⟩ := k7; exact ⟨vs, e1, Reps.mono Fs (Pre.refl _) _ _ (Reps.back hpre _ _ _ e2 e4)⟩
          | obj c fs => obtain ⟨dx, vfs, e1, e2, e3, e4⟩ := k9; obtain ⟨dx0, vfs0, _, _, _, e5⟩ := k7; exact ⟨dx, vfs, e1, e2, e3, Reps.mono Fs (Pre.refl _) _ _ (Reps.back hpre _ _ _ e4 e5)⟩
          | dct kvs => obtain ⟨vkv, e1, e2, e3⟩ := k9; obtain ⟨vkv0, _, _, e5⟩ := k7; exact ⟨vkv, e1, e2, Reps.mono Fs (Pre.refl _) _ _ (Reps.back hpre _ _ _ e3 e5)⟩
        · have hz : vfs = (d.T.flds c').zip (vfs.map (·.2)) := zip_of_maps (by rw [← k4]; exact hk)
          simp only [RV, Rep]
          refine ⟨x, dx', vfs.map (·.2), rfl, by rw [← hz]; exact Fx, upd_same, by rw [List.length_map, ← hk, List.length_map], ?_⟩
          exact Reps.mono Fs (Pre.refl _) _ _ (Reps.noC _ _ k5 hn)
      · exact h.elim
    · exact h.elim
end
end Rb

/-! RbSnd7: instances made, calls by keywords. Own work. -/
namespace Rb
open PySem PySem.Spec PyProof.Rows
open L2 hiding XE Takes CX passes_call takes_of MkP PMk ps_raise mk_of ps_try_as HdsOk ps_try_many pmk_own passAt St
open L2N
section
variable {X : Cx} {d : Wd} {n : Nat} {W : WX} {pos px apos : Pos} {x : Str}
/-- __init__'s promise at a new cell -/
theorem obj_sp {c f : Nat} {F : Hp} {io : List Addr} {H : Hp} {M : Sto} {l : List D} {vs : List V} {sg : L2.St} {Q : VK} (hi : d.T.init c = some f) (s : Sub F H) (cl : Cels d F io H M) (r : Reps d F io l vs)
    (h : Sat d W sg F io H (newObj d.T (run d.T n) c l M) (RV d) Q) : ∀ x dx, H x = none → H dx = none → dx ≠ x → spI d n f (.ref x :: vs) (upd (upd H dx (.own x)) x (.ins (d.ca c) dx [])) (fun v H2 => v = .non ∧ Q (.ref x) H2) (WE W sg) := by
  intro x dx hx hdx ne
  have hx' : upd H dx (.own x) x = none := by rw [upd_ne (Ne.symm ne)]; exact hx
  obtain ⟨y1, y2, y3⟩ := ex_own (o := HO.own x) s cl hdx
  obtain ⟨z1, z2, z3⟩ := ex_cell (o := .ins (d.ca c) dx []) (c := .obj c []) y2 y3 hx' ⟨dx, [], upd_same, by rw [upd_ne ne]; exact upd_same, rfl, Reps.nil⟩
  have x0 := y1.trans z1
  refine ⟨F, io ++ [x], .cel M.length :: l, M ++ [.obj c []], z2, z3, Reps.cons (by simp only [Rep]; exact ⟨x, rfl, by rw [← cl.len, List.getElem?_append_right (Nat.le_refl _)]; simp⟩) (Reps.mono (Sub.refl _) (Pre.app _ _) _ _ r), ?_⟩
  unfold newObj at h
  rw [hi] at h
  simp only at h
  cases q : run d.T n f (.cel M.length :: l) (M ++ [.obj c []]) with
  | stuck => rw [q] at h; exact h
  | exc k y M' =>
    rw [q] at h
    exact fun F' io' H' cls dd x1 s1 c1 e1 => h F' io' H' cls dd (x0.trans x1) s1 c1 e1
  | ok v M' =>
    rw [q] at h
    intro F' io' H' b x1 s1 c1 rb
    replace h : Sat d W sg F io H (match v with | .non => Res.ok (D.cel M.length) M' | _ => .stuck) (RV d) Q := h
    split at h
    · refine ⟨rep_non rb, h F' io' H' (.ref x) (x0.trans x1) s1 c1 ?_⟩
      simp only [RV, Rep]
      exact ⟨x, rfl, x1.pre _ _ (by rw [← cl.len, List.getElem?_append_right (Nat.le_refl _)]; simp)⟩
    · exact h.elim

/-- what a class's call promises of __init__, at the arguments -/
theorem new_len {c f : Nat} {fd : FD} {l : List D} {M : Sto} {T : Tb} (hi : T.init c = some f) (hf : T.fn f = some fd) (ne : newIns T (run T n) c l M ≠ .stuck) : l.length + 1 = fd.ps.length := by
  have : run T n f (.cel M.length :: l) (M ++ [.obj c []]) ≠ .stuck := fun z => ne (by unfold newIns; rw [hi]; simp only [z, Res.bind])
  exact run_len hf this
theorem newo_len {c f : Nat} {fd : FD} {l : List D} {M : Sto} {T : Tb} (hi : T.init c = some f) (hf : T.fn f = some fd) (ne : newObj T (run T n) c l M ≠ .stuck) : l.length + 1 = fd.ps.length := by
  have : run T n f (.cel M.length :: l) (M ++ [.obj c []]) ≠ .stuck := fun z => ne (by unfold newObj; rw [hi]; simp only [z, Res.bind])
  exact run_len hf this
theorem Sat.nst {α β : Type} {F : Hp} {io : List Addr} {H : Hp} {sg : L2.St} {r : Res α} {R : Hp → List Addr → Hp → α → β → Prop} {Q : β → Hp → Prop} (h : Sat d W sg F io H r R Q) : r ≠ .stuck := fun z => by rw [z] at h; exact h
/-- C(e, ..) with what is missing -/
theorem run_new {c f : Nat} {fd : FD} {pins : List (Addr × Obj)} {sg : L2.St} {H : Hp} {s : Shared} {Q : VK} {us : List Value} {vs : List V} {l : List D} {F : Hp} {io : List Addr} {M : Sto} {N : List D → Sto → Res D} (G : Gd d X n) (hi : d.T.init c = some f) (hf : d.T.fn f = some fd) (CF : ClF d c) (tk : Takes X W)
    (hk : d.T.dfl c = [] ∨ 0 < l.length) (I : Inv X pins sg H s) (r : Vals vs us) (sb : Sub F H) (cl : Cels d F io H M) (q : Reps d F io l vs)
    (hl : ∀ m, N m M ≠ .stuck → m.length + 1 = fd.ps.length)
    (hsp : ∀ (m : List D) (ws : List V), Reps d F io m ws → Sat d W sg F io H (N m M) (RV d) Q → ∀ x dx, H x = none → H dx = none → dx ≠ x → spI d n f (.ref x :: ws) (upd (upd H dx (.own x)) x (.ins (d.ca c) dx [])) (fun v H2 => v = .non ∧ Q (.ref x) H2) (WE W sg))
    (h : Sat d W sg F io H (N (l ++ (d.T.dfl c).drop l.length) M) (RV d) Q) : wpAny (model X.prog X.w) X.A (call (.ref (d.ca c)) us) (EP X pins sg Q) X.xe s := by
  have hln := hl _ h.nst
  rw [List.length_append] at hln
  obtain ⟨ds, dvs, hb, hv, hr⟩ := CF.dfl f fd l.length hi hf hk hln
  have q2 : Reps d F io (l ++ (d.T.dfl c).drop l.length) (vs ++ dvs) := q.append (hr F io)
  refine run_makeS (us := us) (us' := us ++ ds) (kw := []) (by rw [G.K]; exact CF.mk1 f hi) (G.fns f fd hf) (G.room.mono (by omega)) (fun s' hin y hz => ?_) (passAt tk sg) I (r.append hv) (hsp _ _ q2 h)
  have := hb s' (y :: us) (by rw [← G.K]; exact hin) (by simpa using hz)
  simpa using this
/-- .. the eval of the call -/
theorem call_cls {c : Nat} {e : Expr} {es : List Expr} {ps : List P} {g : List D → Sto → Res D} (G : Gd d X n) (kp : PySem.W.keepIn d.K (.ref (d.ca c)) = true) (hg : Gl X x) (hm : d.mg x = some (.ref (d.ca c))) (hd : (x == ("__debug__" : Str)) = false) (hn : nsts (e :: es) = true)
    (ha : PA X (e :: es) (taI d (run d.T n) W ps))
    (hr : ∀ pins s sg H Q us F io M vs l, Inv X pins sg H s → Vals vs us → Sub F H → Cels d F io H M → Reps d F io l vs → Sat d W sg F io H (g l M) (RV d) Q → wpAny (model X.prog X.w) X.A (call (.ref (d.ca c)) us) (EP X pins sg Q) X.xe s)
    {p : P} (hp : ∀ e M, ev d.T (run d.T n) p e M = (evs d.T (run d.T n) ps e M).bind g) : PE X (.Call (.Name x px) (e :: es) [] pos) (teI d (run d.T n) W p) := by
  refine ⟨fun pins s sg H Q I h => ?_⟩
  have hn' : nst e = true ∧ nsts es = true := by unfold nsts at hn ⊢; rw [List.all_cons, Bool.and_eq_true] at hn; exact hn
  refine wpAny_Call_Name_kw (ld_glob I hg (by rw [G.mg]; exact hm) ?_ hd)
  obtain ⟨F, io, e', M, rl, h⟩ := h
  rw [hp] at h
  refine PySem.W.callWith_K (h₀ := X.base) I.ok.mod.kin (by rw [G.K]; exact kp) (thn (ha.run pos pins s sg H _ I ⟨F, io, e', M, rl, h.bind (RVs d)⟩) fun us s1 ⟨vs, H1, I1, r, z⟩ => ⟨I1.kIn, ?_⟩) (star_ns hn'.1) (star_nsts hn'.2)
  obtain ⟨F1, io1, M1, l1, x1, s1', c1, q1, h1⟩ := z
  exact hr pins s1 sg H1 Q us F1 io1 M1 vs l1 I1 r s1' c1 q1 h1
theorem call_cls0 {c : Nat} {g : List D → Sto → Res D} (G : Gd d X n) (kp : PySem.W.keepIn d.K (.ref (d.ca c)) = true) (hg : Gl X x) (hm : d.mg x = some (.ref (d.ca c))) (hd : (x == ("__debug__" : Str)) = false)
    (hr : ∀ pins s sg H Q us F io M vs l, Inv X pins sg H s → Vals vs us → Sub F H → Cels d F io H M → Reps d F io l vs → Sat d W sg F io H (g l M) (RV d) Q → wpAny (model X.prog X.w) X.A (call (.ref (d.ca c)) us) (EP X pins sg Q) X.xe s)
    {p : P} (hp : ∀ e M, ev d.T (run d.T n) p e M = (evs d.T (run d.T n) [] e M).bind g) : PE X (.Call (.Name x px) [] [] pos) (teI d (run d.T n) W p) := by
  refine ⟨fun pins s sg H Q I h => ?_⟩
  refine wpAny_Call_Name_kw (ld_glob I hg (by rw [G.mg]; exact hm) ?_ hd)
  obtain ⟨F, io, e', M, rl, h⟩ := h
  rw [hp] at h
  simp only [evs, Res.bind] at h
  exact PySem.W.callWith_K0 I.kIn (by rw [G.K]; exact kp) (hr pins s sg H Q [] F io M [] [] I .nil rl.sub rl.cl Reps.nil h)
theorem s_new {c f : Nat} {fd : FD} {e : Expr} {es : List Expr} {ps : List P} (G : Gd d X n) (hi : d.T.init c = some f) (hf : d.T.fn f = some fd) (CF : ClF d c) (tk : Takes X W) (hg : Gl X x) (hm : d.mg x = some (.ref (d.ca c))) (hd : (x == ("__debug__" : Str)) = false) (hn : nsts (e :: es) = true)
    (ha : PA X (e :: es) (taI d (run d.T n) W ps)) : PE X (.Call (.Name x px) (e :: es) [] pos) (teI d (run d.T n) W (.new c ps)) := by
  refine call_cls (g := fun l M1 => if (d.T.dfl c).isEmpty || !l.isEmpty then newIns d.T (run d.T n) c (l ++ (d.T.dfl c).drop l.length) M1 else .stuck) G (CF.mk1 f hi).kp hg hm hd hn ha (fun pins s sg H Q us F io M vs l I r sb cl q h => ?_) (fun e M => by simp only [ev])
  split at h
  · rename_i hh
    refine run_new (N := fun m M => newIns d.T (run d.T n) c m M) G hi hf CF tk ?_ I r sb cl q (fun m hm => new_len hi hf hm) (fun m ws qq hs => ins_sp hi sb cl qq hs) h
    rw [Bool.or_eq_true] at hh
    rcases hh with hh | hh
    · exact .inl (by simpa using hh)
    · exact .inr (by cases l <;> simp at hh ⊢)
  · exact h.elim
theorem s_newo {c f : Nat} {fd : FD} {e : Expr} {es : List Expr} {ps : List P} (G : Gd d X n) (hi : d.T.init c = some f) (hf : d.T.fn f = some fd) (CF : ClF d c) (tk : Takes X W) (hg : Gl X x) (hm : d.mg x = some (.ref (d.ca c))) (hd : (x == ("__debug__" : Str)) = false) (hn : nsts (e :: es) = true)
    (ha : PA X (e :: es) (taI d (run d.T n) W ps)) : PE X (.Call (.Name x px) (e :: es) [] pos) (teI d (run d.T n) W (.newo c ps)) := by
  refine call_cls (g := fun l M => if (d.T.dfl c).isEmpty then newObj d.T (run d.T n) c l M else .stuck) G (CF.mk1 f hi).kp hg hm hd hn ha (fun pins s sg H Q us F io M vs l I r sb cl q h => ?_) (fun e M => by simp only [ev])
  split at h
  · rename_i hh
    have h0 : d.T.dfl c = [] := by simpa using hh
    refine run_new (N := fun m M => newObj d.T (run d.T n) c m M) G hi hf CF tk (.inl h0) I r sb cl q (fun m hm => newo_len hi hf hm) (fun m ws qq hs => obj_sp hi sb cl qq hs) ?_
    rw [h0]; simpa using h
  · exact h.elim
theorem s_newo0 {c f : Nat} {fd : FD} (G : Gd d X n) (hi : d.T.init c = some f) (hf : d.T.fn f = some fd) (CF : ClF d c) (tk : Takes X W) (hg : Gl X x) (hm : d.mg x = some (.ref (d.ca c))) (hd : (x == ("__debug__" : Str)) = false) :
    PE X (.Call (.Name x px) [] [] pos) (teI d (run d.T n) W (.newo c [])) := by
  refine call_cls0 G (CF.mk1 f hi).kp hg hm hd (g := fun l M => if (d.T.dfl c).isEmpty then newObj d.T (run d.T n) c l M else .stuck) (fun pins s sg H Q us F io M vs l I r sb cl q h => ?_) (fun e M => by simp only [ev])
  split at h
  · rename_i hh
    have h0 : d.T.dfl c = [] := by simpa using hh
    refine run_new (N := fun m M => newObj d.T (run d.T n) c m M) G hi hf CF tk (.inl h0) I r sb cl q (fun m hm => newo_len hi hf hm) (fun m ws qq hs => obj_sp hi sb cl qq hs) ?_
    rw [h0]; simpa using h
  · exact h.elim

/-! ### keywords -/
theorem kw_some {env : PySem.Env} {pos : Pos} : ∀ {kws : List Keyword} {ks : List Str}, kws.map (·.arg) = ks.map some → (backToKw pos (keywordEach kws env)).all (·.1.isSome) = true ∧ (backToKw pos (keywordEach kws env)).filterMap (·.1) = ks ∧ (backToKw pos (keywordEach kws env)).any (·.1.isNone) = false
  | [], ks, h => by
    have : ks = [] := by simpa using h.symm
    subst this
    exact ⟨rfl, rfl, rfl⟩
  | ⟨nm, v, p⟩ :: kws, ks, h => by
    cases ks with
    | nil => simp at h
    | cons k ks =>
      simp only [List.map_cons, List.cons.injEq] at h
      obtain ⟨h1, h2⟩ := h
      have h1 : nm = some k := h1
      subst h1
      obtain ⟨i1, i2, i3⟩ := kw_some (env := env) (pos := pos) h2
      refine ⟨?_, ?_, ?_⟩
      · show (true && (backToKw pos (keywordEach kws env)).all (·.1.isSome)) = true
        rw [i1]; rfl
      · show k :: (backToKw pos (keywordEach kws env)).filterMap (·.1) = k :: ks
        rw [i2]
      · show (false || (backToKw pos (keywordEach kws env)).any (·.1.isNone)) = false
        rw [i3]; rfl
/-- the values of keywords -/
theorem k_nil {C : CallT} : PK X [] (taI d C W []) := by
  refine ⟨fun pos pins s sg H Q I h => pk_nil.run pos pins s sg H Q I ?_⟩
  obtain ⟨F, io, e, M, rl, h⟩ := h
  simp only [evs] at h
  exact h.ok rl.sub rl.cl Reps.nil
theorem k_cons {C : CallT} {p : P} {ps : List P} {nm : Option Str} {e : Expr} {kp : Pos} {kws : List Keyword} (hs : p.isStar = false) (ha : PE X e (teI d C W p)) (hr : PK X kws (taI d C W ps)) : PK X (⟨nm, e, kp⟩ :: kws) (taI d C W (p :: ps)) := by
  refine ⟨fun pos pins s sg H Q I h => (pk_cons ha hr).run pos pins s sg H Q I ?_⟩
  obtain ⟨F, io, e, M, rl, h⟩ := h
  rw [evs_cons hs] at h
  refine ⟨F, io, e, M, rl, (h.bind (RV d)).mono fun v H1 m => ?_⟩
  obtain ⟨F1, io1, M1, x, x1, s1, c1, q1, h1⟩ := m
  refine ⟨F1, io1, e, M1, rl.ex x1 s1 c1, (h1.bind (RVs d)).mono fun vs H2 m2 => ?_⟩
  obtain ⟨F2, io2, M2, l, x2, s2, c2, q2, h2⟩ := m2
  exact h2.ok s2 c2 (Reps.cons (Rep.mono x2.sub x2.pre _ _ q1) q2)
/-- f(k = e, ..), the parameters as they stand -/
theorem s_callk {f : Nat} {fd : FD} {ps : List P} {kws : List Keyword} (G : Gd d X n) (hf : d.T.fn f = some fd) (FF : FnF d f fd) (hk : d.T.kw f = true) (tk : Takes X W) (hg : Gl X x) (hm : d.mg x = some (.ref (d.fa f))) (hd : (x == ("__debug__" : Str)) = false) (hn : kws.map (·.arg) = (fd.ps.map Str.ofString).map some)
    (ha : PK X kws (taI d (run d.T n) W ps)) : PE X (.Call (.Name x px) [] kws pos) (teI d (run d.T n) W (.callk f ps)) := by
  refine ⟨fun pins s sg H Q I h => ?_⟩
  obtain ⟨i1, i2, i3⟩ := kw_some (env := X.env) (pos := pos) hn
  refine wpAny_Call_Name_kw (ld_glob I hg (by rw [G.mg]; exact hm) ?_ hd)
  obtain ⟨F, io, e', M, rl, h⟩ := h
  simp only [ev] at h
  refine PySem.W.callWith_KW0 (h₀ := X.base) I.ok.mod.kin (by rw [G.K]; exact FF.keep) i1 (thn (ha.run pos pins s sg H _ I ⟨F, io, e', M, rl, h.bind (RVs d)⟩) fun ws s1 ⟨vs, H1, I1, r, z⟩ => ⟨I1.kIn, ?_⟩) (by rw [i3]; rfl)
  obtain ⟨F1, io1, M1, l1, x1, s1', c1, q1, h1⟩ := z
  rw [i2]
  have q : spI d n f vs H1 Q (WE W sg) := sp_of rfl s1' c1 q1 h1
  have hl : ws.length = (fd.ps.map Str.ofString).length := by rw [← r.length]; exact spI_len hf q
  refine wpAny_call (codeAny_mono ((G.fns f fd hf).run X.A X.stack s1 H1 ⟨[], (fd.ps.map Str.ofString).zip ws⟩ ws vs Q _ (G.room.mono (by omega)) I1.env0 (FF.kbind hk s1 ws (by rw [← G.K]; exact I1.kIn) (by simpa using hl)) r q) fun r s' hq => ?_)
  cases r with
  | error e => exact passAt tk sg pins H1 s1 e s' I1 hq
  | ok fl =>
    cases fl with
    | ret u => exact I1.after hq
    | next => exact False.elim hq
    | brk => exact False.elim hq
    | cont => exact False.elim hq
/-- C(k = e, ..) -/
theorem s_newk {c f : Nat} {fd : FD} {ps : List P} {kws : List Keyword} (G : Gd d X n) (hi : d.T.init c = some f) (hf : d.T.fn f = some fd) (CF : ClF d c) (hk : d.T.kw f = true) (tk : Takes X W) (hg : Gl X x) (hm : d.mg x = some (.ref (d.ca c))) (hd : (x == ("__debug__" : Str)) = false) (hn : kws.map (·.arg) = (fd.ps.map Str.ofString).tail.map some)
    (ha : PK X kws (taI d (run d.T n) W ps)) : PE X (.Call (.Name x px) [] kws pos) (teI d (run d.T n) W (.newk c ps)) := by
  refine ⟨fun pins s sg H Q I h => ?_⟩
  obtain ⟨i1, i2, i3⟩ := kw_some (env := X.env) (pos := pos) hn
  refine wpAny_Call_Name_kw (ld_glob I hg (by rw [G.mg]; exact hm) ?_ hd)
  obtain ⟨F, io, e', M, rl, h⟩ := h
  simp only [ev] at h
  refine PySem.W.callWith_KW0 (h₀ := X.base) I.ok.mod.kin (by rw [G.K]; exact (CF.mk1 f hi).kp) i1 (thn (ha.run pos pins s sg H _ I ⟨F, io, e', M, rl, h.bind (RVs d)⟩) fun ws s1 ⟨vs, H1, I1, r, z⟩ => ⟨I1.kIn, ?_⟩) (by rw [i3]; rfl)
  obtain ⟨F1, io1, M1, l1, x1, s1', c1, q1, h1⟩ := z
  rw [i2]
  have hln : l1.length + 1 = fd.ps.length := new_len hi hf h1.nst
  have hw : ws.length + 1 = fd.ps.length := by rw [← r.length, ← q1.length]; exact hln
  exact run_makeS (us := []) (us' := ws) (kw := (fd.ps.map Str.ofString).tail.zip ws) (by rw [G.K]; exact CF.mk1 f hi) (G.fns f fd hf) (G.room.mono (by omega)) (fun s' hin y hz => CF.kbind f fd hi hf hk s' y ws (by rw [← G.K]; exact hin) hw) (passAt tk sg) I1 r (ins_sp hi s1' c1 q1 h1)
end
end Rb

/-! RbSnd8: isinstance, ranges, two lists joined. Own work. -/
namespace Rb
open PySem PySem.Spec PyProof.Rows L2
section
variable {X : Cx} {d : Wd} {C : CallT} {W : WX} {pos px px2 : Pos} {x : Str}
/-- the type of a value -/
def tyV (d : Wd) : D → Option Value
  | .non => some (.type "NoneType")
  | .bl _ => some (.type "bool")
  | .int _ => some (.type "int")
  | .str _ => some (.type "str")
  | .tup _ => some (.type "tuple")
  | .lst _ => some (.type "list")
  | .cel _ => some (.type "list")
  | .ins c _ => some (.ref (d.ca c))
  | _ => none
/-- isinstance's answer for a class -/
def IsF (d : Wd) (t : Ty) (u : Value) : Prop := ∀ (x : D) (M : Sto) (b : Bool) (tv : Value), tyD d.T x M t = some b → tyV d x = some tv → PySem.W.kitOne d.K tv u = some b
theorem isF_of {t : Ty} {u : Value} (h0 : ∀ n ∈ (["NoneType", "bool", "int", "str", "tuple", "list"] : List String), PySem.W.kitOne d.K (.type n) u = some (match t, n with
    | .int, "int" => true | .int, "bool" => true | .bool, "bool" => true | .str, "str" => true | .tuple, "tuple" => true | .list, "list" => true | _, _ => false))
    (h1 : ∀ c, (d.T.init c).isSome = true → ∀ b, (match t with | .cls c' => some (decide (c = c')) | .exc _ => none | _ => some false) = some b → PySem.W.kitOne d.K (.ref (d.ca c)) u = some b) : IsF d t u := by
  intro x M b tv h hv
  cases x with
  | ins c fs =>
    simp only [tyV, Option.some.injEq] at hv; subst hv
    simp only [tyD] at h
    split at h
    · rename_i hi; exact h1 c hi b h
    · cases h
  | non => simp only [tyV, Option.some.injEq] at hv; subst hv; simp only [tyD, Option.some.injEq] at h; subst h; have := h0 "NoneType" (by simp); cases t <;> exact this
  | bl _ => simp only [tyV, Option.some.injEq] at hv; subst hv; have := h0 "bool" (by simp); cases t <;> (simp only [tyD, Option.some.injEq] at h; subst h; exact this)
  | int _ => simp only [tyV, Option.some.injEq] at hv; subst hv; have := h0 "int" (by simp); cases t <;> (simp only [tyD, Option.some.injEq] at h; subst h; exact this)
  | str _ => simp only [tyV, Option.some.injEq] at hv; subst hv; have := h0 "str" (by simp); cases t <;> (simp only [tyD, Option.some.injEq] at h; subst h; exact this)
  | tup _ => simp only [tyV, Option.some.injEq] at hv; subst hv; have := h0 "tuple" (by simp); cases t <;> (simp only [tyD, Option.some.injEq] at h; subst h; exact this)
  | lst _ => simp only [tyV, Option.some.injEq] at hv; subst hv; have := h0 "list" (by simp); cases t <;> (simp only [tyD, Option.some.injEq] at h; subst h; exact this)
  | cel r =>
    simp only [tyV, Option.some.injEq] at hv; subst hv
    simp only [tyD] at h
    split at h
    · have := h0 "list" (by simp); cases t <;> (simp only [Option.some.injEq] at h; subst h; exact this)
    · cases h
  | exn _ _ => simp only [tyD] at h; cases h
  | ro _ => simp only [tyD] at h; cases h
/-- a value's type, as it stands -/
theorem tyX_of {F : Hp} {io : List Addr} {H : Hp} {M : Sto} {x : D} {v : V} {t : Ty} {b : Bool} (hcl : ∀ c, (d.T.init c).isSome = true → ClF d c) (s : Sub F H) (cl : Cels d F io H M) (r : Rep d F io x v) (h : tyD d.T x M t = some b) :
    ∃ tv, tyV d x = some tv ∧ TyX d.K H v tv := by
  cases x with
  | non => rw [rep_non r]; exact ⟨_, rfl, .base .non⟩
  | bl b => rw [rep_bl r]; exact ⟨_, rfl, .base (.bl b)⟩
  | int i => rw [rep_int r]; exact ⟨_, rfl, .base (.int i)⟩
  | str z => rw [rep_str r]; exact ⟨_, rfl, .base (.str z)⟩
  | tup l =>
    obtain ⟨a, vs, rfl, h1, _⟩ := rep_tup r
    refine ⟨_, rfl, ?_⟩
    rcases h1 with (h1 | ⟨o, h1⟩) | ⟨o, its, n, h1, h2, _⟩
    · exact .base (.tup (s _ _ h1))
    · exact .fTuple (s _ _ h1)
    · exact .kTuple h1 h2
  | lst l =>
    obtain ⟨a, vs, rfl, h1, _⟩ := rep_lst r
    exact ⟨_, rfl, .base (.lst (s _ _ h1))⟩
  | cel n =>
    obtain ⟨a, rfl, h1⟩ := rep_cel r
    simp only [tyD] at h
    split at h
    · rename_i l hm
      obtain ⟨a', h2, vs, h3, _⟩ := cl.cel n _ hm
      rw [h1] at h2; cases h2
      exact ⟨_, rfl, .base (.lst h3)⟩
    · cases h
  | ins c fs =>
    obtain ⟨a, dx, vs, rfl, h1, _⟩ := rep_ins r
    simp only [tyD] at h
    split at h
    · rename_i hi
      have cf := hcl c hi
      exact ⟨_, rfl, .base (.ins (s _ _ h1) cf.cls cf.co cf.gs cf.tk cf.mro)⟩
    · cases h
  | exn _ _ => exact (rep_exn r).elim
  | ro _ => simp only [tyD] at h; cases h
/-- a class, named -/
def ClE (X : Cx) (e : Expr) (c : V) (u : Value) : Prop := PE X e (tC c) ∧ ClsV c u
theorem s_isi1 {a : P} {t : Ty} {e ec : Expr} {cv : V} {u : Value} (hK : X.K = d.K) (hcl : ∀ c, (d.T.init c).isSome = true → ClF d c) (hg : Gl X "isinstance") (hm : X.mg "isinstance" = none) (hn : nst e = true) (hn2 : nst ec = true) (h : PE X e (teI d C W a)) (hc : ClE X ec cv u) (hf : IsF d t u) :
    PE X (.Call (.Name "isinstance" px) [e, ec] [] pos) (teI d C W (.isi a [t])) := by
  refine PE_imp (pe_callB call_isi hg hm (by decide +kernel) (a_two h hc.1 hn hn2) (by decide) (by decide) (star_ns hn) (star_nsts (by simp [nsts, hn2]))) fun sg H Q h => ?_
  obtain ⟨F, io, e, M, rl, h⟩ := h
  simp only [ev] at h
  refine ⟨F, io, e, M, rl, (h.bind (RV d)).mono fun v H1 m => ?_⟩
  obtain ⟨F1, io1, M1, x, x1, s1, c1, q1, h1⟩ := m
  obtain ⟨y, e1, h2⟩ := h1.oR
  obtain ⟨b, e2, rfl⟩ := Option.map_eq_some_iff.mp e1
  simp only [isiD] at e2
  obtain ⟨b', e3, e4⟩ := Option.bind_eq_some_iff.mp e2
  have : b = b' := by cases b' <;> simpa using e4.symm
  subst this
  obtain ⟨tv, k1, k2⟩ := tyX_of hcl s1 c1 q1 e3
  exact ⟨v, cv, tv, u, b, rfl, hc.2, by rw [hK]; exact k2, by rw [hK]; exact hf _ _ _ _ e3 k1, h2.ok s1 c1 (by simp only [RV, Rep])⟩
theorem s_isi2 {a : P} {t t2 : Ty} {e ec ec2 : Expr} {cv cv2 : V} {u u2 : Value} {k : Nat} {tp : Pos} (hK : X.K = d.K) (hcl : ∀ c, (d.T.init c).isSome = true → ClF d c) (hg : Gl X "isinstance") (hm : X.mg "isinstance" = none) (hn : nst e = true) (hn2 : nst ec = true) (hn3 : nst ec2 = true) (h : PE X e (teI d C W a))
    (hc : ClE X ec cv u) (hf : IsF d t u) (hc2 : ClE X ec2 cv2 u2) (hf2 : IsF d t2 u2) :
    PE X (.Call (.Name "isinstance" px) [e, .Tuple [ec, ec2] k tp] [] pos) (teI d C W (.isi a [t, t2])) := by
  refine PE_imp (pe_callB call_isiT hg hm (by decide +kernel) (a_two h (pe_tup (a_two hc.1 hc2.1 hn2 hn3)) hn rfl) (by decide) (by decide) (star_ns hn) (star_nsts (by simp [nsts, nst]))) fun sg H Q h => ?_
  obtain ⟨F, io, e, M, rl, h⟩ := h
  simp only [ev] at h
  refine ⟨F, io, e, M, rl, (h.bind (RV d)).mono fun v H1 m => ?_⟩
  obtain ⟨F1, io1, M1, x, x1, s1, c1, q1, h1⟩ := m
  obtain ⟨y, e1, h2⟩ := h1.oR
  obtain ⟨b, e2, rfl⟩ := Option.map_eq_some_iff.mp e1
  refine ⟨by show 2 ≤ sizeLine; decide, fun p hp => ?_⟩
  obtain ⟨x2, s2, c2⟩ := ex_new (o := .tup [cv, cv2]) s1 c1 hp
  have q2 := Rep.mono x2.sub x2.pre _ _ q1
  simp only [isiD] at e2
  obtain ⟨b', e3, e4⟩ := Option.bind_eq_some_iff.mp e2
  obtain ⟨tv, k1, k2⟩ := tyX_of hcl s2 c2 q2 e3
  have a1 := hf _ _ _ _ e3 k1
  refine ⟨v, p, [cv, cv2], tv, [u, u2], b, rfl, upd_same, .cons hc.2 (.cons hc2.2 .nil), by rw [hK]; exact k2, ?_, h2 _ _ _ _ x2 s2 c2 (by simp only [RV, Rep])⟩
  rw [hK]
  cases b' with
  | true =>
    have : b = true := by simpa using e4.symm
    subst this
    exact kitAny_cons a1 (fun z => by cases z) (fun _ => rfl)
  | false =>
    simp only [Bool.false_eq_true, if_false] at e4
    obtain ⟨b2, e5, e6⟩ := Option.bind_eq_some_iff.mp e4
    have : b = b2 := by cases b2 <;> simpa using e6.symm
    subst this
    exact kitAny_cons a1 (fun _ => kitAny_cons (hf2 _ _ _ _ e5 k1) (fun z => by subst z; exact kitAny_nil) (fun z => z)) (fun z => by cases z)

/-! ### ranges as lists and tuples -/
theorem rngL_len (lo : Int) (n : Nat) : (rngL lo n).length = n := by simp [rngL]
theorem rngL_reps {F : Hp} {io : List Addr} (a b : Int) : Reps d F io (rngL a (b - a).toNat) (rgV a b) := by
  unfold rngL rgV
  generalize List.range (b - a).toNat = l
  induction l with
  | nil => exact Reps.nil
  | cons i l ih => rw [List.map_cons, List.map_cons]; exact Reps.cons (by simp only [Rep]) ih
theorem f_lrng {a : P} {e : Expr} (hc : X.calm = true) (hg : Gl X "list") (hm : X.mg "list" = none) (hg2 : Gl X "range") (hm2 : X.mg "range" = none) (hn : nst e = true) (h : PE X e (teI d C W a)) :
    PE X (.Call (.Name "list" px) [.Call (.Name "range" px2) [e] [] pos] [] pos2) (tfI d C W (.lrng a)) := by
  refine PE_imp (pe_listRg hc hg hm (prg_1 hg2 hm2 h (star_ns hn)) rfl) fun sg H Q h => ?_
  obtain ⟨F, io, e, M, rl, h⟩ := h
  refine ⟨F, io, e, M, rl, ?_⟩
  simp only [ev] at h
  cases q : ev d.T C a e M with
  | stuck => rw [q] at h; exact h
  | exc c x M' => rw [q] at h; exact h
  | ok x M' =>
    rw [q] at h
    intro F1 io1 H1 v x1 s1 c1 r1
    cases x with
    | int i =>
      by_cases hz : 0 ≤ i ∧ i ≤ 100000
      · simp only [Res.bind, if_pos hz] at h
        obtain ⟨l, e', h⟩ := h
        cases e'
        refine ⟨i, rep_int r1, RgOk.of_le (Int.le_refl _) (by omega) (by omega) hz.1, fun p hp => fresh_meet x1 s1 c1 hp ?_ h⟩
        have := rngL_reps (d := d) (F := F1) (io := io1) 0 i
        rwa [Int.sub_zero] at this
      · simp only [Res.bind, if_neg hz] at h
    | _ => exact (show False from h).elim
theorem s_trng {a : P} {e : Expr} {pos2 : Pos} (hc : X.calm = true) (hg : Gl X "tuple") (hm : X.mg "tuple" = none) (hg2 : Gl X "range") (hm2 : X.mg "range" = none) (hn : nst e = true) (h : PE X e (teI d C W a)) :
    PE X (.Call (.Name "tuple" px) [.Call (.Name "range" px2) [e] [] pos] [] pos2) (teI d C W (.trng a)) := by
  refine PE_imp (pe_tupRg hc hg hm (prg_1 hg2 hm2 h (star_ns hn)) rfl) fun sg H Q h => ?_
  obtain ⟨F, io, e, M, rl, h⟩ := h
  simp only [ev] at h
  refine ⟨F, io, e, M, rl, (h.bind (RV d)).mono fun v H1 m => ?_⟩
  obtain ⟨F1, io1, M1, x, x1, s1, c1, q1, h1⟩ := m
  cases x with
  | int i =>
    simp only at h1
    split at h1
    · rename_i hz
      refine ⟨i, rep_int q1, RgOk.of_le (Int.le_refl _) (by omega) (by omega) hz.1, fun p hp => post_tup s1 c1 h1 hp ?_⟩
      have := rngL_reps (d := d) (F := F1) (io := io1) 0 i
      rwa [Int.sub_zero] at this
    · exact h1.elim
  | _ => exact (show False from h1).elim
end
end Rb

/-! RbSnd9: fresh lists by operators. Own work. -/
namespace Rb
open PySem PySem.Spec PyProof.Rows L2
/-- a result that is a fresh list, as it lies -/
def SatF (d : Wd) (W : WX) (sg : L2.St) (F : Hp) (io : List Addr) (H : Hp) (r : Res D) (Q : VK) : Prop :=
  match r with
  | .ok x M' => ∃ l, x = .lst l ∧ ∀ F' io' H' a vs, Ex F io H F' io' H' → Sub F' H' → Cels d F' io' H' M' → H a = none → H' a = some (.lst vs) → F' a = none → a ∉ io' → Reps d F' io' l vs → Q (.ref a) H'
  | .exc c x M' => ∀ F' io' H' cls dd, Ex F io H F' io' H' → Sub F' H' → Cels d F' io' H' M' → ExR d F' io' c x cls dd → W cls dd sg H'
  | .stuck => False
theorem tfI_eq {d : Wd} {C : CallT} {W : WX} {p : P} {sg : L2.St} {H : Hp} {Q : VK} : tfI d C W p sg H Q ↔ ∃ F io e M, Rl d F io sg H e M ∧ SatF d W sg F io H (ev d.T C p e M) Q := Iff.rfl
section
variable {α β : Type} {d : Wd} {W : WX} {sg : L2.St} {F : Hp} {io : List Addr} {H : Hp}
theorem SatF.shift {r : Res D} {Q : VK} {F1 : Hp} {io1 : List Addr} {H1 : Hp} (h : SatF d W sg F io H r Q) (x : Ex F io H F1 io1 H1) : SatF d W sg F1 io1 H1 r Q := by
  cases r with
  | stuck => exact h
  | exc c y M' => exact fun F2 io2 H2 cls dd x2 s2 c2 q2 => h F2 io2 H2 cls dd (x.trans x2) s2 c2 q2
  | ok a M1 =>
    obtain ⟨l, rfl, h⟩ := h
    refine ⟨l, rfl, fun F2 io2 H2 a vs x2 s2 c2 n1 e n2 n3 r => h F2 io2 H2 a vs (x.trans x2) s2 c2 ?_ e n2 n3 r⟩
    cases k : H a with
    | none => rfl
    | some o => exact absurd n1 (x.there a (by rw [k]; simp))
theorem SatF.bind {r : Res α} {f : α → Sto → Res D} {Q : VK} (R1 : Hp → List Addr → Hp → α → β → Prop) (h : SatF d W sg F io H (r.bind f) Q) :
    Sat d W sg F io H r R1 (fun b H1 => Mid d F io H R1 (fun F1 io1 H1 M1 a _ => SatF d W sg F1 io1 H1 (f a M1) Q) b H1) := by
  cases r with
  | stuck => exact h
  | exc c x M' => exact h
  | ok a M1 => exact fun F1 io1 H1 b x s c q => ⟨F1, io1, M1, a, x, s, c, q, SatF.shift (show SatF d W sg F io H (f a M1) Q from h) x⟩
theorem SatF.new {l : List D} {M : Sto} {Q : VK} {p : Addr} {vs : List V} (h : SatF d W sg F io H (.ok (.lst l) M) Q) (s : Sub F H) (c : Cels d F io H M) (hp : H p = none) (r : Reps d F io l vs) : Q (.ref p) (upd H p (.lst vs)) := by
  obtain ⟨l', e, h⟩ := h
  cases e
  exact fresh_meet (Ex.refl _ _ _) s c hp r h
theorem SatF.oR {o : Option D} {M : Sto} {Q : VK} (h : SatF d W sg F io H (oR o M) Q) : ∃ a, o = some a ∧ SatF d W sg F io H (.ok a M) Q := by
  cases o with
  | none => exact h.elim
  | some a => exact ⟨a, rfl, h⟩
end
section
variable {X : Cx} {d : Wd} {C : CallT} {W : WX} {pos px px2 : Pos} {x : Str}
/-- a + b, a * k: lists by value, the result a fresh one -/
theorem f_add {a b : P} {ea eb : Expr} (ha : PE X ea (teI d C W a)) (hb : PE X eb (teI d C W b)) : PE X (.BinOp ea .Add eb pos) (tfI d C W (.bin .add a b)) := by
  refine PE_imp (pe_op op_cat ha hb) fun sg H Q h => ?_
  obtain ⟨F, io, e, M, rl, h⟩ := tfI_eq.mp h
  simp only [ev] at h
  refine ⟨F, io, e, M, rl, (h.bind (RV d)).mono fun v H1 m => ?_⟩
  obtain ⟨F1, io1, M1, x, x1, s1, c1, q1, h1⟩ := m
  refine ⟨F1, io1, e, M1, rl.ex x1 s1 c1, (h1.bind (RV d)).mono fun u H2 m2 => ?_⟩
  obtain ⟨F2, io2, M2, y, x2, s2, c2, q2, h2⟩ := m2
  obtain ⟨z, e1, h3⟩ := h2.oR
  obtain ⟨l', hz, _⟩ := _root_.id h3
  subst hz
  have q1' := Rep.mono x2.sub x2.pre _ _ q1
  cases x with
  | lst l =>
    cases y with
    | lst m =>
      simp only [binD] at e1
      split at e1
      · rename_i hz
        cases e1
        obtain ⟨a, vs, rfl, k1, k2⟩ := rep_lst q1'
        obtain ⟨b, ws, rfl, k3, k4⟩ := rep_lst q2
        exact ⟨a, b, vs, ws, rfl, rfl, s2 _ _ k1, s2 _ _ k3, by rw [← k2.length, ← k4.length, ← lim_eq]; exact hz, fun p hp => h3.new s2 c2 hp (k2.append k4)⟩
      · cases e1
    | _ => simp only [binD] at e1; cases e1
  | tup l =>
    cases y with
    | tup m => simp only [binD] at e1; split at e1 <;> cases e1
    | _ => simp only [binD] at e1; cases e1
  | str l =>
    cases y with
    | str m => simp only [binD] at e1; split at e1 <;> cases e1
    | _ => simp only [binD] at e1; cases e1
  | int l =>
    cases y with
    | int m => simp only [binD] at e1; cases e1
    | _ => simp only [binD] at e1; cases e1
  | _ => simp only [binD] at e1; cases e1
theorem f_mul {a b : P} {ea eb : Expr} (ha : PE X ea (teI d C W a)) (hb : PE X eb (teI d C W b)) : PE X (.BinOp ea .Mult eb pos) (tfI d C W (.bin .mul a b)) := by
  refine PE_imp (pe_op op_rep ha hb) fun sg H Q h => ?_
  obtain ⟨F, io, e, M, rl, h⟩ := tfI_eq.mp h
  simp only [ev] at h
  refine ⟨F, io, e, M, rl, (h.bind (RV d)).mono fun v H1 m => ?_⟩
  obtain ⟨F1, io1, M1, x, x1, s1, c1, q1, h1⟩ := m
  refine ⟨F1, io1, e, M1, rl.ex x1 s1 c1, (h1.bind (RV d)).mono fun u H2 m2 => ?_⟩
  obtain ⟨F2, io2, M2, y, x2, s2, c2, q2, h2⟩ := m2
  obtain ⟨z, e1, h3⟩ := h2.oR
  obtain ⟨l', hz, _⟩ := _root_.id h3
  subst hz
  have q1' := Rep.mono x2.sub x2.pre _ _ q1
  cases x with
  | lst l =>
    cases y with
    | int k =>
      simp only [binD] at e1
      split at e1
      · rename_i hz
        cases e1
        obtain ⟨hz1, hz2, hz3⟩ := hz
        obtain ⟨a, vs, rfl, k1, k2⟩ := rep_lst q1'
        exact ⟨a, k, vs, rfl, rep_int q2, s2 _ _ k1, by omega, by omega, by rw [← k2.length, ← lim_eq]; exact hz3, fun p hp => h3.new s2 c2 hp (k2.rep k.toNat)⟩
      · cases e1
    | _ => simp only [binD] at e1; cases e1
  | tup l =>
    cases y with
    | int m => simp only [binD] at e1; split at e1 <;> cases e1
    | _ => simp only [binD] at e1; cases e1
  | int l =>
    cases y with
    | int m => simp only [binD] at e1; split at e1 <;> cases e1
    | _ => simp only [binD] at e1; cases e1
  | _ => simp only [binD] at e1; cases e1
/-- a + b, either list read as it stands -/
theorem f_cat {a b : P} {ea eb : Expr} (ha : PE X ea (tqI d C W a)) (hb : PE X eb (tqI d C W b)) : PE X (.BinOp ea .Add eb pos) (tfI d C W (.cat a b)) := by
  refine PE_imp (pe_op op_cat ha hb) fun sg H Q h => ?_
  obtain ⟨F, io, e, M, rl, h⟩ := tfI_eq.mp h
  simp only [ev] at h
  refine ⟨F, io, e, M, rl, (h.bind (RQ d)).mono fun v H1 m => ?_⟩
  obtain ⟨F1, io1, M1, x, x1, s1, c1, q1, h1⟩ := m
  refine ⟨F1, io1, e, M1, rl.ex x1 s1 c1, (h1.bind (RQ d)).mono fun u H2 m2 => ?_⟩
  obtain ⟨F2, io2, M2, y, x2, s2, c2, q2, h2⟩ := m2
  split at h2
  · rename_i hh
    obtain ⟨hx, hy, hg, hz⟩ := hh
    have q1' := q1.later hg x2
    obtain ⟨a, vs, rfl, k1, k2⟩ := q1'.list s2 hx
    obtain ⟨b, ws, rfl, k3, k4⟩ := q2.list s2 hy
    exact ⟨a, b, vs, ws, rfl, rfl, k1, k3, by rw [← k2.length, ← k4.length, ← lim_eq]; exact hz, fun p hp => h2.new s2 c2 hp (k2.append k4)⟩
  · exact h2.elim
/-- a fresh one may be had by value -/
theorem ok_of_bind {α : Type} {r : Res α} {f : α → Sto → Res D} {x : D} {M' : Sto} (h : r.bind f = .ok x M') : ∃ a M1, r = .ok a M1 ∧ f a M1 = .ok x M' := by
  cases r with
  | ok a M1 => exact ⟨a, M1, rfl, h⟩
  | exc _ _ _ => cases h
  | stuck => cases h
theorem z_lst {l : List P} (e : Env) (M : Sto) (x : D) (M' : Sto) (h : ev d.T C (.lst l) e M = .ok x M') : ∃ l, x = .lst l := by
  simp only [ev] at h
  obtain ⟨a, M1, _, h⟩ := ok_of_bind h
  split at h <;> cases h; exact ⟨_, rfl⟩
theorem z_list {l : P} (e : Env) (M : Sto) (x : D) (M' : Sto) (h : ev d.T C (.list l) e M = .ok x M') : ∃ l, x = .lst l := by
  simp only [ev] at h
  obtain ⟨a, M1, _, h⟩ := ok_of_bind h
  split at h <;> cases h; exact ⟨_, rfl⟩
theorem z_lrng {l : P} (e : Env) (M : Sto) (x : D) (M' : Sto) (h : ev d.T C (.lrng l) e M = .ok x M') : ∃ l, x = .lst l := by
  simp only [ev] at h
  obtain ⟨a, M1, _, h⟩ := ok_of_bind h
  split at h
  · split at h <;> cases h; exact ⟨_, rfl⟩
  · cases h
theorem z_cat {a b : P} (e : Env) (M : Sto) (x : D) (M' : Sto) (h : ev d.T C (.cat a b) e M = .ok x M') : ∃ l, x = .lst l := by
  simp only [ev] at h
  obtain ⟨a, M1, _, h⟩ := ok_of_bind h
  obtain ⟨b, M2, _, h⟩ := ok_of_bind h
  split at h <;> cases h; exact ⟨_, rfl⟩
end
end Rb

/-! RbRev: a tuple turned round. Own work (the kit's road of slices, with the step -1). -/
namespace HT
open PySem PySem.Spec PyProof.Rows
section
variable {prog : Program} {w : World} {A : Around} {E : Value → Shared → Prop} {s : Shared}
theorem sliceApplied_rev {sl : Addr} {vl vu vs : Value} {n : Nat} {Q : Int × Int × Nat → Shared → Prop} (hs : s.heap.IsSliceOf sl vl vu vs) (pl : IsPart vl none) (pu : IsPart vu none) (ps : IsPart vs (some (-1)))
    (h : Q ((n : Int) - 1, -1, n) s) : wpAny (model prog w) A (Builtin.Slice.sliceApplied (.ref sl) (pure (n : Int))) Q E s := by
  obtain ⟨os, hos, hcs, hds⟩ := id hs
  unfold Builtin.Slice.sliceApplied Builtin.Slice.sliceFields
  refine wpAny_bind (wpAny_bind (wpAny_field hos hds (x := vl) rfl (wpAny_bind (wpAny_field hos hds (x := vu) rfl (wpAny_bind (wpAny_field hos hds (x := vs) rfl (wpAny_pure ?_)))))))
  refine wpAny_bind (slicePart_ ps ?_)
  show wpAny _ _ (if ((-1 : Int) == 0) = true then _ else _) _ _ s
  rw [if_neg (by decide)]
  refine wpAny_bind (slicePart_ pl (wpAny_bind (slicePart_ pu (wpAny_bind (wpAny_pure ?_)))))
  have e1 : Builtin.Slice.sliceAdjust none none (-1) (n : Int) = ((n : Int) - 1, -1) := by
    unfold Builtin.Slice.sliceAdjust
    simp
  show wpAny _ _ (match Builtin.Slice.sliceAdjust none none (-1) (n : Int) with | (lo, hi) => pure (lo, (-1 : Int), Builtin.Slice.slicePlaces lo hi (-1))) _ _ s
  rw [e1]
  have e2 : Builtin.Slice.slicePlaces ((n : Int) - 1) (-1) (-1) = n := by
    unfold Builtin.Slice.slicePlaces
    have h1 : ¬ ((-1 : Int) > 0) := by decide
    simp only [h1, if_false]
    rw [show (- -1 : Int) = 1 by decide, Int.ediv_one]
    by_cases hn : (n : Int) - 1 > -1
    · rw [if_pos hn]; omega
    · rw [if_neg hn]; omega
  show wpAny _ _ (pure ((n : Int) - 1, (-1 : Int), Builtin.Slice.slicePlaces ((n : Int) - 1) (-1) (-1))) _ _ s
  rw [e2]
  exact wpAny_pure h
theorem fm_all {α β : Type} {f : α → Option β} {g : α → β} : ∀ {l : List α}, (∀ m ∈ l, f m = some (g m)) → l.filterMap f = l.map g
  | [], _ => rfl
  | x :: l, h => by rw [List.filterMap_cons, h x (by simp), List.map_cons, fm_all fun m hm => h m (List.mem_cons_of_mem _ hm)]
theorem pick_rev (xs : Array Value) : ((List.range xs.size).filterMap fun (m : Nat) => xs[((xs.size : Int) - 1 + (m : Int) * (-1)).toNat]?).toArray = xs.toList.reverse.toArray := by
  have e : (List.range xs.size).filterMap (fun (m : Nat) => xs[((xs.size : Int) - 1 + (m : Int) * (-1)).toNat]?) = xs.toList.reverse := by
    apply List.ext_getElem?
    intro i
    have e2 : (List.range xs.size).filterMap (fun (m : Nat) => xs[((xs.size : Int) - 1 + (m : Int) * (-1)).toNat]?) = (List.range xs.size).map fun m => (xs[xs.size - 1 - m]?).getD default := by
      refine fm_all fun m hm => ?_
      have := List.mem_range.mp hm
      have e3 : ((xs.size : Int) - 1 + (m : Int) * (-1)).toNat = xs.size - 1 - m := by omega
      rw [e3, Array.getElem?_eq_getElem (by omega)]
      rfl
    rw [e2]
    by_cases hi : i < xs.size
    · simp [hi]
      rw [Array.getElem?_eq_getElem (by omega)]
      rfl
    · simp [hi]
  rw [e]
theorem getItem_tuple_rev {t sl : Addr} {items : Array Value} {vl vu vs : Value} {Q : Value → Shared → Prop} (ht : IsTup s.heap t items) (hs : s.heap.IsSliceOf sl vl vu vs) (pl : IsPart vl none) (pu : IsPart vu none) (ps : IsPart vs (some (-1)))
    (h : Q (.ref s.heap.objs.size) { s with heap := s.heap.push { cls := .type "tuple", data := .seq items.toList.reverse.toArray } })
    (hsz : items.size ≤ sizeLine) : wpAny (model prog w) A (getItem (.ref t) (.ref sl)) Q E s := by
  have htake : sizeOk (.seq items.toList.reverse.toArray) := by
    show items.toList.reverse.toArray.size ≤ sizeLine
    rw [List.size_toArray, List.length_reverse, Array.length_toList]
    exact hsz
  obtain ⟨os, hos, hcs, hds⟩ := id hs
  have hTs : s.TypeIs (.ref sl) "slice" := ⟨os, hos, hcs⟩
  unfold getItem
  try with_reducible refine wpAny_holding ?_
  first | refine wpAny_bind (wpAny_pure ?_) | skip
  refine wpAny_bind (wpAny_sequenceKey ht.typeIs (by decide) ?_)
  refine wpAny_bind (wpAny_callSpecial?_slot (name := Str.ofString "__getitem__") ht.typeIs PyProof.Rows.slot_tuple_getitem
    (wpAny_call_entry PyProof.Rows.slot_tuple_getitem ht.typeIs entry_tuple_getitem ?_ (args_tuple_getitem _ _)))
  show wpAny _ _ (Builtin.Tuple.tupleItemsOf (.ref t) >>= _) _ _ s
  refine wpAny_bind (tupleItemsOf_ ht ?_)
  refine wpAny_bind (wpAny_typeOf hTs ?_)
  rw [if_pos (by decide)]
  refine wpAny_bind (sliceApplied_rev hs pl pu ps ?_)
  have hno : ¬ ((((items.size : Int) - 1) == 0 && (-1 : Int) == 1 && items.size == items.size) = true) := by simp
  show wpAny _ _ (if (((items.size : Int) - 1) == 0 && (-1 : Int) == 1 && items.size == items.size) = true then _ else _) _ _ s
  rw [if_neg hno, pick_rev]
  first
    | exact wpAny_bind (m := Builtin.Tuple.tupleExact _) (wpAny_newObj_type (wpAny_pure ⟨_, rfl, wpAny_pure h⟩) htake)
    | exact wpAny_bind (m := Builtin.Tuple.tupleExact _) (wpAny_newObj_type (wpAny_bind (wpAny_pure (wpAny_pure ⟨_, rfl, wpAny_pure h⟩))) htake)
    | exact wpAny_bind (wpAny_bind (m := Builtin.Tuple.tupleExact _) (wpAny_newObj_type (wpAny_pure (wpAny_pure ⟨_, rfl, wpAny_pure h⟩)) htake))
    | exact wpAny_bind (wpAny_bind (m := Builtin.Tuple.tupleExact _) (wpAny_newObj_type (wpAny_pure ⟨_, rfl, wpAny_pure h⟩) htake))
end
end HT
namespace Rb
open PySem PySem.Spec PyProof.Rows L2 HT
section
variable {X : Cx} {d : Wd} {C : CallT} {W : WX}
def tRevT (K : PySem.W.Frag) (te : TE) : TE := fun sg H Q => te sg H fun x H1 => ∃ a xs, x = .ref a ∧ SqT K H1 a xs ∧ ∀ p, H1 p = none → Q (.ref p) (upd H1 p (.tup xs.reverse))
theorem pe_revT {e : Expr} {te : TE} {k : Nat} {p1 p2 p3 pos : Pos} (he : PE X e te) : PE X (.Subscript e (.Slice none none (some (.UnaryOp .USub (.Constant (.int 1) k p1) p2)) p3) pos) (tRevT X.K te) := by
  refine ⟨fun pins s σ H Q I h => ?_⟩
  refine Subscript_ (thn (he.run pins s σ H _ I h) fun v s1 ⟨x, H1, I1, r1, q1⟩ => ?_)
  obtain ⟨a, xs, ex, hx, q⟩ := q1
  subst ex
  cases r1
  have hst : PO X (some (.UnaryOp .USub (.Constant (.int 1) k p1) p2)) (tPart (tUn (rU fun i => .int (-i)) (tC (.int 1)))) := po_some (pe_un un_neg pe_int)
  refine wpAny_Slice (thn (po_none.run pins s1 σ H1 (fun o H2 => o = none ∧ H2 = H1) I1 ⟨rfl, rfl⟩) fun vl s2 ⟨l, H2, I2, pl, el, e2⟩ => ?_)
  subst el e2
  refine thn (po_none.run pins s2 σ H2 (fun o H3 => o = none ∧ H3 = H2) I2 ⟨rfl, rfl⟩) fun vu s3 ⟨u, H3, I3, pu, eu, e3⟩ => ?_
  subst eu e3
  refine thn (hst.run pins s3 σ H3 (fun o H4 => o = some (-1) ∧ H4 = H3) I3 ⟨1, rfl, -1, rfl, rfl, rfl⟩) fun vs s4 ⟨o, H4, I4, ps, eo, e4⟩ => ?_
  subst eo e4
  have I5 : Inv X pins σ H4 { s4 with heap := s4.heap.push { cls := .type "slice", data := .fields #[vl, vu, vs] } } := I4.kept (t' := s4.toks) fun b ob q => Heap.get?_push_of_some _ q
  obtain ⟨its, r, ht, hz⟩ := I5.tuple hx
  have hlen := r.length
  show wpAny (model X.prog X.w) X.A (subscriptTail e (.Slice none none (some (.UnaryOp .USub (.Constant (.int 1) k p1) p2)) p3) (.ref a) (.ref s4.heap.objs.size)) (EP X pins σ Q) X.xe { s4 with heap := s4.heap.push { cls := .type "slice", data := .fields #[vl, vu, vs] } }
  refine tail_any (ops := [.ref a, .ref s4.heap.objs.size]) ht.typeIs (PyProof.Rows.slot_tuple_getitem.lookup) ?_ (by with_unfolding_all rfl)
  refine getItem_tuple_rev ht (Heap.IsSliceOf.new _ vl vu vs) pl pu ps ?_ (by rw [List.size_toArray]; omega)
  refine ⟨.ref _, _, I5.laid (t' := s4.toks) (o := .tup xs.reverse) (fun b ob q => Heap.get?_push_of_some _ q) (Nat.le_refl _) ?_, rfl, q _ (I5.hok.fresh (Nat.le_refl _))⟩
  exact ⟨by rw [List.length_reverse]; exact hz, _, r.reverse, IsTup.new _ _⟩
theorem s_rev {o : P} {eo : Expr} {k : Nat} {p1 p2 p3 pos : Pos} (hK : X.K = d.K) (ho : PE X eo (teI d C W o)) : PE X (.Subscript eo (.Slice none none (some (.UnaryOp .USub (.Constant (.int 1) k p1) p2)) p3) pos) (teI d C W (.rev o)) := by
  refine PE_imp (pe_revT ho) fun sg H Q h => ?_
  obtain ⟨F, io, e, M, rl, h⟩ := h
  simp only [ev] at h
  refine ⟨F, io, e, M, rl, (h.bind (RV d)).mono fun v H1 m => ?_⟩
  obtain ⟨F1, io1, M1, x, x1, s1, c1, q1, h1⟩ := m
  cases x with
  | tup l =>
    obtain ⟨a, vs, rfl, k2, k3⟩ := rep_tup q1
    exact ⟨a, vs, rfl, by rw [hK]; exact s1.sqt k2, fun p hp => post_tup s1 c1 h1 hp k3.reverse⟩
  | _ => exact (show False from h1).elim
end
end Rb

/-! RbSort: sorted, of ints and of rows of groups. Own work. -/
namespace Rb
open PySem PySem.Spec PyProof.Rows L2
/-! ### the order -/
structure Lin {α : Type} (lt : α → α → Bool) : Prop where
  asym : ∀ x y, lt x y = true → lt y x = false
  tr : ∀ x y z, lt x y = true → lt y z = true → lt x z = true
  tri : ∀ x y, lt x y = false → lt y x = false → x = y
theorem Lin.irr {α : Type} {lt : α → α → Bool} (L : Lin lt) (x : α) : lt x x = false := by
  cases h : lt x x with
  | false => rfl
  | true => have := L.asym x x h; rw [h] at this; cases this
theorem Lin.swo {α : Type} {lt : α → α → Bool} (L : Lin lt) : SrtO.Swo lt := ⟨L.asym, fun x y z h1 h2 => by
  cases h : lt z x with
  | false => rfl
  | true =>
    cases k : lt x y with
    | true => rw [L.tr z x y h k] at h2; cases h2
    | false => rw [L.tri x y k h1] at h; rw [h] at h2; cases h2⟩
theorem lin_int : Lin ltI := ⟨fun x y h => by simp only [ltI, decide_eq_true_eq, decide_eq_false_iff_not] at *; omega, fun x y z h k => by simp only [ltI, decide_eq_true_eq] at *; omega, fun x y h k => by simp only [ltI, decide_eq_false_iff_not] at *; omega⟩
theorem lexL_cons {α : Type} [DecidableEq α] {lt : α → α → Bool} {x y : α} {xs ys : List α} : lexL lt (x :: xs) (y :: ys) = if x = y then lexL lt xs ys else lt x y := rfl
theorem Lin.lex {α : Type} [DecidableEq α] {lt : α → α → Bool} (L : Lin lt) : Lin (lexL lt) := by
  refine ⟨?_, ?_, ?_⟩
  · intro x
    induction x with
    | nil => intro y h; cases y <;> simp [lexL] at h ⊢
    | cons x xs ih =>
      intro y h
      cases y with
      | nil => simp [lexL] at h
      | cons y ys =>
        rw [lexL_cons] at h ⊢
        by_cases e : x = y
        · subst e; simp only [if_true] at h ⊢; exact ih _ h
        · rw [if_neg e] at h; rw [if_neg (Ne.symm e)]; exact L.asym _ _ h
  · intro x
    induction x with
    | nil => intro y z h k; cases y <;> cases z <;> simp [lexL] at h k ⊢
    | cons x xs ih =>
      intro y z h k
      cases y with
      | nil => simp [lexL] at h
      | cons y ys =>
        cases z with
        | nil => simp [lexL] at k
        | cons z zs =>
          rw [lexL_cons] at h k ⊢
          by_cases e : x = y
          · subst e
            simp only [if_true] at h
            by_cases e2 : x = z
            · subst e2; simp only [if_true] at k ⊢; exact ih _ _ h k
            · rw [if_neg e2] at k ⊢; exact k
          · rw [if_neg e] at h
            by_cases e2 : y = z
            · subst e2; rw [if_neg e]; exact h
            · rw [if_neg e2] at k
              have t := L.tr _ _ _ h k
              have : x ≠ z := fun q => by subst q; rw [L.irr] at t; cases t
              rw [if_neg this]; exact t
  · intro x
    induction x with
    | nil => intro y h k; cases y <;> simp [lexL] at h k ⊢
    | cons x xs ih =>
      intro y h k
      cases y with
      | nil => simp [lexL] at k
      | cons y ys =>
        rw [lexL_cons] at h k
        by_cases e : x = y
        · subst e; simp only [if_true] at h k; rw [ih _ h k]
        · rw [if_neg e] at h; rw [if_neg (Ne.symm e)] at k; exact absurd (L.tri _ _ h k) e
theorem lin_L : Lin ltL := lin_int.lex
theorem lin_G : Lin ltG := lin_L.lex

section
variable {α : Type} {lt : α → α → Bool}
theorem insK_perm (x : α) : ∀ l, (insK lt x l).Perm (x :: l)
  | [] => List.Perm.refl _
  | y :: r => by
    simp only [insK]
    split
    · exact ((insK_perm x r).cons y).trans (List.Perm.swap x y r)
    · exact List.Perm.refl _
theorem srtK_perm : ∀ l : List α, (srtK lt l).Perm l
  | [] => List.Perm.refl _
  | x :: r => by simp only [srtK]; exact (insK_perm x _).trans ((srtK_perm r).cons x)
theorem insK_srtd (L : Lin lt) (x : α) : ∀ l, SrtO.Srtd lt l → SrtO.Srtd lt (insK lt x l)
  | [], _ => List.pairwise_singleton _ _
  | y :: r, h => by
    have h' := List.pairwise_cons.mp h
    simp only [insK]
    split
    · rename_i hy
      refine List.pairwise_cons.mpr ⟨fun z hz => ?_, insK_srtd L x r h'.2⟩
      rcases List.mem_cons.mp ((insK_perm x r).mem_iff.mp hz) with e | hz
      · subst e; exact L.asym _ _ hy
      · exact h'.1 z hz
    · rename_i hy
      have hy : lt y x = false := by simpa using hy
      refine List.pairwise_cons.mpr ⟨fun z hz => ?_, h⟩
      rcases List.mem_cons.mp hz with e | hz
      · subst e; exact hy
      · exact L.swo.tr x y z hy (h'.1 z hz)
theorem srtK_srtd (L : Lin lt) : ∀ l, SrtO.Srtd lt (srtK lt l)
  | [] => List.Pairwise.nil
  | x :: r => by simp only [srtK]; exact insK_srtd L x _ (srtK_srtd L r)
theorem srtd_uniq (L : Lin lt) : ∀ {l m : List α}, SrtO.Srtd lt l → SrtO.Srtd lt m → l.Perm m → l = m
  | [], m, _, _, h => (List.Perm.eq_nil h.symm).symm
  | x :: l, [], _, _, h => absurd h.length_eq (by simp)
  | x :: l, y :: m, hl, hm, h => by
    have h1 : lt x y = false := by
      rcases List.mem_cons.mp (h.mem_iff.mp (List.mem_cons_self (a := x) (l := l))) with e | hx
      · rw [e]; exact L.irr y
      · exact (List.pairwise_cons.mp hm).1 x hx
    have h2 : lt y x = false := by
      rcases List.mem_cons.mp (h.mem_iff.mpr (List.mem_cons_self (a := y) (l := m))) with e | hy
      · rw [e]; exact L.irr x
      · exact (List.pairwise_cons.mp hl).1 y hy
    have e := L.tri x y h1 h2
    subst e
    rw [srtd_uniq L (List.pairwise_cons.mp hl).2 (List.pairwise_cons.mp hm).2 h.cons_inv]
theorem srtK_uniq (L : Lin lt) {l m : List α} (h : SrtO.Srtd lt m) (p : m.Perm l) : m = srtK lt l := srtd_uniq L h (srtK_srtd L l) (p.trans (srtK_perm l).symm)
end

/-! ### rows of groups in a heap -/
def IsI (h : Heap) (v : Value) (ns : List Int) : Prop := ∃ a o its n, v = .ref a ∧ h.get? a = some o ∧ o.cls = .type "tuple" ∧ o.data = .seq its n ∧ IntsAre its.toList ns
def IsG (h : Heap) (v : Value) (k : List (List Int)) : Prop := ∃ a o its n, v = .ref a ∧ h.get? a = some o ∧ o.cls = .type "tuple" ∧ o.data = .seq its n ∧ Paired (IsI h) its.toList k
theorem IsI.keeps {h h' : Heap} {v : Value} {ns : List Int} (x : IsI h v ns) (k : ∀ b o, h.get? b = some o → o.cls = .type "tuple" → h'.get? b = some o) : IsI h' v ns := by
  obtain ⟨a, o, its, n, e, h1, h2, h3, h4⟩ := x
  exact ⟨a, o, its, n, e, k _ _ h1 h2, h2, h3, h4⟩
theorem paired_imp {α β : Type} {F G : α → β → Prop} (k : ∀ a b, F a b → G a b) : ∀ {l : List α} {m : List β}, Paired F l m → Paired G l m
  | _, _, .nil => .nil
  | _, _, .cons h t => .cons (k _ _ h) (paired_imp k t)
theorem IsG.keeps {h h' : Heap} {v : Value} {ks : List (List Int)} (x : IsG h v ks) (k : ∀ b o, h.get? b = some o → o.cls = .type "tuple" → h'.get? b = some o) : IsG h' v ks := by
  obtain ⟨a, o, its, n, e, h1, h2, h3, h4⟩ := x
  exact ⟨a, o, its, n, e, k _ _ h1 h2, h2, h3, paired_imp (fun _ _ z => z.keeps k) h4⟩
theorem intsAre_inj : ∀ {vs : List Value} {ns ms : List Int}, IntsAre vs ns → IntsAre vs ms → ns = ms
  | _, _, _, .nil, .nil => rfl
  | _, _, _, .cons n t h, .cons _ _ k => by rw [intsAre_inj h k]
theorem IsI.inj {h : Heap} {v : Value} {ns ms : List Int} (x : IsI h v ns) (y : IsI h v ms) : ns = ms := by
  obtain ⟨a, o, its, n, rfl, h1, h2, h3, h4⟩ := x
  obtain ⟨b, o', its', n', e, k1, k2, k3, k4⟩ := y
  cases e
  rw [h1] at k1; cases k1
  rw [h3] at k3; cases k3
  exact intsAre_inj h4 k4
theorem paired_inj {α β : Type} {F : α → β → Prop} (k : ∀ a b c, F a b → F a c → b = c) : ∀ {l : List α} {m n : List β}, Paired F l m → Paired F l n → m = n
  | _, _, _, .nil, .nil => rfl
  | _, _, _, .cons h t, .cons h' t' => by rw [k _ _ _ h h', paired_inj k t t']
theorem IsG.inj {h : Heap} {v : Value} {ns ms : List (List Int)} (x : IsG h v ns) (y : IsG h v ms) : ns = ms := by
  obtain ⟨a, o, its, n, rfl, h1, h2, h3, h4⟩ := x
  obtain ⟨b, o', its', n', e, k1, k2, k3, k4⟩ := y
  cases e
  rw [h1] at k1; cases k1
  rw [h3] at k3; cases k3
  exact paired_inj (F := IsI h) (fun _ _ _ x y => x.inj y) h4 k4

section
variable {prog : Program} {w : World} {A : Around} {E : Value → Shared → Prop} {s : Shared}
theorem items_of_ints : ∀ {vs : List Value} {ns : List Int}, IntsAre vs ns → ItemsAre (intKind prog w) ns vs
  | _, _, .nil => .nil
  | _, _, .cons n t h => .cons (intKind_is prog w n t) (items_of_ints h)
theorem eqI (hu : A.units < cLine) {v u : Value} {ns ms : List Int} (x : IsI s.heap v ns) (y : IsI s.heap u ms) : SeqAt.EqAt A s v u (decide (ns = ms)) := by
  obtain ⟨a, o, its, n, rfl, h1, h2, h3, h4⟩ := x
  obtain ⟨b, o', its', n', rfl, k1, k2, k3, k4⟩ := y
  intro prog w E Q h
  exact wpAny_eqBool_tuple (knd := intKind prog w) hu ⟨o, its, n, h1, h2, h3, items_of_ints h4⟩ ⟨o', its', n', k1, k2, k3, items_of_ints k4⟩ h
theorem lexAt_shift {e r : Nat → Bool} {z : Bool} : ∀ {k i : Nat}, Ob.lexAt e r z (i + 1) k = Ob.lexAt (fun j => e (j + 1)) (fun j => r (j + 1)) z i k
  | 0, i => rfl
  | k + 1, i => by rw [Ob.lexAt_succ, Ob.lexAt_succ, lexAt_shift (k := k) (i := i + 1)]
theorem lexAt_ints : ∀ ns ms : List Int, Ob.lexAt (fun j => decide (ns.getD j 0 = ms.getD j 0)) (fun j => decide (ns.getD j 0 < ms.getD j 0)) (decide (ns.length < ms.length)) 0 (min ns.length ms.length) = ltL ns ms
  | [], [] => rfl
  | [], _ :: _ => by simp [Ob.lexAt_zero, ltL, lexL]
  | _ :: _, [] => by simp [Ob.lexAt_zero, ltL, lexL]
  | x :: xs, y :: ys => by
    have e : min (x :: xs).length (y :: ys).length = min xs.length ys.length + 1 := by simp only [List.length_cons]; omega
    rw [e, Ob.lexAt_succ, lexAt_shift]
    have ih := lexAt_ints xs ys
    simp only [List.getD_cons_succ, List.getD_cons_zero, List.length_cons, Nat.add_lt_add_iff_right]
    rw [ih]
    unfold ltL
    rw [lexL_cons]
    by_cases h : x = y
    · simp [h]
    · simp [h, ltI]
theorem ltI_at (hu : A.units < cLine) {v u : Value} {ns ms : List Int} (x : IsI s.heap v ns) (y : IsI s.heap u ms) : Ob.RcOp .Lt A s v u (ltL ns ms) := by
  obtain ⟨a, o, its, n, rfl, h1, h2, h3, h4⟩ := x
  obtain ⟨b, o', its', n', rfl, k1, k2, k3, k4⟩ := y
  have e1 : its.size = ns.length := by rw [← Array.length_toList]; exact h4.length
  have e2 : its'.size = ms.length := by rw [← Array.length_toList]; exact k4.length
  have at1 : ∀ j (h1 : j < its.size), ∃ t, its[j] = .int (ns.getD j 0) t := fun j h1 => PyProof.Rows.IntsAre.int_at h4 _ _ (by simp [h1])
  have at2 : ∀ j (h1 : j < its'.size), ∃ t, its'[j] = .int (ms.getD j 0) t := fun j h1 => PyProof.Rows.IntsAre.int_at k4 _ _ (by simp [h1])
  have R := Ob.RcOp.tuples_lt (A := A) (s := s) (items := its) (items2 := its') (e := fun j => decide (ns.getD j 0 = ms.getD j 0)) (r := fun j => decide (ns.getD j 0 < ms.getD j 0)) ⟨o, h1, h2, n, h3⟩ ⟨o', k1, k2, n', k3⟩ hu (fun j h1 h2 => by
    obtain ⟨t, et⟩ := at1 j h1
    obtain ⟨t', et'⟩ := at2 j h2
    rw [et, et']
    have z : (ns.getD j 0 == ms.getD j 0) = decide (ns.getD j 0 = ms.getD j 0) := by
      by_cases q : ns.getD j 0 = ms.getD j 0
      · rw [decide_eq_true q]; exact beq_iff_eq.mpr q
      · rw [decide_eq_false q]; exact beq_eq_false_iff_ne.mpr q
    rw [← z]
    exact SeqAt.EqAt.int_int _ _ _ _) (fun j h1 h2 _ => by
    obtain ⟨t, et⟩ := at1 j h1
    obtain ⟨t', et'⟩ := at2 j h2
    rw [et, et']
    exact Ob.RcOp.lt_int _ _ _ _)
  rw [e1, e2, lexAt_ints] at R
  exact R
theorem kat_g (hu : A.units < cLine) : ∀ (xs ys : List Value) (kx ky : List (List Int)) (i : Nat), Paired (IsI s.heap) xs kx → Paired (IsI s.heap) ys ky →
    PySem.W.KatLex prog w A false (decide (xs.length < ys.length)) (fun r s' => s' = s ∧ r = ltG kx ky) (xs.zip ys) i s
  | [], [], _, _, _, .nil, .nil => PySem.W.kat_nil ⟨rfl, rfl⟩
  | [], _ :: _, _, _, _, .nil, .cons _ _ => PySem.W.kat_nil ⟨rfl, by simp [ltG, lexL]⟩
  | _ :: _, [], _, _, _, .cons _ _, .nil => PySem.W.kat_nil ⟨rfl, by simp [ltG, lexL]⟩
  | x :: xs, y :: ys, kx :: kxs, ky :: kys, i, .cons hx tx, .cons hy ty => by
    rw [List.zip_cons_cons]
    refine PySem.W.kat_cons (eqI hu hx hy prog w _ _ ?_)
    refine PySem.W.kat_go (fun e1 => ?_) (fun e1 => ?_)
    · have e : kx = ky := by simpa using e1
      have := kat_g hu xs ys kxs kys (i + 1) tx ty
      have e3 : ltG (kx :: kxs) (ky :: kys) = ltG kxs kys := by unfold ltG; rw [lexL_cons, if_pos e]
      rw [e3]
      refine PySem.W.kat_yes ?_
      have e4 : decide ((x :: xs).length < (y :: ys).length) = decide (xs.length < ys.length) := by simp
      rw [e4]
      exact this
    · have e : ¬ kx = ky := by simpa using e1
      have e3 : ltG (kx :: kxs) (ky :: kys) = ltL kx ky := by unfold ltG; rw [lexL_cons, if_neg e]
      rw [e3]
      exact PySem.W.kat_no (PySem.W.kat_one _ _ (ltI_at hu hx hy prog w _ _ ⟨rfl, rfl⟩))
theorem g_cmp (hu : A.units < cLine) {vs : List Value} {k : Value → List (List Int)} (hp : ∀ v ∈ vs, IsG s.heap v (k v)) : SrtO.Cmp prog w A s (tuples' false) (fun p => p.1 ∈ vs) (SrtO.lt2 fun v u => ltG (k v) (k u)) := by
  intro p q hm hm'
  have h1 := hp _ hm
  have h2 := hp _ hm'
  show wpAny (model prog w) A (keyLt' (tuples' false) p.1 q.1) (fun r s' => s' = s ∧ r = ltG (k p.1) (k q.1)) (fun _ _ => False) s
  generalize k p.1 = x at h1 ⊢
  generalize k q.1 = y at h2 ⊢
  obtain ⟨a, o, its, n, e, ho, hc, hd, hr⟩ := h1
  obtain ⟨a', o', its', n', e', ho', hc', hd', hr'⟩ := h2
  rw [e, e']
  refine PySem.W.kat_lt ho hd ho' hd' ?_
  have := kat_g (prog := prog) (w := w) (A := A) (s := s) hu its.toList its'.toList x y 0 hr hr'
  simpa using this
theorem g_firsts {h : Heap} : ∀ {vs : List Value} {k : Value → List (List Int)}, (∀ v ∈ vs, IsG h v (k v) ∧ k v ≠ []) → ∃ fs, PySem.W.KatTups h vs fs ∧ fs.length = vs.length ∧ ∀ f ∈ fs, ∃ ns, IsI h f ns
  | [], _, _ => ⟨[], trivial, rfl, fun _ z => nomatch z⟩
  | v :: vs, k, hp => by
    obtain ⟨⟨a, o, its, n, e, ho, hc, hd, hr⟩, hne⟩ := hp v List.mem_cons_self
    obtain ⟨fs, f1, f2, f3⟩ := g_firsts fun u hu => hp u (List.mem_cons_of_mem _ hu)
    subst e
    cases hi : its.toList with
    | nil =>
      rw [hi] at hr
      generalize k (.ref a) = kk at hr hne
      cases hr
      exact absurd rfl hne
    | cons x xs =>
      rw [hi] at hr
      generalize k (.ref a) = kk at hr hne
      cases hr with
      | cons hx _ =>
        refine ⟨x :: fs, PySem.W.KatTups.cons ho hc hd ?_ f1, by simp [f2], fun f hf => ?_⟩
        · rw [← Array.getElem?_toList, hi]; rfl
        · rcases List.mem_cons.mp hf with e | hf
          · subst e; exact ⟨_, hx⟩
          · exact f3 f hf
theorem g_sortable (hu : A.units < cLine) {a : Addr} {vs : List Value} {k : Value → List (List Int)} (h0 : 0 < vs.length) (hp : ∀ v ∈ vs, IsG s.heap v (k v) ∧ k v ≠ []) (ha : ∀ o, s.heap.get? a = some o → o.cls ≠ .type "tuple") : SrtO.SortableO prog w A s a vs fun v u => ltG (k v) (k u) := by
  intro h' keep
  have hp' : ∀ v ∈ vs, IsG h' v (k v) ∧ k v ≠ [] := fun v hm => ⟨(hp v hm).1.keeps fun b o e c => keep b o (fun z => by subst z; exact ha o e c) e, (hp v hm).2⟩
  obtain ⟨fs, h1, h2, h3⟩ := g_firsts hp'
  refine ⟨tuples' false, fun Q E hq => ?_, g_cmp hu fun v hv => (hp' v hv).1⟩
  refine PySem.W.kat_kind (T := .type "tuple") h1 (by omega) (fun f hm => ?_) (by rfl) ?_
  · obtain ⟨ns, b, o, its, n, rfl, k1, k2, _⟩ := h3 f hm
    have : PySem.W.Looks (model prog w) h' (typeOf (.ref b)) o.cls := (PySem.W.Looks.ld k1).andThen .now
    rw [k2] at this
    exact this
  · have e : (Value.type "tuple" != Value.type "tuple") = false := by first | decide +kernel | rfl | decide
    rw [e]
    exact hq
theorem collect_tup {l : Addr} {vs : List Value} {Q : List Value → Shared → Prop} (hl : s.heap.IsTuple l vs.toArray)
    (h : Q vs { s with heap := (s.heap.push (seqObj "list" #[] 0)).update s.heap.objs.size (Obj.mapSeq (· ++ vs.toArray)) }) (hsz : vs.length ≤ sizeLine) :
    wpAny (model prog w) A (collect (.ref l)) Q E s := by
  obtain ⟨o, ho, hc, n, hd⟩ := _root_.id hl
  unfold collect
  refine wpAny_bind (wpAny_runValue (codeAny_builtin entry_proto_collect' ?_))
  show wpAny _ _ (do again (.builtin "list.__iadd__" ⟨[← newList [], .ref l], []⟩)) _ _ s
  refine wpAny_bind (wpAny_newList (wpAny_pure ⟨Code.quiet_builtin _ (by decide +kernel), codeAny_builtin entry_list_iadd' ?_⟩))
  show wpAny _ _ (Builtin.List.listExtendWith (.ref s.heap.objs.size) (.ref l) (.ref s.heap.objs.size)) _ _ { s with heap := s.heap.push (seqObj "list" #[] 0) }
  unfold Builtin.List.listExtendWith
  have ho' : (s.heap.push (seqObj "list" #[] 0)).get? l = some o := Heap.get?_push_of_some _ ho
  refine wpAny_bind (wpAny_typeOf (T := "tuple") ⟨o, ho', hc⟩ ?_)
  have ht : (Value.type "tuple" == Value.type "tuple") = true := by rfl
  rw [if_pos (by rw [ht]; simp)]
  refine wpAny_bind (listItems_at ho' hd ?_)
  refine wpAny_bind (listItems_at (xs := #[]) (n := 0) (Heap.get?_push_size _ rfl) rfl ?_)
  rw [if_neg (by simp)]
  refine wpAny_bind (listUpdate_at (xs := #[]) (n := 0) (Heap.get?_push_size _ rfl) rfl ?_ (Nat.zero_le _) (by show (#[] ++ vs.toArray).size ≤ sizeLine + 1; simp only [Array.size_append, List.size_toArray, List.length_nil]; omega))
  refine wpAny_pure ?_
  show wpAny (model prog w) A (do
      let o ← load s.heap.objs.size
      match o.data with
      | .seq xs _ => pure xs.toList
      | _ => unsupported "internal:collect") Q E { s with heap := (s.heap.push (seqObj "list" #[] 0)).update s.heap.objs.size (Obj.mapSeq (· ++ vs.toArray)) }
  refine wpAny_bind (wpAny_load (get?_update_seq (Heap.get?_push_size _ rfl) _) ?_)
  show wpAny _ _ (pure ((#[] : Array Value) ++ vs.toArray).toList) Q E _
  rw [show ((#[] : Array Value) ++ vs.toArray).toList = vs by simp]
  exact wpAny_pure h
/-- sorted of a list or a tuple -/
theorem sorted_seq {l : Addr} {vs : List Value} {ltv : Value → Value → Bool} {Q : Value → Shared → Prop} (O : SrtO.Swo ltv) (hl : s.heap.IsList l vs.toArray ∨ s.heap.IsTuple l vs.toArray) (hz : vs.length ≤ sizeLine)
    (hS : 2 ≤ vs.length → ∀ (h₁ : Heap) (a : Addr), h₁.get? a = some (seqObj "list" vs.toArray 0) → (∀ b o, s.heap.get? b = some o → b ≠ a ∧ h₁.get? b = some o) → SrtO.SortableO prog w A.in1.in1 { s with heap := h₁ } a vs ltv)
    (h : ∀ out : List Value, SrtO.Srtd ltv out → SrtO.Stb ltv out vs → Q (.ref (s.heap.objs.size + 1)) { s with heap := sortedAll s.heap vs out.toArray }) :
    wpAny (model prog w) A (call (.builtin "sorted") [.ref l]) Q E s := by
  rcases hl with hl | hl
  · exact SrtO.sorted_ord O hl hz hS h
  refine Calls.call_function_entry kind_sorted plain_sorted entry_sorted (args_sorted1 _) ?_
  unfold Builtin.«sorted»
  refine wpAny_bind (m := checkCount "sorted" 1 1 _) (wpAny_pure ?_)
  refine wpAny_bind (collect_tup hl ?_ hz)
  refine wpAny_bind (wpAny_newList ?_ hz)
  have hsz : ((s.heap.push (seqObj "list" #[] 0)).update s.heap.objs.size (Obj.mapSeq (· ++ vs.toArray))).objs.size = s.heap.objs.size + 1 := by
    rw [Heap.size_update, size_push']
  have hoL : (((s.heap.push (seqObj "list" #[] 0)).update s.heap.objs.size (Obj.mapSeq (· ++ vs.toArray))).push (seqObj "list" vs.toArray 0)).get? (s.heap.objs.size + 1) = some (seqObj "list" vs.toArray 0) := by
    rw [← hsz]; exact Heap.get?_push_size _ rfl
  have keep : ∀ b o, s.heap.get? b = some o → b ≠ s.heap.objs.size + 1 ∧ (((s.heap.push (seqObj "list" #[] 0)).update s.heap.objs.size (Obj.mapSeq (· ++ vs.toArray))).push (seqObj "list" vs.toArray 0)).get? b = some o := fun b o q => by
    have hlt : b < s.heap.objs.size := Heap.lt_size q
    refine ⟨Nat.ne_of_lt (Nat.lt_succ_of_lt hlt), Heap.get?_push_of_some _ ?_⟩
    rw [Heap.get?_update_ne _ _ _ _ (Nat.ne_of_lt hlt)]
    exact Heap.get?_push_of_some _ q
  show wpAny _ _ _ _ _ { s with heap := ((s.heap.push (seqObj "list" #[] 0)).update s.heap.objs.size (Obj.mapSeq (· ++ vs.toArray))).push (seqObj "list" vs.toArray 0) }
  rw [hsz]
  refine wpAny_bind (wpAny_holding (wpAny_call_entry slot_list_sort ⟨_, hoL, rfl⟩ entry_list_sort (SrtO.list_sort_ord O hoL hz (fun h2 => hS h2 _ _ hoL keep) fun out hs hb => ⟨_, rfl, ?_⟩) (args_list_sort _)))
  exact wpAny_pure ⟨_, rfl, h out hs hb⟩
end
/-! ### as a rule -/
def IV (K : PySem.W.Frag) (F : Hp) (v : V) (ns : List Int) : Prop := ∃ t, v = .ref t ∧ SqT K F t (ns.map V.int)
def GV (K : PySem.W.Frag) (F : Hp) (v : V) (k : List (List Int)) : Prop := ∃ t ys, v = .ref t ∧ SqT K F t ys ∧ Paired (IV K F) ys k
def rSortG (K : PySem.W.Frag) : List V → Hp → VK → Prop := fun vs H Q => ∃ (F : Hp) (a : Addr), Sub F H ∧ vs = [V.ref a] ∧
  ((∃ ns : List Int, (SqL K H a (ns.map V.int) ∨ SqT K H a (ns.map V.int)) ∧ ∀ p, H p = none → Q (.ref p) (upd H p (.lst ((srtK ltI ns).map V.int)))) ∨
   (∃ xs ks, (SqL K H a xs ∨ SqT K H a xs) ∧ Paired (GV K F) xs ks ∧ (∀ k ∈ ks, k ≠ []) ∧ ∀ ys p, Paired (GV K F) ys (srtK ltG ks) → H p = none → Q (.ref p) (upd H p (.lst ys))))
section
variable {X : Cx}
theorem paired_isI {H F : Hp} {pins : List (Addr × Obj)} {sg : L2.St} {s : Shared} (I : Inv X pins sg H s) (sf : Sub F H) : ∀ {ys : List V} {k : List (List Int)} {us : List Value}, Paired (IV X.K F) ys k → Vals ys us → Paired (IsI s.heap) us k
  | _, _, _, .nil, .nil => .nil
  | _, _, _, .cons h t, .cons r rs => by
    obtain ⟨a, rfl, hs⟩ := h
    obtain rfl : _ = Value.ref a := r
    obtain ⟨its, rv, ⟨o, p1, p2, n, p3⟩, _⟩ := I.tuple (sf.sqt hs)
    exact .cons ⟨a, o, its.toArray, n, rfl, p1, p2, p3, by simpa using rv.ints⟩ (paired_isI I sf t rs)
theorem isG_of {H F : Hp} {pins : List (Addr × Obj)} {sg : L2.St} {s : Shared} (I : Inv X pins sg H s) (sf : Sub F H) {v : V} {k : List (List Int)} {u : Value} (h : GV X.K F v k) (r : RelV v u) : IsG s.heap u k := by
  obtain ⟨a, ys, rfl, hs, hp⟩ := h
  obtain rfl : u = Value.ref a := r
  obtain ⟨its, rv, ⟨o, p1, p2, n, p3⟩, _⟩ := I.tuple (sf.sqt hs)
  exact ⟨a, o, its.toArray, n, rfl, p1, p2, p3, by simpa using paired_isI I sf hp rv⟩
theorem paired_mem {α β : Type} {R : α → β → Prop} : ∀ {l : List α} {m : List β}, Paired R l m → ∀ x ∈ l, ∃ y ∈ m, R x y
  | _, _, .nil, _, h => nomatch h
  | _, _, .cons h t, x, hx => by
    rcases List.mem_cons.mp hx with e | hx
    · subst e; exact ⟨_, List.mem_cons_self, h⟩
    · obtain ⟨y, h1, h2⟩ := paired_mem t x hx
      exact ⟨y, List.mem_cons_of_mem _ h1, h2⟩
theorem paired_map {α β : Type} {R : α → β → Prop} {f : α → β} : ∀ {l : List α}, (∀ x ∈ l, R x (f x)) → Paired R l (l.map f)
  | [], _ => .nil
  | x :: l, h => .cons (h x List.mem_cons_self) (paired_map fun y hy => h y (List.mem_cons_of_mem _ hy))
theorem paired_map2 {α β γ : Type} {R : α → β → Prop} {g : γ → α} : ∀ {l : List γ} {m : List β}, Paired R (l.map g) m ↔ Paired (fun a b => R (g a) b) l m
  | [], m => by constructor <;> (intro h; cases h; exact .nil)
  | x :: l, m => by
    constructor
    · intro h
      cases h with
      | cons a b => exact .cons a (paired_map2.mp b)
    · intro h
      cases h with
      | cons a b => exact .cons a (paired_map2.mpr b)
theorem cr_sortG (hu : X.A.units + 10 < cLine) : CallR X (.builtin "sorted") (rSortG X.K) := by
  intro pins s sg H vs us Q I r h
  obtain ⟨F, a, sf, rfl, h⟩ := h
  obtain ⟨u, rfl, ru⟩ := vals1 r
  obtain rfl : u = Value.ref a := ru
  rcases h with ⟨ns, hs, q⟩ | ⟨xs, ks, hs, hp, hne, q⟩
  · obtain ⟨its, rv, hl, hz⟩ : ∃ its, Vals (ns.map V.int) its ∧ (s.heap.IsList a its.toArray ∨ s.heap.IsTuple a its.toArray) ∧ (ns.map V.int).length ≤ sizeLine := by
      rcases hs with hs | hs
      · obtain ⟨its, rv, hl, hz⟩ := I.list hs; exact ⟨its, rv, .inl hl.isList, hz⟩
      · obtain ⟨its, rv, hl, hz⟩ := I.tuple hs; exact ⟨its, rv, .inr hl, hz⟩
    have hi := rv.ints
    refine sorted_seq SrtO.swo_int hl (by rw [← rv.length]; exact hz) (fun h2 h₁ a' _ _ => SrtO.ints_sortable hi h2) fun out h1 h2 => ?_
    obtain ⟨k1, k2, k3⟩ := SrtO.ints_out hi h1 h2
    have e : out.map SrtO.iv = srtK ltI ns := srtK_uniq lin_int (k3.imp fun {x y} h => by simp only [ltI, decide_eq_false_iff_not]; omega) k2
    obtain ⟨ep, he'⟩ := PyProof.Rows.sortedAll_at s.heap its out.toArray
    have hlen : ((out.map SrtO.iv).map V.int).length ≤ sizeLine := by
      rw [List.length_map, k2.length_eq]
      rw [List.length_map] at hz
      exact hz
    have := q (s.heap.objs.size + 1) (I.hok.fresh (Nat.le_succ _))
    rw [← e] at this
    exact ⟨.ref _, upd H (s.heap.objs.size + 1) (.lst ((out.map SrtO.iv).map V.int)), I.laid (t' := s.toks) (fun _ _ => PyProof.Rows.sortedAll_old) (Nat.le_succ _) ⟨hlen, out, ep, vals_of_ints k1, he'⟩, rfl, this⟩
  · obtain ⟨its, rv, hl, hz⟩ : ∃ its, Vals xs its ∧ (s.heap.IsList a its.toArray ∨ s.heap.IsTuple a its.toArray) ∧ xs.length ≤ sizeLine := by
      rcases hs with hs | hs
      · obtain ⟨its, rv, hl, hz⟩ := I.list hs; exact ⟨its, rv, .inl hl.isList, hz⟩
      · obtain ⟨its, rv, hl, hz⟩ := I.tuple hs; exact ⟨its, rv, .inr hl, hz⟩
    obtain ⟨e1, e2⟩ := refs_back rv fun x m => by
      obtain ⟨y, _, t, _, e, _⟩ := paired_mem hp x m
      exact ⟨t, e⟩
    subst e1
    have hp2 := paired_map2.mp hp
    have hex : ∀ u ∈ its, ∃ k, GV X.K F (backV u) k := fun u hu => by
      obtain ⟨y, _, h⟩ := paired_mem hp2 u hu
      exact ⟨y, h⟩
    let key : Value → List (List Int) := fun u => open Classical in if h : ∃ k, GV X.K F (backV u) k then Classical.choose h else []
    have hkey : ∀ u ∈ its, GV X.K F (backV u) (key u) := fun u hu => by
      have h := hex u hu
      have e : key u = Classical.choose h := dif_pos h
      rw [e]
      exact Classical.choose_spec h
    have rel : ∀ u ∈ its, RelV (backV u) u := fun u hu => by
      obtain ⟨t, rfl⟩ := e2 u hu
      rfl
    have hks : ks = its.map key := by
      have a1 : Paired (fun u k => u ∈ its ∧ GV X.K F (backV u) k) its ks := by
        have gen : ∀ {l : List Value} {m : List (List (List Int))}, Paired (fun a b => GV X.K F (backV a) b) l m → (∀ u ∈ l, u ∈ its) → Paired (fun u k => u ∈ its ∧ GV X.K F (backV u) k) l m := by
          intro l m h
          induction h with
          | nil => intro _; exact .nil
          | cons h t ih => intro hm; exact .cons ⟨hm _ List.mem_cons_self, h⟩ (ih fun u hu => hm u (List.mem_cons_of_mem _ hu))
        exact gen hp2 fun _ h => h
      have a2 : Paired (fun u k => u ∈ its ∧ GV X.K F (backV u) k) its (its.map key) := paired_map fun u hu => ⟨hu, hkey u hu⟩
      exact paired_inj (fun u k k' h h' => (isG_of I sf h.2 (rel u h.1)).inj (isG_of I sf h'.2 (rel u h'.1))) a1 a2
    have hG : ∀ v ∈ its, IsG s.heap v (key v) ∧ key v ≠ [] := fun v hv => ⟨isG_of I sf (hkey v hv) (rel v hv), hne _ (by rw [hks]; exact List.mem_map.mpr ⟨v, hv, rfl⟩)⟩
    have O : SrtO.Swo fun v u : Value => ltG (key v) (key u) := ⟨fun x y h => lin_G.asym _ _ h, fun x y z h k => lin_G.swo.tr _ _ _ h k⟩
    refine sorted_seq O hl (by rw [← rv.length]; exact hz) (fun h2 h₁ a' ha' kk => ?_) fun out h1 h2 => ?_
    · refine g_sortable (s := { s with heap := h₁ }) (by show X.A.units + 1 + 1 < cLine; omega) (by omega) (fun v hm => ⟨(hG v hm).1.keeps fun b o e _ => (kk b o e).2, (hG v hm).2⟩) fun o e => ?_
      have e' : some o = some (seqObj "list" its.toArray 0) := e.symm.trans ha'
      cases e'
      intro c
      exact absurd (Value.type.inj c) (by decide)
    · have h3 : ∀ u ∈ out, ∃ a, u = Value.ref a := fun u hu => e2 u (h2.perm.mem_iff.mp hu)
      obtain ⟨ep, he'⟩ := PyProof.Rows.sortedAll_at s.heap its out.toArray
      have hsd : SrtO.Srtd ltG (out.map key) := List.pairwise_map.mpr h1
      have hpm : (out.map key).Perm ks := by rw [hks]; exact h2.perm.map key
      have ek := srtK_uniq lin_G hsd hpm
      have hpd : Paired (GV X.K F) (out.map backV) (srtK ltG ks) := by
        rw [← ek]
        refine paired_map2.mpr ?_
        exact paired_map fun u hu => hkey u (h2.perm.mem_iff.mp hu)
      refine ⟨.ref (s.heap.objs.size + 1), upd H (s.heap.objs.size + 1) (.lst (out.map backV)), I.laid (t' := s.toks) (fun _ _ => PyProof.Rows.sortedAll_old) (Nat.le_succ _) ⟨?_, out, ep, vals_back h3, he'⟩, rfl, q _ _ hpd (I.hok.fresh (Nat.le_succ _))⟩
      rw [List.length_map, h2.perm.length_eq]
      rw [List.length_map] at hz
      exact hz
end
section
variable {X : Cx} {d : Wd} {C : CallT} {W : WX} {pos px px2 : Pos} {x : Str} {F : Hp} {io : List Addr}
theorem iv_of {x : D} {v : V} {ns : List Int} (r : Rep d F io x v) (h : iK x = some ns) : IV d.K F v ns := by
  cases x with
  | tup l =>
    simp only [iK] at h
    obtain ⟨a, vs, rfl, h1, h2⟩ := rep_tup r
    exact ⟨a, rfl, by rw [← intsD_reps h h2]; exact h1⟩
  | _ => simp only [iK] at h; cases h
theorem ivs_of : ∀ {l : List D} {vs : List V} {k : List (List Int)}, Reps d F io l vs → iKs l = some k → Paired (IV d.K F) vs k
  | [], vs, k, r, h => by simp only [iKs, Option.some.injEq] at h; subst h; simp only [Reps] at r; subst r; exact .nil
  | x :: l, vs, k, r, h => by
    simp only [iKs] at h
    obtain ⟨a, h1, h2⟩ := Option.bind_eq_some_iff.mp h
    obtain ⟨b, h3, rfl⟩ := Option.map_eq_some_iff.mp h2
    simp only [Reps] at r
    obtain ⟨v, vs', rfl, r1, r2⟩ := r
    exact .cons (iv_of r1 h1) (ivs_of r2 h3)
theorem gv_of {x : D} {v : V} {k : List (List Int)} (r : Rep d F io x v) (h : gK x = some k) : GV d.K F v k := by
  cases x with
  | tup l =>
    simp only [gK] at h
    obtain ⟨a, vs, rfl, h1, h2⟩ := rep_tup r
    exact ⟨a, vs, rfl, h1, ivs_of h2 h⟩
  | _ => simp only [gK] at h; cases h
theorem gvs_of : ∀ {l : List D} {vs : List V} {k : List (List (List Int))}, Reps d F io l vs → gKs l = some k → Paired (GV d.K F) vs k
  | [], vs, k, r, h => by simp only [gKs, Option.some.injEq] at h; subst h; simp only [Reps] at r; subst r; exact .nil
  | x :: l, vs, k, r, h => by
    simp only [gKs] at h
    obtain ⟨a, h1, h2⟩ := Option.bind_eq_some_iff.mp h
    obtain ⟨b, h3, rfl⟩ := Option.map_eq_some_iff.mp h2
    simp only [Reps] at r
    obtain ⟨v, vs', rfl, r1, r2⟩ := r
    exact .cons (gv_of r1 h1) (gvs_of r2 h3)
theorem reps_ints : ∀ ns : List Int, Reps d F io (ns.map .int) (ns.map V.int)
  | [] => Reps.nil
  | i :: ns => Reps.cons (by simp only [Rep]) (reps_ints ns)
theorem rep_iv {v : V} {ns : List Int} (h : IV d.K F v ns) : Rep d F io (iD ns) v := by
  obtain ⟨a, rfl, h1⟩ := h
  exact rep_tup' h1 (reps_ints ns)
theorem reps_iv : ∀ {vs : List V} {k : List (List Int)}, Paired (IV d.K F) vs k → Reps d F io (k.map iD) vs
  | _, _, .nil => Reps.nil
  | _, _, .cons h t => Reps.cons (rep_iv h) (reps_iv t)
theorem rep_gv {v : V} {k : List (List Int)} (h : GV d.K F v k) : Rep d F io (gD k) v := by
  obtain ⟨a, ys, rfl, h1, h2⟩ := h
  exact rep_tup' h1 (reps_iv h2)
theorem reps_gv : ∀ {vs : List V} {k : List (List (List Int))}, Paired (GV d.K F) vs k → Reps d F io (k.map gD) vs
  | _, _, .nil => Reps.nil
  | _, _, .cons h t => Reps.cons (rep_gv h) (reps_gv t)
theorem f_srt {a : P} {e : Expr} (hu : X.A.units + 10 < cLine) (hK : X.K = d.K) (hg : Gl X "sorted") (hm : X.mg "sorted" = none) (hn : nst e = true) (h : PE X e (tqI d C W a)) : PE X (.Call (.Name "sorted" px) [e] [] pos) (tfI d C W (.srt a)) := by
  refine PE_imp (pe_callB (cr_sortG hu) hg hm (by decide +kernel) (a_one h hn) (by decide) (by decide) (star_ns hn) rfl) fun sg H Q h => ?_
  obtain ⟨F, io, e, M, rl, h⟩ := tfI_eq.mp h
  simp only [ev] at h
  refine ⟨F, io, e, M, rl, (h.bind (RQ d)).mono fun v H1 m => ?_⟩
  obtain ⟨F1, io1, M1, x, x1, s1, c1, q1, h1⟩ := m
  obtain ⟨y, e1, h2⟩ := h1.oR
  obtain ⟨l, e2, rfl⟩ := Option.map_eq_some_iff.mp e1
  obtain ⟨p, vs, rfl, k1, k2⟩ := q1.seq s1
  unfold srtO at e2
  refine ⟨F1, p, s1, rfl, ?_⟩
  rw [hK]
  split at e2
  · rename_i ns hns
    simp only [Option.some.injEq] at e2; subst e2
    rw [intsD_reps hns k2] at k1
    exact .inl ⟨ns, k1.symm, fun q hq => h2.new s1 c1 hq (reps_ints _)⟩
  · obtain ⟨ks, e3, e4⟩ := Option.bind_eq_some_iff.mp e2
    split at e4
    · rename_i hall
      simp only [Option.some.injEq] at e4; subst e4
      refine .inr ⟨vs, ks, k1.symm, gvs_of k2 e3, fun k hk => ?_, fun ys q hy hq => h2.new s1 c1 hq (reps_gv hy)⟩
      have := List.all_eq_true.mp hall k hk
      intro z; subst z; cases this
    · cases e4
theorem z_srt {l : P} (e : Env) (M : Sto) (x : D) (M' : Sto) (h : ev d.T C (.srt l) e M = .ok x M') : ∃ l, x = .lst l := by
  simp only [ev] at h
  obtain ⟨a, M1, _, h⟩ := ok_of_bind h
  generalize srtO a.2.2 = o at h
  cases o with
  | none => cases h
  | some l => cases h; exact ⟨l, rfl⟩
end
end Rb

/-! RbIter: what is walked: lists and tuples, ranges, enumerate, zip. Own work. -/
namespace Rb
open PySem PySem.Spec PyProof.Rows L2
/-! ### a list or a tuple -/
def IsB (b : Bool) (h : Heap) (a : Addr) (items : Array Value) : Prop := match b with | true => h.IsTuple a items | false => h.IsList a items
def ItOf (b : Bool) (h : Heap) (it a : Addr) (i : Nat) : Prop := match b with | true => h.IsTupleIter it a i | false => h.IsListIter it a i
def SqB (K : PySem.W.Frag) (b : Bool) (H : Hp) (a : Addr) (xs : List V) : Prop := match b with | true => SqT K H a xs | false => SqL K H a xs
def itObj (b : Bool) (a : Addr) : Obj := { cls := .type (if b then "tuple_iterator" else "list_iterator"), data := .fields #[.ref a, .int 0 0] }
def ItS (K : PySem.W.Frag) (b : Bool) (a : Addr) : It := match b with | true => Itt K a | false => Itl K a
section
variable {b : Bool} {h h' : Heap} {a it : Addr} {items : Array Value} {i : Nat}
theorem IsB.lt (x : IsB b h a items) : a < h.objs.size := by cases b <;> (obtain ⟨o, ho, _⟩ := x; exact Heap.lt_size ho)
theorem IsB.push (x : IsB b h a items) (o : Obj) : IsB b (h.push o) a items := by cases b <;> (obtain ⟨u, ho, r⟩ := x; exact ⟨u, Heap.get?_push_of_some _ ho, r⟩)
theorem ItOf.at (x : ItOf b h it a i) (k : ∀ o, h.get? it = some o → h'.get? it = some o) : ItOf b h' it a i := by
  cases b
  · exact Heap.IsListIter.at x k
  · exact Heap.IsTupleIter.at x k
theorem ItOf.obj (x : ItOf b h it a i) : ∃ o, h.get? it = some o ∧ ∀ v, o.data ≠ .cell v := by cases b <;> (obtain ⟨o, e, _, d⟩ := x; exact ⟨o, e, fun v q => by rw [d] at q; cases q⟩)
theorem ItOf.new : ItOf b (h.push (itObj b a)) h.objs.size a 0 := by cases b <;> exact ⟨_, Heap.get?_push_size _ rfl, rfl, rfl⟩
theorem ItOf.push (x : ItOf b h it a i) (o : Obj) : ItOf b (h.push o) it a i := x.at fun u e => Heap.get?_push_of_some _ e
end
section
variable {prog : Program} {w : World} {A : Around} {E : Value → Shared → Prop} {s : Shared}
theorem draws_b (b : Bool) (hh : A.handled = none) (it a : Addr) (hne : a ≠ it) (items : Array Value) : Draws prog w A it [it, a] items.size (fun i v => items[i]? = some v) (fun i h => ItOf b h it a i ∧ IsB b h a items) := by
  cases b
  · exact Draws.list hh it a hne items
  · exact Draws.tuple hh it a hne items
theorem iter_b {b : Bool} {a : Addr} {items : Array Value} {Q : Value → Shared → Prop} (hl : IsB b s.heap a items) (h : Q (.ref s.heap.objs.size) { s with heap := s.heap.push (itObj b a) }) : wpAny (model prog w) A (pyIter (.ref a)) Q E s := by
  cases b
  · exact wpAny_pyIter_list hl h
  · exact wpAny_pyIter_tuple hl h
/-- a new enumerate -/
theorem meets_enum (b : Bool) (l : Addr) (items : Array Value) :
    Meets (Builtin.«enumerate.__new__» ⟨[.type "enumerate", .ref l], []⟩) (fun _ R s => IsB b s.heap l items ∧
      R (.ok (.ret (.ref (s.heap.push (itObj b l)).objs.size)))
        { s with heap := (s.heap.push (itObj b l)).push { cls := .type "enumerate", data := .fields #[.none, .bool false, .ref s.heap.objs.size, rawInt 0, .none, .none] } }) :=
  .of_wp fun prog w A R s h => by
    obtain ⟨hp, g, d, tk, os⟩ := s; obtain ⟨hl, h⟩ := h
    have hsub := sub_enumerate
    have hL : IsB b (Shared.heap ⟨hp, g, d, tk, os⟩) l items := hl
    wp_walk
    refine wpAny_stack_any fun st => wpAny_pure ?_
    split
    · rename_i c _ _ _ _ _
      cases (c == Value.type "enumerate")
      · wp_walk using iter_b hL
        exact ⟨_, rfl, h⟩
      · wp_walk using iter_b hL
        exact ⟨_, rfl, h⟩
    · wp_walk using iter_b hL
      exact ⟨_, rfl, h⟩
theorem call_enum {b : Bool} {l : Addr} {items : Array Value} {Q : Value → Shared → Prop} (hL : IsB b s.heap l items)
    (h : ∀ h', IsEnum h' (s.heap.objs.size + 1) s.heap.objs.size 0 .none → ItOf b h' s.heap.objs.size l 0 → (∀ b o, s.heap.get? b = some o → h'.get? b = some o) → Q (.ref (s.heap.objs.size + 1)) { s with heap := h' }) :
    wpAny (model prog w) A (call (.type "enumerate") [.ref l]) Q E s := by
  refine callType_new F.called_enumerate (by decide) (F.typeCall_enumerate_1 _) (F.newCall_enumerate_1 _) (fun obj => F.args_object_init_2 obj _) F.entry_enumerate_new
    (meets_enum b l items) ⟨hL, ?_⟩
  have hz : (s.heap.push (itObj b l)).objs.size = s.heap.objs.size + 1 := Heap.size_push ..
  show _ ∧ _
  rw [hz]
  have he : IsEnum ((s.heap.push (itObj b l)).push { cls := .type "enumerate", data := .fields #[.none, .bool false, .ref s.heap.objs.size, rawInt 0, .none, .none] }) (s.heap.objs.size + 1) s.heap.objs.size 0 .none := by
    have := Heap.get?_push_size (s.heap.push (itObj b l)) (o := { cls := .type "enumerate", data := .fields #[.none, .bool false, .ref s.heap.objs.size, rawInt 0, .none, .none] }) rfl
    rw [hz] at this; exact this
  exact ⟨⟨_, he, rfl⟩, h _ he (ItOf.new.push _) fun b o x => Heap.get?_push_of_some _ (Heap.get?_push_of_some _ x)⟩
/-- a new zip -/
def zh1 (h : Heap) (b1 : Bool) (l1 : Addr) : Heap := h.push (itObj b1 l1)
def zh2 (h : Heap) (b1 b2 : Bool) (l1 l2 : Addr) : Heap := (zh1 h b1 l1).push (itObj b2 l2)
def zh3 (h : Heap) (b1 b2 : Bool) (l1 l2 : Addr) : Heap := (zh2 h b1 b2 l1 l2).push { cls := .type "tuple", data := .seq #[.ref h.objs.size, .ref (zh1 h b1 l1).objs.size] }
def zh4 (h : Heap) (b1 b2 : Bool) (l1 l2 : Addr) : Heap := (zh3 h b1 b2 l1 l2).push { cls := .type "tuple", data := .seq #[.none, .none] }
def zh5 (h : Heap) (b1 b2 : Bool) (l1 l2 : Addr) : Heap := (zh4 h b1 b2 l1 l2).push { cls := .type "zip", data := .fields #[.none, .bool false, .bool false, .ref (zh2 h b1 b2 l1 l2).objs.size, .ref (zh3 h b1 b2 l1 l2).objs.size] }
theorem meets_zip (b1 b2 : Bool) (l1 l2 : Addr) (xs ys : Array Value) :
    Meets (Builtin.«zip.__new__» ⟨[.type "zip", .ref l1, .ref l2], []⟩) (fun _ R s => IsB b1 s.heap l1 xs ∧ IsB b2 s.heap l2 ys ∧
      R (.ok (.ret (.ref (zh4 s.heap b1 b2 l1 l2).objs.size))) { s with heap := zh5 s.heap b1 b2 l1 l2 }) :=
  .of_wp fun prog w A R s h => by
    obtain ⟨hp, g, d, tk, os⟩ := s; obtain ⟨hl1, hl2, h⟩ := h
    have hsub := sub_zip
    have hL1 : IsB b1 (Shared.heap ⟨hp, g, d, tk, os⟩) l1 xs := hl1
    have hL2 : IsB b2 (Shared.heap ⟨hp.push (itObj b1 l1), g, d, tk, os⟩) l2 ys := IsB.push hl2 _
    wp_walk using iter_b hL1, iter_b hL2
    exact ⟨_, rfl, h⟩
theorem call_zipB {b1 b2 : Bool} {l1 l2 : Addr} {xs ys : Array Value} {Q : Value → Shared → Prop} (hl1 : IsB b1 s.heap l1 xs) (hl2 : IsB b2 s.heap l2 ys)
    (h : ∀ h', IsZip h' (s.heap.objs.size + 4) (s.heap.objs.size + 2) (s.heap.objs.size + 3) .none → IsPair h' (s.heap.objs.size + 2) (.ref s.heap.objs.size) (.ref (s.heap.objs.size + 1)) →
      IsPair h' (s.heap.objs.size + 3) .none .none → ItOf b1 h' s.heap.objs.size l1 0 → ItOf b2 h' (s.heap.objs.size + 1) l2 0 →
      (∀ c o, s.heap.get? c = some o → h'.get? c = some o) → Q (.ref (s.heap.objs.size + 4)) { s with heap := h' }) :
    wpAny (model prog w) A (call (.type "zip") [.ref l1, .ref l2]) Q E s := by
  refine callType_new F.called_zip (by decide) (F.typeCall_zip_2 _ _) (F.newCall_zip_2 _ _) (fun obj => F.args_object_init_3 obj _ _) F.entry_zip_new
    (meets_zip b1 b2 l1 l2 xs ys) ⟨hl1, hl2, ?_⟩
  have z1 : (zh1 s.heap b1 l1).objs.size = s.heap.objs.size + 1 := Heap.size_push ..
  have z2 : (zh2 s.heap b1 b2 l1 l2).objs.size = s.heap.objs.size + 2 := by rw [zh2, Heap.size_push, z1]
  have z3 : (zh3 s.heap b1 b2 l1 l2).objs.size = s.heap.objs.size + 3 := by rw [zh3, Heap.size_push, z2]
  have z4 : (zh4 s.heap b1 b2 l1 l2).objs.size = s.heap.objs.size + 4 := by rw [zh4, Heap.size_push, z3]
  have g1 : ItOf b1 (zh5 s.heap b1 b2 l1 l2) s.heap.objs.size l1 0 := (((ItOf.new.push _).push _).push _).push _
  have g2 : ItOf b2 (zh5 s.heap b1 b2 l1 l2) (s.heap.objs.size + 1) l2 0 := by
    have : ItOf b2 (zh5 s.heap b1 b2 l1 l2) (zh1 s.heap b1 l1).objs.size l2 0 := ((ItOf.new.push _).push _).push _
    rw [z1] at this; exact this
  have g3 : IsPair (zh5 s.heap b1 b2 l1 l2) (s.heap.objs.size + 2) (.ref s.heap.objs.size) (.ref (s.heap.objs.size + 1)) := by
    have : (zh5 s.heap b1 b2 l1 l2).get? (zh2 s.heap b1 b2 l1 l2).objs.size = some { cls := .type "tuple", data := .seq #[.ref s.heap.objs.size, .ref (zh1 s.heap b1 l1).objs.size] } := Heap.get?_push_of_some _ (Heap.get?_push_of_some _ (Heap.get?_push_size _ rfl))
    rw [z1, z2] at this; exact this
  have g4 : IsPair (zh5 s.heap b1 b2 l1 l2) (s.heap.objs.size + 3) .none .none := by
    have : (zh5 s.heap b1 b2 l1 l2).get? (zh3 s.heap b1 b2 l1 l2).objs.size = some { cls := .type "tuple", data := .seq #[.none, .none] } := Heap.get?_push_of_some _ (Heap.get?_push_size _ rfl)
    rw [z3] at this; exact this
  have g5 : IsZip (zh5 s.heap b1 b2 l1 l2) (s.heap.objs.size + 4) (s.heap.objs.size + 2) (s.heap.objs.size + 3) .none := by
    have : (zh5 s.heap b1 b2 l1 l2).get? (zh4 s.heap b1 b2 l1 l2).objs.size = some { cls := .type "zip", data := .fields #[.none, .bool false, .bool false, .ref (zh2 s.heap b1 b2 l1 l2).objs.size, .ref (zh3 s.heap b1 b2 l1 l2).objs.size] } := Heap.get?_push_size _ rfl
    rw [z2, z3, z4] at this; exact this
  show _ ∧ _
  rw [z4]
  exact ⟨⟨_, g5, rfl⟩, h _ g5 g3 g4 g1 g2 fun c o x => Heap.get?_push_of_some _ (Heap.get?_push_of_some _ (Heap.get?_push_of_some _ (Heap.get?_push_of_some _ (Heap.get?_push_of_some _ x))))⟩
end
theorem inv_sq {X : Cx} {pins : List (Addr × Obj)} {sg : L2.St} {H : Hp} {s : Shared} {b : Bool} {a : Addr} {xs : List V} (I : Inv X pins sg H s) (h : SqB X.K b H a xs) : ∃ its, Vals xs its ∧ IsB b s.heap a its.toArray := by
  cases b
  · obtain ⟨its, rv, p, _⟩ := I.list h; exact ⟨its, rv, p.isList⟩
  · obtain ⟨its, rv, p, _⟩ := I.tuple h; exact ⟨its, rv, p⟩
theorem inv_sq_inj {X : Cx} {pins : List (Addr × Obj)} {sg : L2.St} {H : Hp} {s : Shared} {b : Bool} {a : Addr} {xs ys : List V} (I : Inv X pins sg H s) (h : SqB X.K b H a xs) (h' : SqB X.K b H a ys) : xs = ys := by
  cases b
  · exact I.list_inj h h'
  · exact I.tuple_inj h h'
/-- enumerate: the sequence as it stands at each turn, each item in a new pair -/
def ItE (K : PySem.W.Frag) (b : Bool) (a : Addr) : It :=
  ⟨fun i H => ∃ (xs : List V) (x : V), SqB K b H a xs ∧ xs[i]? = some x, fun i H v H' => ∃ T x, v = .ref T ∧ H T = none ∧ H' = upd H T (.tup [.int (i : Nat), x]) ∧ ∀ xs, SqB K b H a xs → xs[i]? = some x, fun i H => ∃ xs : List V, SqB K b H a xs ∧ xs.length = i⟩
theorem turn_enumB {P : Program} {w : World} {K : PySem.W.Frag} {elts : List Expr} {kk : Nat} {tpos : Pos} (b : Bool) (a e it : Addr) (h1 : e ≠ it) (h2 : a ≠ it) (h3 : a ≠ e) :
    Turn P w K (.Tuple elts kk tpos) (ItE K b a) [e, it] e (fun i h => (∃ old, IsEnum h e it ((i : Nat) : Int) old) ∧ ItOf b h it a i) where
  mem := by simp
  obj := fun i h st c hc => by
    obtain ⟨⟨old, he⟩, hi⟩ := st
    have e' : c = e ∨ c = it := by simpa using hc
    rcases e' with z | z
    · rw [z]; exact ⟨_, he, fun v q => nomatch q⟩
    · rw [z]; exact hi.obj
  keep := fun i h h' st k => let ⟨⟨old, he⟩, hi⟩ := st; ⟨⟨old, k e (by simp) _ he⟩, hi.at fun o q => k it (by simp) o q⟩
  item := by
    intro X hP hw hK hc i pins s σ H E I hf st hg
    subst hP hw hK
    obtain ⟨⟨old, he⟩, hit⟩ := st
    obtain ⟨xs, x, hq, hx⟩ := hg
    obtain ⟨its, rv, p⟩ := inv_sq I hq
    obtain ⟨u, hu, ru⟩ := rv.get hx
    have hel : e < s.heap.objs.size := Heap.lt_size he
    have hil : it < s.heap.objs.size := by obtain ⟨o, q, _⟩ := hit.obj; exact Heap.lt_size q
    have hlt : i < its.toArray.size := by
      have := (List.getElem?_eq_some_iff.mp hu).1
      simpa using this
    refine wpAny_pyNext_enum_itemD (draws_b (prog := X.prog) (w := X.w) (A := X.A.in1) b (I.ok.hd hc) it a h2 its.toArray) he ⟨hit, p⟩ hlt h1 (by simp [h1, Ne.symm h3]) fun y h' tk hP ho hst hT hsz hk => ?_
    have hP' : its.toArray[i]? = some y := hP
    have ey : y = u := by rw [show its.toArray[i]? = its[i]? by simp, hu] at hP'; exact (Option.some.inj hP').symm
    subst ey
    refine ⟨_, rfl, wpAny_letOwnedTupleGo_enum (s := { s with heap := h', toks := tk + 1 }) ho fun h'' he' sb => ?_⟩
    have hT2 : h''.get? s.heap.objs.size = some { cls := .type "tuple", data := .seq #[.int i tk, y] } := (sb.2 _ (Nat.ne_of_gt hel)).trans hT
    have new : ObjOk X.prog X.w (upd H s.heap.objs.size (.tup [.int (i : Nat), x])) h'' s.heap.objs.size (.tup [.int (i : Nat), x]) :=
      ⟨by show 2 ≤ sizeLine; decide, [.int i tk, y], .cons ⟨_, rfl⟩ (.cons ru .nil), ⟨_, hT2, rfl, _, rfl⟩⟩
    have I1 : Inv X pins σ (upd H s.heap.objs.size (.tup [.int (i : Nat), x])) { s with heap := h'', toks := tk + 1 } :=
      I.turnedNew (ch := [e, it]) (fun c ob hb q => (sb.2 c (fun z => hb (by simp [z]))).trans (hk c ob (fun z => hb (by simp [z])) (fun z => hb (by simp [z])) q)) hf (Nat.le_refl _) new
    refine ⟨.ref s.heap.objs.size, _, I1, rfl, ⟨_, x, rfl, I.hok.fresh (Nat.le_refl _), rfl, fun ys hy => by rw [inv_sq_inj I hy hq]; exact hx⟩, ⟨⟨y, ?_⟩, hst.1.at fun o q => (sb.2 it (Ne.symm h1)).trans q⟩, fun c hb => ?_⟩
    · have e1 : ((i + 1 : Nat) : Int) = (i : Int) + 1 := by omega
      rw [e1]; exact he'
    · have hb' : c < s.heap.objs.size := by
        have e' : c = e ∨ c = it := by simpa using hb
        rcases e' with z | z
        · rw [z]; exact hel
        · rw [z]; exact hil
      rw [upd_ne (Nat.ne_of_lt hb')]
      exact (hf c hb).1
  done := by
    intro X hP hw hK hc i pins s σ H E I hf st hg
    subst hP hw hK
    obtain ⟨⟨old, he⟩, hit⟩ := st
    obtain ⟨xs, hq, hx⟩ := hg
    obtain ⟨its, rv, p⟩ := inv_sq I hq
    obtain ⟨f0, f1, f2, f3, f4, f5⟩ := hf it (by simp)
    have hl : i = its.toArray.size := by rw [← hx, rv.length]; simp
    subst hl
    exact wpAny_pyNext_enum_endD (draws_b (prog := X.prog) (w := X.w) (A := X.A.in1) b (I.ok.hd hc) it a h2 its.toArray) he ⟨hit, p⟩ fun h' eb => ⟨rfl, I.turned (t' := s.toks) (fun b o hb q => eb b o hb q) f0 f1 f3 f4 f5⟩
  self := fun A i s Q E st h => let ⟨⟨_, he⟩, _⟩ := st; wpAny_pyIter_enum he h
/-- zip -/
def ItZ (K : PySem.W.Frag) (b1 b2 : Bool) (a1 a2 : Addr) : It :=
  ⟨fun i H => ∃ (xs ys : List V) (x y : V), SqB K b1 H a1 xs ∧ SqB K b2 H a2 ys ∧ xs[i]? = some x ∧ ys[i]? = some y,
    fun i H v H' => ∃ T x y, v = .ref T ∧ H T = none ∧ H' = upd H T (.tup [x, y]) ∧ (∀ xs, SqB K b1 H a1 xs → xs[i]? = some x) ∧ ∀ ys, SqB K b2 H a2 ys → ys[i]? = some y,
    fun i H => ∃ xs ys : List V, SqB K b1 H a1 xs ∧ SqB K b2 H a2 ys ∧ i = min xs.length ys.length⟩
theorem turn_zipB {P : Program} {w : World} {K : PySem.W.Frag} {elts : List Expr} {kk : Nat} {tpos : Pos} {b1 b2 : Bool} {a1 a2 z TI TO i1 i2 : Addr} (D : ZipSep2 z TI TO i1 i2 [i1, a1] [i2, a2]) (n1 : a1 ≠ i1) (n2 : a2 ≠ i2) :
    Turn P w K (.Tuple elts kk tpos) (ItZ K b1 b2 a1 a2) [z, TI, TO, i1, i2] z (fun i h => IsZip h z TI TO .none ∧ IsTupOf2 h TI (.ref i1) (.ref i2) ∧ (∃ x y, IsTupOf2 h TO x y) ∧ ItOf b1 h i1 a1 i ∧ ItOf b2 h i2 a2 i) where
  mem := by simp
  obj := fun i h st c hc => by
    obtain ⟨hz, hTI, ⟨x, y, hTO⟩, h1, h2⟩ := st
    have e' : c = z ∨ c = TI ∨ c = TO ∨ c = i1 ∨ c = i2 := by simpa using hc
    rcases e' with q | q | q | q | q
    · rw [q]; exact ⟨_, hz, fun v q => nomatch q⟩
    · rw [q]; exact ⟨_, hTI, fun v q => nomatch q⟩
    · rw [q]; exact ⟨_, hTO, fun v q => nomatch q⟩
    · rw [q]; exact h1.obj
    · rw [q]; exact h2.obj
  keep := fun i h h' st k => by
    obtain ⟨hz, hTI, ⟨x, y, hTO⟩, h1, h2⟩ := st
    exact ⟨k z (by simp) _ hz, k TI (by simp) _ hTI, ⟨x, y, k TO (by simp) _ hTO⟩, h1.at fun o q => k i1 (by simp) o q, h2.at fun o q => k i2 (by simp) o q⟩
  item := by
    intro X hP hw hK hc i pins s σ H E I hf st hg
    subst hP hw hK
    obtain ⟨hz, hTI, ⟨x0, y0, hTO⟩, h1, h2⟩ := st
    obtain ⟨xs, ys, x, y, hqx, hqy, hx, hy⟩ := hg
    obtain ⟨its, rv, p⟩ := inv_sq I hqx
    obtain ⟨its2, rv2, p2⟩ := inv_sq I hqy
    obtain ⟨u, hu, ru⟩ := rv.get hx
    obtain ⟨u2, hu2, ru2⟩ := rv2.get hy
    have hzl : z < s.heap.objs.size := Heap.lt_size hz
    have l1 : i < its.toArray.size := by have := (List.getElem?_eq_some_iff.mp hu).1; simpa using this
    have l2 : i < its2.toArray.size := by have := (List.getElem?_eq_some_iff.mp hu2).1; simpa using this
    refine wpAny_pyNext_zipD2_item D (draws_b (prog := X.prog) (w := X.w) (A := X.A.in1) b1 (I.ok.hd hc) i1 a1 n1 its.toArray) (draws_b (prog := X.prog) (w := X.w) (A := X.A.in1) b2 (I.ok.hd hc) i2 a2 n2 its2.toArray) hz hTI hTO ⟨h1, p⟩ ⟨h2, p2⟩ l1 l2 fun y1 y2 h' tk P1 P2 z' TO' st1 st2 hT hsz hk => ?_
    have P1' : its.toArray[i]? = some y1 := P1
    have P2' : its2.toArray[i]? = some y2 := P2
    have e1 : y1 = u := by rw [show its.toArray[i]? = its[i]? by simp, hu] at P1'; exact (Option.some.inj P1').symm
    have e2 : y2 = u2 := by rw [show its2.toArray[i]? = its2[i]? by simp, hu2] at P2'; exact (Option.some.inj P2').symm
    subst e1 e2
    refine ⟨_, rfl, wpAny_letOwnedTupleGo_zip (s := { s with heap := h', toks := tk }) z' fun h'' z'' sb => ?_⟩
    have hT2 : h''.get? s.heap.objs.size = some { cls := .type "tuple", data := .seq #[y1, y2] } := (sb.2 _ (Nat.ne_of_gt hzl)).trans hT
    have new : ObjOk X.prog X.w (upd H s.heap.objs.size (.tup [x, y])) h'' s.heap.objs.size (.tup [x, y]) :=
      ⟨by show 2 ≤ sizeLine; decide, [y1, y2], .cons ru (.cons ru2 .nil), ⟨_, hT2, rfl, _, rfl⟩⟩
    have I1 : Inv X pins σ (upd H s.heap.objs.size (.tup [x, y])) { s with heap := h'', toks := tk } :=
      I.turnedNew (ch := [z, TI, TO, i1, i2]) (fun c o hb q => (sb.2 c (fun q' => hb (by simp [q']))).trans (hk c o (fun q' => hb (by simp [q'])) (fun q' => hb (by simp [q'])) (fun q' => hb (by simp [q'])) (fun q' => hb (by simp [q'])) q)) hf (Nat.le_refl _) new
    refine ⟨.ref s.heap.objs.size, _, I1, rfl, ⟨_, x, y, rfl, I.hok.fresh (Nat.le_refl _), rfl, fun l hl => by rw [inv_sq_inj I hl hqx]; exact hx, fun l hl => by rw [inv_sq_inj I hl hqy]; exact hy⟩, ⟨z'', ?_, ⟨y1, y2, ?_⟩, ?_, ?_⟩, fun c hcm => ?_⟩
    · exact (sb.2 _ D.TIz).trans (hk _ _ D.TIz D.TITO D.TIi1 D.TIi2 hTI)
    · exact (sb.2 _ D.TOz).trans TO'
    · exact st1.1.at fun o q => (sb.2 _ (Ne.symm D.zi1)).trans q
    · exact st2.1.at fun o q => (sb.2 _ (Ne.symm D.zi2)).trans q
    · have hlt : c < s.heap.objs.size := by
        have e' : c = z ∨ c = TI ∨ c = TO ∨ c = i1 ∨ c = i2 := by simpa using hcm
        rcases e' with q | q | q | q | q
        · rw [q]; exact hzl
        · rw [q]; exact Heap.lt_size hTI
        · rw [q]; exact Heap.lt_size hTO
        · rw [q]; obtain ⟨_, e1, _⟩ := h1.obj; exact Heap.lt_size e1
        · rw [q]; obtain ⟨_, e2, _⟩ := h2.obj; exact Heap.lt_size e2
      rw [upd_ne (Nat.ne_of_lt hlt)]
      exact (hf c hcm).1
  done := by
    intro X hP hw hK hc i pins s σ H E I hf st hg
    subst hP hw hK
    obtain ⟨hz, hTI, ⟨x0, y0, hTO⟩, h1, h2⟩ := st
    obtain ⟨xs, ys, hqx, hqy, hend⟩ := hg
    obtain ⟨its, rv, p⟩ := inv_sq I hqx
    obtain ⟨its2, rv2, p2⟩ := inv_sq I hqy
    have l1 : xs.length = its.toArray.size := by rw [rv.length]; simp
    have l2 : ys.length = its2.toArray.size := by rw [rv2.length]; simp
    rw [l1, l2] at hend
    refine wpAny_pyNext_zipD2_end D (draws_b (prog := X.prog) (w := X.w) (A := X.A.in1) b1 (I.ok.hd hc) i1 a1 n1 its.toArray) (draws_b (prog := X.prog) (w := X.w) (A := X.A.in1) b2 (I.ok.hd hc) i2 a2 n2 its2.toArray) hz hTI hTO ⟨h1, p⟩ ⟨h2, p2⟩ (by omega) (by omega) (by omega) fun h' tk hk => ⟨rfl, I.turnedL (t' := tk) (ch := [z, TI, TO, i1, i2]) (fun c o hb q =>
      hk c o (fun q' => hb (by simp [q'])) (fun q' => hb (by simp [q'])) (fun q' => hb (by simp [q'])) (fun q' => hb (by simp [q'])) q) hf⟩
  self := fun A i s Q E st h => wpAny_pyIter_zip st.1 h
/-! ### as iterators of a loop -/
def iSeqB (K : PySem.W.Frag) (te : TE) : TI := fun sg H R => te sg H fun x H1 => ∃ b a xs, x = .ref a ∧ SqB K b H1 a xs ∧ R (ItS K b a) H1
def iEnumB (K : PySem.W.Frag) (ta : TA) : TI := fun sg H R => ta sg H fun vs H1 => ∃ b a xs, vs = [.ref a] ∧ SqB K b H1 a xs ∧ R (ItE K b a) H1
def iZipB (K : PySem.W.Frag) (ta : TA) : TI := fun sg H R => ta sg H fun vs H1 => ∃ b1 b2 a1 a2 xs ys, vs = [.ref a1, .ref a2] ∧ SqB K b1 H1 a1 xs ∧ SqB K b2 H1 a2 ys ∧ R (ItZ K b1 b2 a1 a2) H1
section
variable {X : Cx} {tg : Expr} {p pos tpos : Pos} {elts : List Expr} {kk : Nat}
theorem pi_seqB {e : Expr} {te : TE} (he : PE X e te) : PI X tg e (iSeqB X.K te) := by
  refine ⟨fun pins s sg H R I h => ?_⟩
  refine thn (he.run pins s sg H _ I h) fun v s1 ⟨x, H1, I1, r1, b, a, xs, e, hq, q⟩ => ?_
  subst e
  cases r1
  obtain ⟨its, rv, p⟩ := inv_sq I1 hq
  refine iter_b p ?_
  cases b
  · exact pi_one (tk := s1.toks) I1 _ (turn_list a _) ⟨_, Heap.get?_push_size _ rfl, rfl, rfl⟩ q
  · exact pi_one (tk := s1.toks) I1 _ (turn_tuple a _) ⟨_, Heap.get?_push_size _ rfl, rfl, rfl⟩ q
theorem pi_enumB {e : Expr} {ta : TA} (hg : Gl X "enumerate") (hm : X.mg "enumerate" = none) (ha : PA X [e] ta) (hs : starEach [e] X.env = (false, eval e X.env) :: starEach [] X.env) :
    PI X (.Tuple elts kk tpos) (.Call (.Name "enumerate" p) [e] [] pos) (iEnumB X.K ta) := by
  refine ⟨fun pins s sg H R I h => ?_⟩
  refine Call_ (ld_blt I hg hm PyProof.Rows.boot_enumerate (PyProof.Rows.callWith_type1 (thn (ha.run pos pins s sg H _ I h) fun us s1 ⟨vs, H1, I1, r1, q1⟩ => ?_) hs rfl))
  obtain ⟨b, a, xs, ex, hq, q⟩ := q1
  subst ex
  obtain ⟨u, rfl, ru⟩ := vals1 r1
  obtain rfl : u = Value.ref a := ru
  obtain ⟨its, rv, p'⟩ := inv_sq I1 hq
  refine call_enum p' fun h' he hit hk => wpAny_pyIter_enum he ?_
  have hlt := p'.lt
  have I2 : Inv X pins sg H1 { s1 with heap := h' } := I1.kept (t' := s1.toks) hk
  refine ⟨s1.heap.objs.size + 1, [s1.heap.objs.size + 1, s1.heap.objs.size], _, _, H1, rfl, I2, turn_enumB b a (s1.heap.objs.size + 1) s1.heap.objs.size (Nat.succ_ne_self _) (Nat.ne_of_lt hlt) (Nat.ne_of_lt (Nat.lt_succ_of_lt hlt)), ⟨⟨.none, he⟩, hit⟩, fun b hb => ?_, q⟩
  have e' : b = s1.heap.objs.size + 1 ∨ b = s1.heap.objs.size := by simpa using hb
  have hle : s1.heap.objs.size ≤ b := by
    rcases e' with z | z
    · rw [z]; exact Nat.le_add_right _ _
    · rw [z]; exact Nat.le_refl _
  exact I1.fpOk hle (I1.hok.fresh hle)
theorem pi_zipB {e e2 : Expr} {ta : TA} (hg : Gl X "zip") (hm : X.mg "zip" = none) (ha : PA X [e, e2] ta)
    (hs : starEach [e, e2] X.env = (false, eval e X.env) :: starEach [e2] X.env) (hpl : (backTo pos (starEach [e2] X.env)).any (·.1) = false) :
    PI X (.Tuple elts kk tpos) (.Call (.Name "zip" p) [e, e2] [] pos) (iZipB X.K ta) := by
  refine ⟨fun pins s sg H R I h => ?_⟩
  refine Call_ (ld_blt I hg hm PyProof.Rows.boot_zip (PyProof.Rows.callWith_type1 (thn (ha.run pos pins s sg H _ I h) fun us s1 ⟨vs, H1, I1, r1, q1⟩ => ?_) hs hpl))
  obtain ⟨b1, b2, a1, a2, xs, ys, ex, hqx, hqy, q⟩ := q1
  subst ex
  obtain ⟨u, u2, rfl, ru, ru2⟩ := vals2 r1
  obtain rfl : u = Value.ref a1 := ru
  obtain rfl : u2 = Value.ref a2 := ru2
  obtain ⟨its, rv, p1⟩ := inv_sq I1 hqx
  obtain ⟨its2, rv2, p2⟩ := inv_sq I1 hqy
  have hl1 := p1.lt
  have hl2 := p2.lt
  refine call_zipB p1 p2 fun h' hz hTI hTO h1 h2 hk => wpAny_pyIter_zip hz ?_
  have I2 : Inv X pins sg H1 { s1 with heap := h' } := I1.kept (t' := s1.toks) hk
  have S : ZipSep2 (s1.heap.objs.size + 4) (s1.heap.objs.size + 2) (s1.heap.objs.size + 3) s1.heap.objs.size (s1.heap.objs.size + 1) [s1.heap.objs.size, a1] [s1.heap.objs.size + 1, a2] := by
    have D := PySem.W.ktu_apart s1.heap.objs.size a1 a2 hl1 hl2
    refine ⟨D.TIz, D.TOz, D.TITO, D.TIi1, by simp, ?_, ?_, D.TIi2, by simp, ?_, ?_, ?_, ?_⟩ <;> simp only [List.mem_cons, List.not_mem_nil, or_false, not_or]
    · exact ⟨Ne.symm D.i1z, Ne.symm D.l1z⟩
    · exact ⟨D.TOi1, Ne.symm D.l1TO⟩
    · exact ⟨Ne.symm D.i2z, Ne.symm D.l2z⟩
    · exact ⟨D.TOi2, Ne.symm D.l2TO⟩
    · exact ⟨D.i12, Ne.symm D.l2i1⟩
    · exact ⟨Ne.symm D.i12, Ne.symm D.l1i2⟩
  refine ⟨s1.heap.objs.size + 4, [s1.heap.objs.size + 4, s1.heap.objs.size + 2, s1.heap.objs.size + 3, s1.heap.objs.size, s1.heap.objs.size + 1], _, _, H1, rfl, I2, turn_zipB S (Nat.ne_of_lt hl1) (Nat.ne_of_lt (Nat.lt_succ_of_lt hl2)), ⟨hz, hTI, ⟨_, _, hTO⟩, h1, h2⟩, fun c hcm => ?_, q⟩
  have e' : c = s1.heap.objs.size + 4 ∨ c = s1.heap.objs.size + 2 ∨ c = s1.heap.objs.size + 3 ∨ c = s1.heap.objs.size ∨ c = s1.heap.objs.size + 1 := by simpa using hcm
  have hle : s1.heap.objs.size ≤ c := by
    rcases e' with q | q | q | q | q <;> (rw [q]; first | exact Nat.le_add_right _ _ | exact Nat.le_refl _)
  exact I1.fpOk hle (I1.hok.fresh hle)
end
end Rb

/-! RbIter2: sources and targets by values. Own work. -/
namespace Rb
open PySem PySem.Spec PyProof.Rows L2
theorem PI_imp {X : Cx} {tg it : Expr} {t t' : TI} (h : PI X tg it t) (k : ∀ sg H R, t' sg H R → t sg H R) : PI X tg it t' := ⟨fun pins s sg H R I q => h.run pins s sg H R I (k sg H R q)⟩
theorem PG_imp {X : Cx} {tg : Expr} {t t' : TG} (h : PG X tg t) (k : ∀ v sg H Q, t' v sg H Q → t v sg H Q) : PG X tg t' := ⟨fun pins s sg H v u Q I r q => h.run pins s sg H v u Q I r (k v sg H Q q)⟩
/-- a walk over ds, at the states that Rel tells; g: the cells it leans on -/
structure Wk (d : Wd) (Rel : Hp → List Addr → Hp → Prop) (g : Grd) (ds : List D) (J : It) : Prop where
  go : ∀ i F1 io1 H M, i < ds.length → Rel F1 io1 H → Sub F1 H → Cels d F1 io1 H M → g.ok M → J.go i H
  stop : ∀ F1 io1 H M, Rel F1 io1 H → Sub F1 H → Cels d F1 io1 H M → g.ok M → J.stop ds.length H
  yld : ∀ i x v F1 io1 H M H', ds[i]? = some x → Rel F1 io1 H → Sub F1 H → Cels d F1 io1 H M → g.ok M → J.yld i H v H' →
    ∃ F2, Ex F1 io1 H F2 io1 H' ∧ Sub F2 H' ∧ Cels d F2 io1 H' M ∧ Rep d F2 io1 x v
/-- what stands of a list at all states that Rel tells -/
def AtP (d : Wd) (Rel : Hp → List Addr → Hp → Prop) (g : Grd) (l : List D) (b : Bool) (a : Addr) : Prop :=
  ∀ F1 io1 H M, Rel F1 io1 H → Sub F1 H → Cels d F1 io1 H M → g.ok M → ∃ vs, SqB d.K b H a vs ∧ Reps d F1 io1 l vs
/-- a relation of sequences that stay, and of what they stay under -/
structure SrcK (d : Wd) (RQx : Hp → List Addr → Hp → (Grd × Bool × List D) → V → Prop) (RelOf : Hp → List Addr → Hp → Hp → List Addr → Hp → Prop) : Prop where
  at_ : ∀ F io H x v, RQx F io H x v → Sub F H → ∃ a, v = .ref a ∧ (∃ vs, SqB d.K x.2.1 H a vs) ∧ AtP d (RelOf F io H) x.1 x.2.2 x.2.1 a
  tr : ∀ F io H F1 io1 H1 F2 io2 H2, Ex F io H F1 io1 H1 → RelOf F1 io1 H1 F2 io2 H2 → RelOf F io H F2 io2 H2
  ex : ∀ F io H F1 io1 H1, Ex F io H F1 io1 H1 → RelOf F io H F1 io1 H1
/-- .. behind whatever is written -/
abbrev RelW : Hp → List Addr → Hp → Hp → List Addr → Hp → Prop := fun F io _ F1 io1 _ => Sub F F1 ∧ Pre io io1
/-- a sequence that is no name's own list -/
def RQN (d : Wd) : Hp → List Addr → Hp → (Grd × Bool × List D) → V → Prop := fun F io H x v =>
  ∃ a vs, v = .ref a ∧ Reps d F io x.2.2 vs ∧ ((x.1 = [] ∧ x.2.1 = true ∧ SqT d.K F a vs) ∨ (x.1 = [] ∧ x.2.1 = false ∧ F a = some (.lst vs)) ∨ (∃ r, x.1 = [(r, x.2.2)] ∧ x.2.1 = false ∧ io[r]? = some a ∧ H a = some (.lst vs)))
abbrev RSG (d : Wd) (RelOf : Hp → List Addr → Hp → Hp → List Addr → Hp → Prop) : Hp → List Addr → Hp → (Grd × List D) → It → Prop := fun F io H x J => Wk d (RelOf F io H) x.1 x.2 J
abbrev RS (d : Wd) : Hp → List Addr → Hp → (Grd × List D) → It → Prop := RSG d Ex
def tiG (d : Wd) (C : CallT) (W : WX) (RelOf : Hp → List Addr → Hp → Hp → List Addr → Hp → Prop) (s : Src) : TI := fun sg H R => ∃ F io e M, Rl d F io sg H e M ∧ Sat d W sg F io H (evS d.T C s e M) (RSG d RelOf) R
abbrev tiI (d : Wd) (C : CallT) (W : WX) (s : Src) : TI := tiG d C W Ex s
abbrev tiN (d : Wd) (C : CallT) (W : WX) (s : Src) : TI := tiG d C W RelW s
def tqG (d : Wd) (C : CallT) (W : WX) (RQx : Hp → List Addr → Hp → (Grd × Bool × List D) → V → Prop) (p : P) : TE := fun sg H Q => ∃ F io e M, Rl d F io sg H e M ∧ Sat d W sg F io H (qOf p e M (ev d.T C p e M)) RQx Q
section
variable {d : Wd} {F F1 : Hp} {io io1 : List Addr} {H0 H : Hp} {M : Sto}
theorem RQ.at {x : Grd × Bool × List D} {v : V} (h : RQ d F io H0 x v) (k : Ex F io H0 F1 io1 H) (s : Sub F1 H) (c : Cels d F1 io1 H M) (g : x.1.ok M) : ∃ a vs, v = .ref a ∧ SqB d.K x.2.1 H a vs ∧ Reps d F1 io1 x.2.2 vs := by
  obtain ⟨a, vs, rfl, k2, k1⟩ := h
  have k2' := Reps.mono k.sub k.pre _ _ k2
  rcases k1 with ⟨_, e, q⟩ | ⟨_, e, q⟩ | ⟨_, e, q, _, n⟩ | ⟨r, e0, e, q, _⟩
  · exact ⟨a, vs, rfl, by rw [e]; exact s.sqt (k.sub.sqt q), k2'⟩
  · exact ⟨a, vs, rfl, by rw [e]; exact SqL.of (s _ _ (k.sub _ _ q)), k2'⟩
  · exact ⟨a, vs, rfl, by rw [e]; exact SqL.of (k.keep _ _ q n), k2'⟩
  · have gm : M[r]? = some (.lst x.2.2) := g (r, x.2.2) (by rw [e0]; simp)
    obtain ⟨a', e1, vs', e2, e3⟩ := c.cel r _ gm
    rw [k.pre _ _ q] at e1; cases e1
    exact ⟨a, vs', rfl, by rw [e]; exact SqL.of e2, e3⟩
theorem Grd.ok_app {a b : Grd} (h : Grd.ok (a ++ b) M) : Grd.ok a M ∧ Grd.ok b M := ⟨fun p hp => h p (List.mem_append_left _ hp), fun p hp => h p (List.mem_append_right _ hp)⟩
theorem enumL_get (l : List D) (i : Nat) : (enumL l)[i]? = (l[i]?).map fun x => D.tup [.int (i : Nat), x] := by
  unfold enumL
  rw [List.getElem?_map, List.getElem?_zipIdx]
  cases l[i]? <;> simp
theorem zipL_get (a b : List D) (i : Nat) : (zipL a b)[i]? = match a[i]?, b[i]? with | some x, some y => some (D.tup [x, y]) | _, _ => none := by
  unfold zipL
  rw [List.getElem?_map, List.zip, List.getElem?_zipWith]
  cases a[i]? <;> cases b[i]? <;> rfl
theorem enumL_len (l : List D) : (enumL l).length = l.length := by simp [enumL]
theorem zipL_len (a b : List D) : (zipL a b).length = min a.length b.length := by simp [zipL]
/-- a new pair -/
theorem pair_new {x y : D} {v u : V} {T : Addr} (s : Sub F H) (c : Cels d F io H M) (hT : H T = none) (rx : Rep d F io x v) (ry : Rep d F io y u) :
    ∃ F2, Ex F io H F2 io (upd H T (.tup [v, u])) ∧ Sub F2 (upd H T (.tup [v, u])) ∧ Cels d F2 io (upd H T (.tup [v, u])) M ∧ Rep d F2 io (.tup [x, y]) (.ref T) := by
  obtain ⟨x1, s1, c1⟩ := ex_new (o := .tup [v, u]) s c hT
  exact ⟨_, x1, s1, c1, rep_tup' (SqT.of upd_same) (Reps.cons (Rep.mono x1.sub x1.pre _ _ rx) (Reps.cons (Rep.mono x1.sub x1.pre _ _ ry) Reps.nil))⟩
theorem wk_seq {Rel : Hp → List Addr → Hp → Prop} {g : Grd} {l : List D} {b : Bool} {a : Addr} (h : AtP d Rel g l b a) : Wk d Rel g l (ItS d.K b a) := by
  refine ⟨fun i F1 io1 H M hi k s c g => ?_, fun F1 io1 H M k s c g => ?_, fun i y v F1 io1 H M H' hy k s c g z => ?_⟩
  · obtain ⟨vs, q, r⟩ := h _ _ _ _ k s c g
    have hl : i < vs.length := by rw [← r.length]; exact hi
    cases b <;> exact ⟨vs, vs[i], q, by simp [hl]⟩
  · obtain ⟨vs, q, r⟩ := h _ _ _ _ k s c g
    cases b <;> exact ⟨vs, q, by rw [← r.length]; exact Nat.le_refl _⟩
  · obtain ⟨vs, q, r⟩ := h _ _ _ _ k s c g
    obtain ⟨u, h1, h2⟩ := r.get hy
    have : H' = H ∧ vs[i]? = some v := by
      cases b <;> exact ⟨z.1, z.2 vs q⟩
    obtain ⟨rfl, e⟩ := this
    rw [h1] at e; cases e
    exact ⟨F1, Ex.refl _ _ _, s, c, h2⟩
theorem wk_enum {Rel : Hp → List Addr → Hp → Prop} {g : Grd} {l : List D} {b : Bool} {a : Addr} (h : AtP d Rel g l b a) : Wk d Rel g (enumL l) (ItE d.K b a) := by
  refine ⟨fun i F1 io1 H M hi k s c g => ?_, fun F1 io1 H M k s c g => ?_, fun i y v F1 io1 H M H' hy k s c g z => ?_⟩
  · obtain ⟨vs, q, r⟩ := h _ _ _ _ k s c g
    have hl : i < vs.length := by rw [← r.length, ← enumL_len]; exact hi
    exact ⟨vs, vs[i], q, by simp [hl]⟩
  · obtain ⟨vs, q, r⟩ := h _ _ _ _ k s c g
    exact ⟨vs, q, by rw [← r.length, enumL_len]⟩
  · obtain ⟨vs, q, r⟩ := h _ _ _ _ k s c g
    rw [enumL_get] at hy
    obtain ⟨y', h1, rfl⟩ := Option.map_eq_some_iff.mp hy
    obtain ⟨u, h2, h3⟩ := r.get h1
    obtain ⟨T, u', rfl, hT, rfl, z⟩ := z
    have e := z vs q
    rw [h2] at e; cases e
    exact pair_new s c hT (by simp only [Rep]) h3
theorem wk_zip {Rel : Hp → List Addr → Hp → Prop} {g1 g2 : Grd} {l m : List D} {b1 b2 : Bool} {a b : Addr} (h : AtP d Rel g1 l b1 a) (h' : AtP d Rel g2 m b2 b) : Wk d Rel (g1 ++ g2) (zipL l m) (ItZ d.K b1 b2 a b) := by
  refine ⟨fun i F1 io1 H M hi k s c g => ?_, fun F1 io1 H M k s c g => ?_, fun i z v F1 io1 H M H' hz k s c g w => ?_⟩
  · obtain ⟨vs, q, r⟩ := h _ _ _ _ k s c (Grd.ok_app g).1
    obtain ⟨ws, q', r'⟩ := h' _ _ _ _ k s c (Grd.ok_app g).2
    rw [zipL_len] at hi
    have hl : i < vs.length := by rw [← r.length]; omega
    have hl' : i < ws.length := by rw [← r'.length]; omega
    exact ⟨vs, ws, vs[i], ws[i], q, q', by simp [hl], by simp [hl']⟩
  · obtain ⟨vs, q, r⟩ := h _ _ _ _ k s c (Grd.ok_app g).1
    obtain ⟨ws, q', r'⟩ := h' _ _ _ _ k s c (Grd.ok_app g).2
    exact ⟨vs, ws, q, q', by rw [zipL_len, r.length, r'.length]⟩
  · obtain ⟨vs, q, r⟩ := h _ _ _ _ k s c (Grd.ok_app g).1
    obtain ⟨ws, q', r'⟩ := h' _ _ _ _ k s c (Grd.ok_app g).2
    rw [zipL_get] at hz
    cases e1 : l[i]? with
    | none => rw [e1] at hz; cases hz
    | some p =>
      cases e2 : m[i]? with
      | none => rw [e1, e2] at hz; cases hz
      | some p' =>
        rw [e1, e2] at hz
        cases hz
        obtain ⟨u, f1, f2⟩ := r.get e1
        obtain ⟨u', f3, f4⟩ := r'.get e2
        obtain ⟨T, v1, v2, rfl, hT, rfl, w1, w2⟩ := w
        have e := w1 vs q
        rw [f1] at e; cases e
        have e := w2 ws q'
        rw [f3] at e; cases e
        exact pair_new s c hT f2 f4
theorem RQN.at {x : Grd × Bool × List D} {v : V} (h : RQN d F io H0 x v) (k : Sub F F1 ∧ Pre io io1) (s : Sub F1 H) (c : Cels d F1 io1 H M) (g : x.1.ok M) : ∃ a vs, v = .ref a ∧ SqB d.K x.2.1 H a vs ∧ Reps d F1 io1 x.2.2 vs := by
  obtain ⟨a, vs, rfl, k2, k1⟩ := h
  have k2' := Reps.mono k.1 k.2 _ _ k2
  rcases k1 with ⟨_, e, q⟩ | ⟨_, e, q⟩ | ⟨r, e0, e, q, _⟩
  · exact ⟨a, vs, rfl, by rw [e]; exact s.sqt (k.1.sqt q), k2'⟩
  · exact ⟨a, vs, rfl, by rw [e]; exact SqL.of (s _ _ (k.1 _ _ q)), k2'⟩
  · have gm : M[r]? = some (.lst x.2.2) := g (r, x.2.2) (by rw [e0]; simp)
    obtain ⟨a', e1, vs', e2, e3⟩ := c.cel r _ gm
    rw [k.2 _ _ q] at e1; cases e1
    exact ⟨a, vs', rfl, by rw [e]; exact SqL.of e2, e3⟩
theorem rq_sq {F : Hp} {io : List Addr} {H : Hp} {x : Grd × Bool × List D} {v : V} (h : RQ d F io H x v) (s : Sub F H) : ∃ a vs, v = .ref a ∧ SqB d.K x.2.1 H a vs := by
  obtain ⟨a, vs, rfl, k2, k1⟩ := h
  refine ⟨a, vs, rfl, ?_⟩
  rcases k1 with ⟨_, e, q⟩ | ⟨_, e, q⟩ | ⟨_, e, q, _, n⟩ | ⟨r, e0, e, _, q⟩ <;> rw [e]
  · exact s.sqt q
  · exact SqL.of (s _ _ q)
  · exact SqL.of q
  · exact SqL.of q
theorem rqn_rq {F : Hp} {io : List Addr} {H : Hp} {x : Grd × Bool × List D} {v : V} (h : RQN d F io H x v) : RQ d F io H x v := by
  obtain ⟨a, vs, rfl, k2, k1⟩ := h
  refine ⟨a, vs, rfl, k2, ?_⟩
  rcases k1 with q | q | q
  · exact .inl q
  · exact .inr (.inl q)
  · exact .inr (.inr (.inr q))
theorem kE (d : Wd) : SrcK d (RQ d) Ex where
  at_ := fun F io H x v h s => by
    obtain ⟨a, vs, rfl, q⟩ := rq_sq h s
    refine ⟨a, rfl, ⟨vs, q⟩, fun F1 io1 H1 M k s c g => ?_⟩
    obtain ⟨a', vs', e, q', r⟩ := h.at k s c g
    cases e
    exact ⟨vs', q', r⟩
  tr := fun _ _ _ _ _ _ _ _ _ a b => a.trans b
  ex := fun _ _ _ _ _ _ a => a
theorem kN (d : Wd) : SrcK d (RQN d) RelW where
  at_ := fun F io H x v h s => by
    obtain ⟨a, vs, rfl, q⟩ := rq_sq (rqn_rq h) s
    refine ⟨a, rfl, ⟨vs, q⟩, fun F1 io1 H1 M k s c g => ?_⟩
    obtain ⟨a', vs', e, q', r⟩ := h.at k s c g
    cases e
    exact ⟨vs', q', r⟩
  tr := fun _ _ _ _ _ _ _ _ _ a b => ⟨a.sub.trans b.1, a.pre.trans b.2⟩
  ex := fun _ _ _ _ _ _ a => ⟨a.sub, a.pre⟩
theorem wk_rng {Rel : Hp → List Addr → Hp → Prop} (lo : Int) (n : Nat) : Wk d Rel [] (rngL lo n) (Itr lo n) := by
  refine ⟨fun i F1 io1 H M hi k s c g => ?_, fun F1 io1 H M k s c g => ?_, fun i z v F1 io1 H M H' hz k s c g w => ?_⟩
  · rw [rngL_len] at hi; exact hi
  · rw [rngL_len]; exact Nat.le_refl _
  · obtain ⟨rfl, rfl⟩ := w
    refine ⟨F1, Ex.refl _ _ _, s, c, ?_⟩
    unfold rngL at hz
    rw [List.getElem?_map] at hz
    obtain ⟨j, h1, rfl⟩ := Option.map_eq_some_iff.mp hz
    have : j = i := by
      have := List.getElem?_eq_some_iff.mp h1
      obtain ⟨h2, h3⟩ := this
      simpa using h3.symm
    subst this
    simp only [Rep]
end
section
variable {X : Cx} {d : Wd} {C : CallT} {W : WX} {pos px tpos : Pos} {x : Str} {tg : Expr} {elts : List Expr} {kk : Nat}
variable {RQx : Hp → List Addr → Hp → (Grd × Bool × List D) → V → Prop} {RelOf : Hp → List Addr → Hp → Hp → List Addr → Hp → Prop}
theorem i_seq {a : P} {e : Expr} (k : SrcK d RQx RelOf) (hK : X.K = d.K) (h : PE X e (tqG d C W RQx a)) : PI X tg e (tiG d C W RelOf (.seq a)) := by
  refine PI_imp (pi_seqB h) fun sg H R h => ?_
  obtain ⟨F, io, e, M, rl, h⟩ := h
  simp only [evS] at h
  refine ⟨F, io, e, M, rl, (h.bind RQx).mono fun v H1 m => ?_⟩
  obtain ⟨F1, io1, M1, x, x1, s1, c1, q1, h1⟩ := m
  obtain ⟨a, rfl, ⟨vs, q⟩, ap⟩ := k.at_ _ _ _ _ _ q1 s1
  exact ⟨x.2.1, a, vs, rfl, by rw [hK]; exact q, by rw [hK]; exact h1.ok s1 c1 (wk_seq ap)⟩
theorem i_enm {a : P} {e : Expr} (k : SrcK d RQx RelOf) (hK : X.K = d.K) (hg : Gl X "enumerate") (hm : X.mg "enumerate" = none) (hn : nst e = true) (h : PE X e (tqG d C W RQx a)) : PI X (.Tuple elts kk tpos) (.Call (.Name "enumerate" px) [e] [] pos) (tiG d C W RelOf (.enm a)) := by
  refine PI_imp (pi_enumB hg hm (a_one h hn) (star_ns hn)) fun sg H R h => ?_
  obtain ⟨F, io, e, M, rl, h⟩ := h
  simp only [evS] at h
  refine ⟨F, io, e, M, rl, (h.bind RQx).mono fun v H1 m => ?_⟩
  obtain ⟨F1, io1, M1, x, x1, s1, c1, q1, h1⟩ := m
  obtain ⟨a, rfl, ⟨vs, q⟩, ap⟩ := k.at_ _ _ _ _ _ q1 s1
  exact ⟨x.2.1, a, vs, rfl, by rw [hK]; exact q, by rw [hK]; exact h1.ok s1 c1 (wk_enum ap)⟩
theorem i_zp {a b : P} {e e2 : Expr} (k : SrcK d RQx RelOf) (hK : X.K = d.K) (hg : Gl X "zip") (hm : X.mg "zip" = none) (hn : nst e = true) (hn2 : nst e2 = true) (h : PE X e (tqG d C W RQx a)) (h2 : PE X e2 (tqG d C W RQx b)) : PI X (.Tuple elts kk tpos) (.Call (.Name "zip" px) [e, e2] [] pos) (tiG d C W RelOf (.zp a b)) := by
  refine PI_imp (pi_zipB hg hm (a_two h h2 hn hn2) (star_ns hn) (star_nsts (by simp [nsts, hn2]))) fun sg H R h => ?_
  obtain ⟨F, io, e, M, rl, h⟩ := h
  simp only [evS] at h
  refine ⟨F, io, e, M, rl, (h.bind RQx).mono fun v H1 m => ?_⟩
  obtain ⟨F1, io1, M1, x, x1, s1, c1, q1, h1⟩ := m
  refine ⟨F1, io1, e, M1, rl.ex x1 s1 c1, (h1.bind RQx).mono fun u H2 m2 => ?_⟩
  obtain ⟨F2, io2, M2, y, x2, s2, c2, q2, h2⟩ := m2
  split at h2
  · rename_i hg
    obtain ⟨a, rfl, _, ap⟩ := k.at_ _ _ _ _ _ q1 s1
    obtain ⟨vs, q, _⟩ := ap _ _ _ _ (k.ex _ _ _ _ _ _ x2) s2 c2 hg
    obtain ⟨b, rfl, ⟨ws, q'⟩, bp⟩ := k.at_ _ _ _ _ _ q2 s2
    refine ⟨x.2.1, y.2.1, a, b, vs, ws, rfl, by rw [hK]; exact q, by rw [hK]; exact q', ?_⟩
    rw [hK]
    exact h2.ok s2 c2 (wk_zip (fun F3 io3 H3 M3 r => ap F3 io3 H3 M3 (k.tr _ _ _ _ _ _ _ _ _ x2 r)) bp)
  · exact h2.elim
/-- a value as a sequence that is walked -/
theorem q_valN {p : P} {e : Expr} (hb : p.isBor = false) (h : PE X e (teI d C W p)) : PE X e (tqG d C W (RQN d) p) := by
  refine PE_imp h fun sg H Q h => ?_
  obtain ⟨F, io, e, M, rl, h⟩ := h
  have eq : qOf p e M (ev d.T C p e M) = (ev d.T C p e M).bind fun x M1 => oR ((seqD x M1).map fun l => (grdOf x l, (match x with | .tup _ => true | _ => false), l)) M1 := by
    cases p <;> first | (cases hb; done) | rfl
  rw [eq] at h
  refine ⟨F, io, e, M, rl, (h.bind (RV d)).mono fun v H1 m => ?_⟩
  obtain ⟨F1, io1, M1, x, x1, s1, c1, q1, h1⟩ := m
  obtain ⟨y, e1, h1⟩ := h1.oR
  obtain ⟨l, e2, e3⟩ := Option.map_eq_some_iff.mp e1
  refine h1.ok s1 c1 ?_
  subst e3
  cases x with
  | tup m =>
    simp only [seqD, Option.some.injEq] at e2; subst e2
    obtain ⟨a, vs, rfl, k1, k2⟩ := rep_tup q1
    exact ⟨a, vs, rfl, k2, .inl ⟨rfl, rfl, k1⟩⟩
  | lst m =>
    simp only [seqD, Option.some.injEq] at e2; subst e2
    obtain ⟨a, vs, rfl, k1, k2⟩ := rep_lst q1
    exact ⟨a, vs, rfl, k2, .inr (.inl ⟨rfl, rfl, k1⟩)⟩
  | cel r =>
    simp only [seqD] at e2
    split at e2
    · rename_i m hm
      simp only [Option.some.injEq] at e2; subst e2
      obtain ⟨a, rfl, k1⟩ := rep_cel q1
      obtain ⟨a', k2, vs, k3, k4⟩ := c1.cel r _ hm
      rw [k1] at k2; cases k2
      exact ⟨a, vs, rfl, k4, .inr (.inr ⟨r, rfl, rfl, k1, k3⟩)⟩
    · cases e2
  | _ => simp only [seqD] at e2; cases e2
theorem small_of {i : Int} (h : small i = true) : -(2 ^ 62) ≤ i ∧ i < 2 ^ 62 := by
  unfold small at h
  simp only [Bool.and_eq_true, decide_eq_true_eq] at h
  exact h
theorem i_rg1 {a : P} {e : Expr} (hg : Gl X "range") (hm : X.mg "range" = none) (hn : nst e = true) (h : PE X e (teI d C W a)) : PI X tg (.Call (.Name "range" px) [e] [] pos) (tiG d C W RelOf (.rg1 a)) := by
  refine PI_imp (pi_range1 hg hm (a_one h hn) (star_ns hn)) fun sg H R h => ?_
  obtain ⟨F, io, e, M, rl, h⟩ := h
  simp only [evS] at h
  refine ⟨F, io, e, M, rl, (h.bind (RV d)).mono fun v H1 m => ?_⟩
  obtain ⟨F1, io1, M1, x, x1, s1, c1, q1, h1⟩ := m
  cases x with
  | int i =>
    simp only at h1
    split at h1
    · rename_i hs
      obtain ⟨b1, b2⟩ := small_of hs
      exact ⟨i, by rw [rep_int q1], b1, b2, h1.ok s1 c1 (wk_rng 0 i.toNat)⟩
    · exact h1.elim
  | _ => exact (show False from h1).elim
theorem i_rg2 {a b : P} {e e2 : Expr} (hg : Gl X "range") (hm : X.mg "range" = none) (hn : nst e = true) (hn2 : nst e2 = true) (h : PE X e (teI d C W a)) (h2 : PE X e2 (teI d C W b)) : PI X tg (.Call (.Name "range" px) [e, e2] [] pos) (tiG d C W RelOf (.rg2 a b)) := by
  refine PI_imp (pi_range2 hg hm (a_two h h2 hn hn2) (by rw [star_ns hn, star_ns hn2]; rfl) (star_ns hn2)) fun sg H R h => ?_
  obtain ⟨F, io, e, M, rl, h⟩ := h
  simp only [evS] at h
  refine ⟨F, io, e, M, rl, (h.bind (RV d)).mono fun v H1 m => ?_⟩
  obtain ⟨F1, io1, M1, x, x1, s1, c1, q1, h1⟩ := m
  refine ⟨F1, io1, e, M1, rl.ex x1 s1 c1, (h1.bind (RV d)).mono fun u H2 m2 => ?_⟩
  obtain ⟨F2, io2, M2, y, x2, s2, c2, q2, h2⟩ := m2
  cases x with
  | int i =>
    cases y with
    | int j =>
      simp only at h2
      split at h2
      · rename_i hs
        rw [Bool.and_eq_true] at hs
        obtain ⟨b1, b2⟩ := small_of hs.1
        obtain ⟨b3, b4⟩ := small_of hs.2
        exact ⟨i, j, by rw [rep_int q1, rep_int q2], ⟨b1, b2, b3, b4⟩, h2.ok s2 c2 (wk_rng i (j - i).toNat)⟩
      · exact h2.elim
    | _ => exact (show False from h2).elim
  | _ => exact (show False from h2).elim
end

/-! ### a value that is walked, whatever is written -/
abbrev RS2 (d : Wd) : Hp → List Addr → Hp → (Grd × List D) → It → Prop := fun F io H x J => x.1 = [] → Wk d (fun F1 io1 _ => Sub F F1 ∧ Pre io io1) [] x.2 J
def tiV (d : Wd) (C : CallT) (W : WX) (s : Src) : TI := fun sg H R => ∃ F io e M, Rl d F io sg H e M ∧ Sat d W sg F io H ((evS d.T C s e M).bind fun gl M1 => if gl.1.isEmpty then .ok gl M1 else .stuck) (RS2 d) R
section
variable {X : Cx} {d : Wd} {C : CallT} {W : WX} {tg : Expr}
theorem wk_val {F : Hp} {io : List Addr} {l : List D} {b : Bool} {a : Addr} {vs : List V} (h : Reps d F io l vs) (k : (b = true ∧ SqT d.K F a vs) ∨ (b = false ∧ F a = some (.lst vs))) : Wk d (fun F1 io1 _ => Sub F F1 ∧ Pre io io1) [] l (ItS d.K b a) := by
  have at_ : ∀ {F1 io1 H}, Sub F F1 ∧ Pre io io1 → Sub F1 H → SqB d.K b H a vs ∧ Reps d F1 io1 l vs := by
    intro F1 io1 H r s
    refine ⟨?_, Reps.mono r.1 r.2 _ _ h⟩
    rcases k with ⟨rfl, k⟩ | ⟨rfl, k⟩
    · exact s.sqt (r.1.sqt k)
    · exact SqL.of (s _ _ (r.1 _ _ k))
  refine ⟨fun i F1 io1 H M hi r s c g => ?_, fun F1 io1 H M r s c g => ?_, fun i y v F1 io1 H M H' hy r s c g z => ?_⟩
  · obtain ⟨q, r'⟩ := at_ r s
    have hl : i < vs.length := by rw [← r'.length]; exact hi
    cases b <;> exact ⟨vs, vs[i], q, by simp [hl]⟩
  · obtain ⟨q, r'⟩ := at_ r s
    cases b <;> exact ⟨vs, q, by rw [← r'.length]; exact Nat.le_refl _⟩
  · obtain ⟨q, r'⟩ := at_ r s
    obtain ⟨u, h1, h2⟩ := r'.get hy
    have : H' = H ∧ vs[i]? = some v := by
      cases b <;> exact ⟨z.1, z.2 vs q⟩
    obtain ⟨rfl, e⟩ := this
    rw [h1] at e; cases e
    exact ⟨F1, Ex.refl _ _ _, s, c, h2⟩
theorem i_val {a : P} {e : Expr} (hK : X.K = d.K) (hb : a.isBor = false) (h : PE X e (teI d C W a)) : PI X tg e (tiV d C W (.seq a)) := by
  refine PI_imp (pi_seqB h) fun sg H R h => ?_
  obtain ⟨F, io, e, M, rl, h⟩ := h
  have eq : qOf a e M (ev d.T C a e M) = (ev d.T C a e M).bind fun x M1 => oR ((seqD x M1).map fun l => (grdOf x l, (match x with | .tup _ => true | _ => false), l)) M1 := by
    cases a <;> first | (cases hb; done) | rfl
  simp only [evS] at h
  rw [eq] at h
  have eq2 : ∀ r : Res D, ((r.bind fun x M1 => oR ((seqD x M1).map fun l => (grdOf x l, (match x with | .tup _ => true | _ => false), l)) M1).bind fun x M1 => Res.ok (x.1, x.2.2) M1).bind (fun gl M1 => if gl.1.isEmpty then Res.ok gl M1 else Res.stuck) =
      r.bind fun x M1 => (oR ((seqD x M1).map fun l => (grdOf x l, l)) M1).bind fun gl M1 => if gl.1.isEmpty then Res.ok gl M1 else Res.stuck := by
    intro r
    cases r with
    | ok x M1 =>
      show Res.bind (Res.bind (oR (Option.map _ (seqD x M1)) M1) _) _ = Res.bind (oR (Option.map _ (seqD x M1)) M1) _
      cases seqD x M1 <;> rfl
    | exc _ _ _ => rfl
    | stuck => rfl
  rw [eq2] at h
  refine ⟨F, io, e, M, rl, (h.bind (RV d)).mono fun v H1 m => ?_⟩
  obtain ⟨F1, io1, M1, x, x1, s1, c1, q1, h1⟩ := m
  cases hs : seqD x M1 with
  | none => rw [hs] at h1; exact h1.elim
  | some l =>
    rw [hs] at h1
    replace h1 : Sat d W sg F1 io1 H1 (if (grdOf x l).isEmpty then Res.ok (grdOf x l, l) M1 else Res.stuck) (RS2 d) R := h1
    split at h1
    · rename_i hg
      cases x with
      | tup m =>
        simp only [seqD, Option.some.injEq] at hs; subst hs
        obtain ⟨a, vs, rfl, k1, k2⟩ := rep_tup q1
        refine ⟨true, a, vs, rfl, by rw [hK]; exact s1.sqt k1, ?_⟩
        rw [hK]
        exact h1.ok s1 c1 fun _ => wk_val k2 (.inl ⟨rfl, k1⟩)
      | lst m =>
        simp only [seqD, Option.some.injEq] at hs; subst hs
        obtain ⟨a, vs, rfl, k1, k2⟩ := rep_lst q1
        refine ⟨false, a, vs, rfl, SqL.of (s1 _ _ k1), ?_⟩
        rw [hK]
        exact h1.ok s1 c1 fun _ => wk_val k2 (.inr ⟨rfl, k1⟩)
      | cel r => simp [grdOf] at hg
      | _ => simp only [seqD] at hs; cases hs
    · exact h1.elim
end
/-! ### targets -/
section
variable {d : Wd} {F : Hp} {io : List Addr} {H : Hp} {M : Sto} {sg sg' : L2.St} {e e' : Env}
def Same (ix : List Nat) (sg sg' : L2.St) : Prop := sg'.length = sg.length ∧ ∀ i, i ∉ ix → sg'[i]? = sg[i]?
theorem wipe_get : ∀ {vs : List Nat} {sg : L2.St} {i : Nat}, (wipe sg vs)[i]? = if i ∈ vs ∧ i < sg.length then some none else sg[i]?
  | [], sg, i => by simp [wipe]
  | v :: vs, sg, i => by
    unfold wipe
    by_cases h : v = i
    · subst h
      by_cases hl : v < sg.length
      · rw [List.getElem?_set_self (by rw [wipe_length]; exact hl), if_pos ⟨List.mem_cons_self, hl⟩]
      · rw [List.getElem?_eq_none (by rw [List.length_set, wipe_length]; omega), if_neg (fun z => hl z.2), List.getElem?_eq_none (by omega)]
    · rw [List.getElem?_set_ne h, wipe_get]
      have : (i ∈ v :: vs ∧ i < sg.length) ↔ (i ∈ vs ∧ i < sg.length) := by
        simp only [List.mem_cons]
        constructor
        · rintro ⟨q | q, r⟩
          · exact absurd q.symm h
          · exact ⟨q, r⟩
        · rintro ⟨q, r⟩; exact ⟨.inr q, r⟩
      simp only [this]
theorem wipe_same {ix vs : List Nat} (h : Same ix sg sg') (k : ∀ i ∈ ix, i ∈ vs) : wipe sg' vs = wipe sg vs := by
  apply List.ext_getElem?
  intro i
  rw [wipe_get, wipe_get, h.1]
  by_cases hi : i ∈ vs
  · by_cases hl : i < sg.length
    · rw [if_pos ⟨hi, hl⟩, if_pos ⟨hi, hl⟩]
    · rw [if_neg (fun z => hl z.2), if_neg (fun z => hl z.2), List.getElem?_eq_none (by rw [h.1]; omega), List.getElem?_eq_none (by omega)]
  · rw [if_neg (fun z => hi z.1), if_neg (fun z => hi z.1)]
    exact h.2 i fun z => hi (k i z)
theorem Rl.un1 {i : Nat} (r : Rl d F io sg H e M) : Rl d F io (List.set sg i none) H (List.set e i .un) M where
  sub := r.sub
  cl := r.cl
  len := by rw [List.length_set, List.length_set]; exact r.len
  val := fun j x h => by
    by_cases q : i = j
    · subst q
      by_cases hl : i < e.length
      · rw [List.getElem?_set_self hl] at h; cases h
      · rw [List.getElem?_eq_none (by simpa using hl)] at h; cases h
    · rw [List.getElem?_set_ne q] at h ⊢; exact r.val j x h
  own := fun j l h => by
    by_cases q : i = j
    · subst q
      by_cases hl : i < e.length
      · rw [List.getElem?_set_self hl] at h; cases h
      · rw [List.getElem?_eq_none (by simpa using hl)] at h; cases h
    · rw [List.getElem?_set_ne q] at h ⊢; exact r.own j l h
  dis := fun j k l m a h1 h2 h3 h4 => by
    have nj : i ≠ j := fun q => by
      subst q
      by_cases hl : i < e.length
      · rw [List.getElem?_set_self hl] at h1; cases h1
      · rw [List.getElem?_eq_none (by simpa using hl)] at h1; cases h1
    have nk : i ≠ k := fun q => by
      subst q
      by_cases hl : i < e.length
      · rw [List.getElem?_set_self hl] at h2; cases h2
      · rw [List.getElem?_eq_none (by simpa using hl)] at h2; cases h2
    rw [List.getElem?_set_ne nj] at h1 h3
    rw [List.getElem?_set_ne nk] at h2 h4
    exact r.dis j k l m a h1 h2 h3 h4
theorem Rl.uns (r : Rl d F io sg H e M) : ∀ vs : List Nat, Rl d F io (wipe sg vs) H (e.uns vs) M
  | [] => r
  | v :: vs => (Rl.uns r vs).un1
theorem Rl.setv {i : Nat} {x : D} {v : V} (r : Rl d F io sg H e M) (h : Rep d F io x v) (hi : i < e.length) : Rl d F io (List.set sg i (some v)) H (List.set e i (.val x)) M where
  sub := r.sub
  cl := r.cl
  len := by rw [List.length_set, List.length_set]; exact r.len
  val := fun j y hy => by
    by_cases q : i = j
    · subst q
      rw [List.getElem?_set_self hi] at hy
      cases hy
      exact .inr ⟨v, by rw [List.getElem?_set_self (by rw [← r.len]; exact hi)], h⟩
    · rw [List.getElem?_set_ne q] at hy ⊢; exact r.val j y hy
  own := fun j l hy => by
    by_cases q : i = j
    · subst q
      rw [List.getElem?_set_self hi] at hy
      cases hy
    · rw [List.getElem?_set_ne q] at hy ⊢; exact r.own j l hy
  dis := fun j k l m a h1 h2 h3 h4 => by
    have nj : i ≠ j := fun q => by subst q; rw [List.getElem?_set_self hi] at h1; cases h1
    have nk : i ≠ k := fun q => by subst q; rw [List.getElem?_set_self hi] at h2; cases h2
    rw [List.getElem?_set_ne nj] at h1 h3
    rw [List.getElem?_set_ne nk] at h2 h4
    exact r.dis j k l m a h1 h2 h3 h4
theorem Same.set1 {i : Nat} {v : Option V} : Same [i] sg (List.set sg i v) := ⟨by simp, fun j h => by rw [List.getElem?_set_ne]; intro q; exact h (by simp [q])⟩
theorem Same.trans {ix ix2 : List Nat} {sg'' : L2.St} (h : Same ix sg sg') (k : Same ix2 sg' sg'') : Same (ix ++ ix2) sg sg'' := ⟨k.1.trans h.1, fun i hi => by
  rw [List.mem_append, not_or] at hi
  exact (k.2 i hi.2).trans (h.2 i hi.1)⟩
end
/-- a target's reading: what is bound -/
def tgI (d : Wd) (t : Tgt) : TG := fun v sg H Q => ∃ F io x e M e', Rl d F io sg H e M ∧ Rep d F io x v ∧ bindT t x e = some e' ∧ ∀ sg', Rl d F io sg' H e' M → Same t.ix sg sg' → Q sg' H
/-- names one after another -/
def gNames : List Nat → TGs
  | [] => gNil
  | i :: is => gCons (gName i) (gNames is)
theorem gNames_of {d : Wd} {F : Hp} {io : List Addr} {H : Hp} {M : Sto} : ∀ {is : List Nat} {ds : List D} {vs : List V} {sg : L2.St} {e e' : Env} {Q : L2.St → Hp → Prop}, Rl d F io sg H e M → Reps d F io ds vs → Env.sets is ds e = some e' → (∀ sg', Rl d F io sg' H e' M → Same is sg sg' → Q sg' H) → gNames is vs sg H Q
  | [], [], vs, sg, e, e', Q, r, h, k, q => by
    simp only [Reps] at h; subst h
    simp only [Env.sets, Option.some.injEq] at k; subst k
    exact ⟨rfl, q sg r ⟨rfl, fun _ _ => rfl⟩⟩
  | i :: is, x :: ds, vs, sg, e, e', Q, r, h, k, q => by
    simp only [Reps] at h
    obtain ⟨v, vs', rfl, h1, h2⟩ := h
    simp only [Env.sets] at k
    obtain ⟨e1, k1, k2⟩ := Option.bind_eq_some_iff.mp k
    unfold Env.set at k1
    split at k1
    · rename_i hi
      cases k1
      exact ⟨v, vs', rfl, gNames_of (r.setv h1 hi) h2 k2 fun sg' r' s' => q sg' r' (Same.set1.trans s')⟩
    · cases k1
  | [], _ :: _, _, _, _, _, _, _, _, k, _ => by simp only [Env.sets] at k; cases k
  | _ :: _, [], _, _, _, _, _, _, _, k, _ => by simp only [Env.sets] at k; cases k
/-- the expressions are names -/
def nmsOf : List Expr → Option (List Str)
  | [] => some []
  | .Name x _ :: r => (nmsOf r).map fun l => x :: l
  | _ :: _ => none
section
variable {X : Cx} {d : Wd} {pos : Pos}
def NmOk (X : Cx) (i : Nat) (x : Str) : Prop := X.N[i]? = some x ∧ Loc X.env.scope x ∧ (X.fn x = true ∨ X.env.scope.names.lookup x = some .local)
theorem g_nm {i : Nat} {x : Str} (hN : X.N.Nodup) (h : NmOk X i x) : PG X (.Name x pos) (tgI d (.nm i)) := by
  refine PG_imp (pg_name hN h.1 h.2.1 h.2.2) fun v sg H Q q => ?_
  obtain ⟨F, io, x, e, M, e', r, hx, hb, q⟩ := q
  simp only [bindT, Env.set] at hb
  split at hb
  · rename_i hi
    cases hb
    exact q _ (r.setv hx hi) Same.set1
  · cases hb
theorem gs_names (hN : X.N.Nodup) : ∀ {es : List Expr} {xs : List Str} {is : List Nat}, nmsOf es = some xs → (∀ p ∈ is.zip xs, NmOk X p.1 p.2) → is.length = xs.length →
    PGs X es (gNames is) ∧ (assignEach es X.env).length = is.length ∧ (assignEach es X.env).findIdx? (·.1) = none
  | [], xs, is, h, _, hl => by
    simp only [nmsOf, Option.some.injEq] at h; subst h
    cases is with
    | nil => exact ⟨pgs_nil, rfl, rfl⟩
    | cons _ _ => simp at hl
  | e :: r, xs, is, h, hk, hl => by
    cases e with
    | Name x p =>
      simp only [nmsOf, Option.map_eq_some_iff] at h
      obtain ⟨l, h1, rfl⟩ := h
      cases is with
      | nil => simp at hl
      | cons i is =>
        obtain ⟨a, b, c⟩ := gs_names hN h1 (fun q hq => hk q (by rw [List.zip_cons_cons]; exact List.mem_cons_of_mem _ hq)) (by simpa using hl)
        have k := hk (i, x) (by rw [List.zip_cons_cons]; exact List.mem_cons_self)
        refine ⟨pgs_cons (pg_name hN k.1 k.2.1 k.2.2) a rfl, ?_, ?_⟩
        · show (_ :: assignEach r X.env).length = _
          rw [List.length_cons, List.length_cons, b]
        · show ((false, _) :: assignEach r X.env).findIdx? (·.1) = none
          rw [List.findIdx?_cons, c]; rfl
    | _ => simp [nmsOf] at h
theorem PG_or {tg : Expr} {t t' : TG} (h : PG X tg t) (h' : PG X tg t') : PG X tg (fun v sg H Q => t v sg H Q ∨ t' v sg H Q) := ⟨fun pins s sg H v u Q I r q => by
  rcases q with q | q
  · exact h.run pins s sg H v u Q I r q
  · exact h'.run pins s sg H v u Q I r q⟩
theorem g_tup {es : List Expr} {xs : List Str} {is : List Nat} {k : Nat} (hc : X.calm = true) (hK : X.K = d.K) (hN : X.N.Nodup) (h : nmsOf es = some xs) (hk : ∀ p ∈ is.zip xs, NmOk X p.1 p.2) (hl : is.length = xs.length) : PG X (.Tuple es k pos) (tgI d (.tup is)) := by
  obtain ⟨a, b, c⟩ := gs_names hN h hk hl
  refine PG_imp (PG_or (pg_tup hc a b c) (pg_lst hc a b c)) fun v sg H Q q => ?_
  obtain ⟨F, io, x, e, M, e', r, hx, hb, q⟩ := q
  have len : ∀ {is : List Nat} {ds : List D} {e e' : Env}, Env.sets is ds e = some e' → ds.length = is.length := by
    intro is
    induction is with
    | nil => intro ds e e' h; cases ds with
      | nil => rfl
      | cons _ _ => simp only [Env.sets] at h; cases h
    | cons i is ih => intro ds e e' h; cases ds with
      | nil => simp only [Env.sets] at h; cases h
      | cons _ _ =>
        simp only [Env.sets] at h
        obtain ⟨e1, k1, k2⟩ := Option.bind_eq_some_iff.mp h
        simp [ih k2]
  cases x with
  | tup l =>
    simp only [bindT] at hb
    obtain ⟨a, vs, rfl, h1, h2⟩ := rep_tup hx
    exact .inl ⟨a, vs, rfl, by rw [hK]; exact r.sub.sqt h1, by rw [← h2.length, len hb], gNames_of r h2 hb q⟩
  | lst l =>
    simp only [bindT] at hb
    obtain ⟨a, vs, rfl, h1, h2⟩ := rep_lst hx
    exact .inr ⟨a, vs, rfl, SqL.of (r.sub _ _ h1), by rw [← h2.length, len hb], gNames_of r h2 hb q⟩
  | _ => simp only [bindT] at hb; cases hb
end
end Rb

/-! RbComp: comprehensions. Own work. -/
namespace Rb
open PySem PySem.Spec PyProof.Rows L2
/-- nothing is wished of exceptions -/
def W0 : WX := fun _ _ _ _ => False
section
variable {d : Wd} {F F1 : Hp} {io io1 : List Addr} {H H1 : Hp} {M M1 : Sto} {a : Addr} {vs : List V}
/-- a list of its own, later on -/
theorem own_later (hH : H a = some (.lst vs)) (hF : F a = none) (hi : a ∉ io) (x : Ex F io H F1 io1 H1) : H1 a = some (.lst vs) ∧ F1 a = none ∧ a ∉ io1 := by
  refine ⟨x.keep a _ hH hi, ?_, fun q => ?_⟩
  · cases q : F1 a with
    | none => rfl
    | some o =>
      rcases x.frz a o q with z | z
      · rw [hF] at z; cases z
      · rw [hH] at z; cases z
  · rcases x.new a q with z | z
    · exact hi z
    · rw [hH] at z; cases z
/-- .. written -/
theorem ex_wr {o : HO} {D : Addr} (x : Ex F io H F1 io1 H1) (h : H D = none) : Ex F io H F1 io1 (upd H1 D o) where
  sub := x.sub
  pre := x.pre
  frz := x.frz
  new := x.new
  keep := fun a u e n => by
    have : a ≠ D := fun z => by rw [z, h] at e; cases e
    rw [upd_ne this]; exact x.keep a u e n
  there := fun a e => by
    have : a ≠ D := fun z => by rw [z, h] at e; exact e rfl
    rw [upd_ne this]; exact x.there a e
  od := fun a c dx fs e => by
    have : a ≠ D := fun z => by rw [z, h] at e; cases e
    rw [upd_ne this]; exact x.od a c dx fs e
theorem cels_wr {o : HO} {D : Addr} {ws : List V} (c : Cels d F io H M) (h : H D = some (.lst ws)) (n : D ∉ io) : Cels d F io (upd H D o) M where
  len := c.len
  nd := c.nd
  out := c.out
  cel := fun r k e => by
    obtain ⟨b, h1, h2⟩ := c.cel r k e
    refine ⟨b, h1, ?_⟩
    have nb : b ≠ D := fun z => n (z ▸ List.mem_of_getElem? h1)
    cases k with
    | lst l => obtain ⟨vs, e1, e2⟩ := h2; exact ⟨vs, by rw [upd_ne nb]; exact e1, e2⟩
    | obj c fs =>
      obtain ⟨dx, vfs, e1, e2, e3, e4⟩ := h2
      have nd : dx ≠ D := fun z => by rw [z, h] at e2; cases e2
      exact ⟨dx, vfs, by rw [upd_ne nb]; exact e1, by rw [upd_ne nd]; exact e2, e3, e4⟩
    | dct kvs => obtain ⟨vkv, e1, e2⟩ := h2; exact ⟨vkv, by rw [upd_ne nb]; exact e1, e2⟩
theorem sub_wr {o : HO} {D : Addr} (s : Sub F H) (h : F D = none) : Sub F (upd H D o) := s.updO h
end
theorem wipe_wipe {sg : L2.St} {vs : List Nat} : wipe (wipe sg vs) vs = wipe sg vs := by
  apply List.ext_getElem?
  intro i
  rw [wipe_get, wipe_get, wipe_length]
  by_cases h : i ∈ vs ∧ i < sg.length
  · rw [if_pos h, if_pos h]
  · rw [if_neg h, if_neg h]
theorem satF_noExc {α : Type} {d : Wd} {W : WX} {sg : L2.St} {F : Hp} {io : List Addr} {H : Hp} {r : Res α} {k : α → Sto → Res D} {Q : VK} (h : SatF d W sg F io H ((noExc r).bind k) Q) : ∃ l M, r = .ok l M ∧ SatF d W sg F io H (k l M) Q := by
  cases r with
  | ok a M => exact ⟨a, M, rfl, h⟩
  | exc _ _ _ => exact h.elim
  | stuck => exact h.elim
theorem ok_bind {α β : Type} {r : Res α} {f : α → Sto → Res β} {x : β} {M' : Sto} (h : r.bind f = .ok x M') : ∃ a M1, r = .ok a M1 ∧ f a M1 = .ok x M' := by
  cases r with
  | ok a M1 => exact ⟨a, M1, rfl, h⟩
  | exc _ _ _ => cases h
  | stuck => cases h
/-- an evaluation whose result is known -/
theorem sat_ok {α β : Type} {d : Wd} {W : WX} {sg : L2.St} {F : Hp} {io : List Addr} {H : Hp} {r : Res α} {a : α} {M : Sto} {R : Hp → List Addr → Hp → α → β → Prop} {Q : β → Hp → Prop} (e : r = .ok a M)
    (h : ∀ F' io' H' b, Ex F io H F' io' H' → Sub F' H' → Cels d F' io' H' M → R F' io' H' a b → Q b H') : Sat d W sg F io H r R Q := by
  subst e; exact h
/-- a block's tests -/
def ttO (d : Wd) (C : CallT) : Option P → TT
  | none => tYes
  | some q => ttI d C W0 q
/-- one turn's body -/
noncomputable def cBody (T : Tb) (C : CallT) (x : P) (c : Option P) (e' : Env) (M2 : Sto) : Res (Option D) := match c with
        | none => (ev T C x e' M2).bind fun y M3 => .ok (some y) M3
        | some q => (ev T C q e' M2).bind fun b M3 => match b with
          | .bl true => (ev T C x e' M3).bind fun y M4 => .ok (some y) M4
          | .bl false => .ok none M3
          | _ => .stuck
def oL {α : Type} : Option α → List α
  | some x => [x] | none => []
section
variable {X : Cx} {d : Wd} {C : CallT}
/-- the body appended to the list at D -/
theorem body_of {x : P} {c : Option P} {e' : Env} {sg' : L2.St} {F : Hp} {io : List Addr} {H : Hp} {M M' : Sto} {o : Option D} {D : Addr} {acc : List V} {N : Hp → Prop}
    (rl : Rl d F io sg' H e' M) (hD : H D = some (.lst acc)) (hF : F D = none) (hi : D ∉ io) (hl : acc.length < sizeLine ∨ oL o = []) (h : cBody d.T C x c e' M = .ok o M')
    (k : ∀ F' io' H' acc', Ex F io H F' io' H' → (∀ F0 io0 H0, H0 D = none → Ex F0 io0 H0 F io H → Ex F0 io0 H0 F' io' (upd H' D (.lst (acc ++ acc')))) → Sub F' (upd H' D (.lst (acc ++ acc'))) → Cels d F' io' (upd H' D (.lst (acc ++ acc'))) M' → F' D = none → D ∉ io' → Reps d F' io' (oL o) acc' → N (upd H' D (.lst (acc ++ acc')))) :
    ttO d C c sg' H fun b H3 => if b = true then teI d C W0 x sg' H3 fun y H4 => ∃ acc, H4 D = some (.lst acc) ∧ acc.length < sizeLine ∧ N (upd H4 D (.lst (acc ++ [y]))) else N H3 := by
  have elt : ∀ {F2 io2 H2 M2 y}, Rl d F2 io2 sg' H2 e' M2 → Ex F io H F2 io2 H2 → ev d.T C x e' M2 = .ok y M' → o = some y → teI d C W0 x sg' H2 fun y H4 => ∃ acc, H4 D = some (.lst acc) ∧ acc.length < sizeLine ∧ N (upd H4 D (.lst (acc ++ [y]))) := by
    intro F2 io2 H2 M2 y rl2 x2 hy ho
    refine ⟨F2, io2, e', M2, rl2, sat_ok hy fun F' io' H' b x3 s3 c3 r3 => ?_⟩
    obtain ⟨k1, k2, k3⟩ := own_later hD hF hi (x2.trans x3)
    have hl' : acc.length < sizeLine := by
      rcases hl with q | q
      · exact q
      · rw [ho] at q; cases q
    refine ⟨acc, k1, hl', k F' io' H' [b] (x2.trans x3) (fun F0 io0 H0 h0 x0 => ex_wr (x0.trans (x2.trans x3)) h0) (sub_wr s3 k2) (cels_wr c3 k1 k3) k2 k3 ?_⟩
    subst ho
    exact Reps.cons r3 Reps.nil
  cases c with
  | none =>
    simp only [cBody] at h
    obtain ⟨y, My, h1, h2⟩ := ok_bind h
    cases h2
    simp only [ttO, tYes, if_true]
    exact elt rl (Ex.refl _ _ _) h1 rfl
  | some q =>
    simp only [cBody] at h
    obtain ⟨b, Mb, h1, h2⟩ := ok_bind h
    refine ⟨F, io, e', M, rl, ?_⟩
    cases b with
    | bl bb =>
      refine sat_ok (a := bb) (M := Mb) (by rw [tb, h1]; rfl) fun F' io' H' b' x1 s1 c1 hb => ?_
      have hb : bb = b' := hb
      subst hb
      cases bb with
      | true =>
        rw [if_pos rfl]
        simp only at h2
        obtain ⟨y, My, h3, h4⟩ := ok_bind h2
        cases h4
        exact elt (rl.ex x1 s1 c1) x1 h3 rfl
      | false =>
        rw [if_neg (by decide)]
        simp only at h2
        cases h2
        obtain ⟨k1, k2, k3⟩ := own_later hD hF hi x1
        have e : upd H' D (.lst acc) = H' := by
          funext z
          by_cases hz : z = D
          · subst hz; rw [upd_same, k1]
          · rw [upd_ne hz]
        have := k F' io' H' [] x1 (fun F0 io0 H0 h0 x0 => by rw [List.append_nil, e]; exact x0.trans x1) (by rw [List.append_nil, e]; exact s1) (by rw [List.append_nil, e]; exact c1) k2 k3 Reps.nil
        rw [List.append_nil, e] at this
        exact this
    | _ => simp only at h2; cases h2

theorem compGo_cons {f : D → Sto → Res (Option D)} {g : Grd} {x : D} {r : List D} {M M' : Sto} {l : List D} (h : compGo f g (x :: r) M = .ok l M') : g.ok M ∧ ∃ o Ma l', f x M = .ok o Ma ∧ compGo f g r Ma = .ok l' M' ∧ l = oL o ++ l' := by
  simp only [compGo] at h
  split at h
  · rename_i hg
    refine ⟨hg, ?_⟩
    obtain ⟨o, Ma, h1, h2⟩ := ok_bind h
    obtain ⟨l', Mb, h3, h4⟩ := ok_bind h2
    refine ⟨o, Ma, l', h1, ?_, ?_⟩
    · cases o <;> cases h4 <;> exact h3
    · cases o <;> cases h4 <;> rfl
  · cases h
theorem compGo_nil {f : D → Sto → Res (Option D)} {g : Grd} {M M' : Sto} {l : List D} (h : compGo f g [] M = .ok l M') : g.ok M ∧ l = [] ∧ M' = M := by
  simp only [compGo] at h
  split at h
  · rename_i hg; cases h; exact ⟨hg, rfl, rfl⟩
  · cases h
end
/-- no list of its own in a name -/
def NoOwn (e : Env) : Prop := ∀ (i : Nat) (l : List D), e[i]? ≠ some (Slot.own l)
section
variable {d : Wd} {F F' : Hp} {io io' : List Addr} {H H' : Hp} {M M' : Sto} {sg : L2.St} {e e' : Env}
theorem noOwn_get (e : Env) (i : Nat) : e.noOwn[i]? = (e[i]?).map fun s => match s with | .own _ => .un | s => s := by unfold Env.noOwn; first | (rw [List.getElem?_map]; done) | (rw [List.getElem?_map]; cases e[i]? with | none => rfl | some s => cases s <;> rfl)
theorem noOwn_no (e : Env) : NoOwn e.noOwn := fun i l h => by
  rw [noOwn_get] at h
  obtain ⟨s, h1, h2⟩ := Option.map_eq_some_iff.mp h
  cases s <;> cases h2
theorem Rl.noOwn (r : Rl d F io sg H e M) : Rl d F io sg H e.noOwn M where
  sub := r.sub
  cl := r.cl
  len := by unfold Env.noOwn; rw [List.length_map]; exact r.len
  val := fun i x h => by
    rw [noOwn_get] at h
    obtain ⟨s, h1, h2⟩ := Option.map_eq_some_iff.mp h
    cases s with
    | val y => cases h2; exact r.val i x h1
    | _ => cases h2
  own := fun i l h => (noOwn_no e i l h).elim
  dis := fun i j l m a h _ _ _ => (noOwn_no e i l h).elim
theorem Rl.nex (r : Rl d F io sg H e M) (n : NoOwn e) (s : Sub F F') (p : Pre io io') (s' : Sub F' H') (c : Cels d F' io' H' M') : Rl d F' io' sg H' e M' where
  sub := s'
  cl := c
  len := r.len
  val := fun i y h => by
    rcases r.val i y h with h | ⟨v, h1, h2⟩
    · exact .inl h
    · exact .inr ⟨v, h1, Rep.mono s p _ _ h2⟩
  own := fun i l h => (n i l h).elim
  dis := fun i j l m a h _ _ _ => (n i l h).elim
theorem NoOwn.set {i : Nat} {s : Slot} (n : NoOwn e) (h : ∀ l, s ≠ .own l) : NoOwn (List.set e i s) := fun j l q => by
  by_cases k : i = j
  · subst k
    by_cases hl : i < e.length
    · rw [List.getElem?_set_self hl] at q; cases q; exact h l rfl
    · rw [List.getElem?_eq_none (by simpa using hl)] at q; cases q
  · rw [List.getElem?_set_ne k] at q; exact n j l q
theorem NoOwn.uns (n : NoOwn e) : ∀ vs, NoOwn (e.uns vs)
  | [] => n
  | v :: vs => (NoOwn.uns n vs).set fun l h => by cases h
theorem NoOwn.sets : ∀ {is : List Nat} {ds : List D} {e e' : Env}, NoOwn e → Env.sets is ds e = some e' → NoOwn e'
  | [], [], e, e', n, h => by simp only [Env.sets, Option.some.injEq] at h; subst h; exact n
  | i :: is, x :: ds, e, e', n, h => by
    simp only [Env.sets] at h
    obtain ⟨e1, h1, h2⟩ := Option.bind_eq_some_iff.mp h
    unfold Env.set at h1
    split at h1
    · cases h1; exact NoOwn.sets (n.set fun l h => by cases h) h2
    · cases h1
  | [], _ :: _, _, _, _, h => by simp only [Env.sets] at h; cases h
  | _ :: _, [], _, _, _, h => by simp only [Env.sets] at h; cases h
theorem NoOwn.bind {t : Tgt} {x : D} (n : NoOwn e) (h : bindT t x e = some e') : NoOwn e' := by
  cases t with
  | nm i =>
    simp only [bindT, Env.set] at h
    split at h
    · cases h; exact n.set fun l h => by cases h
    · cases h
  | tup is =>
    cases x with
    | tup l => simp only [bindT] at h; exact NoOwn.sets n h
    | lst l => simp only [bindT] at h; exact NoOwn.sets n h
    | _ => simp only [bindT] at h; cases h
end
section
variable {X : Cx} {d : Wd} {C : CallT} {W : WX} {pos : Pos}
/-- a clause's turns: the new list stands at D, pre in it; base: the state ahead of D -/
theorem lc_walk {Rel : Hp → List Addr → Hp → Prop} {x : P} {c : Option P} {t : Tgt} {eX : Env} {sgX : L2.St} {Fb Fw : Hp} {iob iow : List Addr} {Hb Hw : Hp} {Mw MF : Sto} {g : Grd} {ds lF pre : List D} {J : It} {Da : Addr} {vs : List Nat} {preV : List V} {S : Hp → Prop}
    (hDb : Hb Da = none) (xw : Ex Fb iob Hb Fw iow Hw) (sw : Sub Fw Hw) (cw : Cels d Fw iow Hw Mw) (wk : Wk d Rel g ds J)
    (hRel : ∀ F2 io2 H, Ex Fb iob Hb F2 io2 H → Sub Fw F2 → Pre iow io2 → Rel F2 io2 H)
    (hRl : ∀ F2 io2 H M2, Ex Fb iob Hb F2 io2 H → Sub Fw F2 → Pre iow io2 → Sub F2 H → Cels d F2 io2 H M2 → Rl d F2 io2 sgX H eX M2)
    (hvs : vs = t.ix) (hn : (pre ++ lF).length ≤ lim)
    (h : compGo (fun dd M2 => match bindT t dd (eX.uns t.ix) with | none => .stuck | some e' => cBody d.T C x c e' M2) g ds Mw = .ok lF MF)
    (hD : Hw Da = some (.lst preV)) (hF : Fw Da = none) (hi : Da ∉ iow) (hr : Reps d Fw iow pre preV)
    (fin : ∀ F' io' H' accV, Ex Fb iob Hb F' io' H' → Sub Fw F' → Pre iow io' → Sub F' H' → Cels d F' io' H' MF → H' Da = some (.lst accV) → F' Da = none → Da ∉ io' → Reps d F' io' (pre ++ lF) accV → S H') :
    ∃ Wi : Nat → Nat → Hp → Prop, (∃ m, Wi 0 m Hw) ∧ ∀ i m H, Wi i m H →
      (J.stop i H ∧ S H) ∨ (J.go i H ∧ ∃ Nx : Hp → Prop, (∀ H', Nx H' → ∃ m', m' < m ∧ Wi (i + 1) m' H') ∧ ∀ v H', J.yld i H v H' → tgI d t v (wipe sgX vs) H' fun s2 H2 => wipe s2 vs = wipe sgX vs ∧ ttO d C c s2 H2 fun b H3 =>
        if b = true then teI d C W0 x s2 H3 fun y H4 => ∃ acc, H4 Da = some (.lst acc) ∧ acc.length < sizeLine ∧ Nx (upd H4 Da (.lst (acc ++ [y]))) else Nx H3) := by
  subst hvs
  let f : D → Sto → Res (Option D) := fun dd M2 => match bindT t dd (eX.uns t.ix) with | none => .stuck | some e' => cBody d.T C x c e' M2
  let Pv : Nat → Hp → Prop := fun i H => ∃ F2 io2 M2 accD accV lr, Ex Fb iob Hb F2 io2 H ∧ Sub Fw F2 ∧ Pre iow io2 ∧ Sub F2 H ∧ Cels d F2 io2 H M2 ∧ H Da = some (.lst accV) ∧ F2 Da = none ∧ Da ∉ io2 ∧ Reps d F2 io2 accD accV ∧
    compGo f g (ds.drop i) M2 = .ok lr MF ∧ accD ++ lr = pre ++ lF
  refine ⟨fun i m H => m = ds.length - i ∧ i ≤ ds.length ∧ Pv i H, ⟨ds.length, rfl, Nat.zero_le _, Fw, iow, Mw, pre, preV, lF, xw, Sub.refl _, Pre.refl _, sw, cw, hD, hF, hi, hr, h, rfl⟩, ?_⟩
  rintro i m H ⟨rfl, hle, F2, io2, M2, accD, accV, lr, x2, sb, pb, s2, c2, hD2, hF2, hi2, hr2, hgo, heq⟩
  have rel := hRel F2 io2 H x2 sb pb
  by_cases hlt : i < ds.length
  · right
    rw [List.drop_eq_getElem_cons hlt] at hgo
    obtain ⟨hg, o, Ma, l', hf, hgo', rfl⟩ := compGo_cons hgo
    refine ⟨wk.go i F2 io2 H M2 hlt rel s2 c2 hg, Pv (i + 1), fun H' p => ⟨ds.length - (i + 1), by omega, rfl, hlt, p⟩, fun v H' y => ?_⟩
    obtain ⟨F3, x3, s3, c3, r3⟩ := wk.yld i ds[i] v F2 io2 H M2 H' (by simp [hlt]) rel s2 c2 hg y
    obtain ⟨k1, k2, k3⟩ := own_later hD2 hF2 hi2 x3
    have rl := hRl F3 io2 H' M2 (x2.trans x3) (sb.trans x3.sub) pb s3 c3
    have hf : (match bindT t ds[i] (eX.uns t.ix) with | none => .stuck | some e' => cBody d.T C x c e' M2) = Res.ok o Ma := hf
    cases hb : bindT t ds[i] (eX.uns t.ix) with
    | none => rw [hb] at hf; cases hf
    | some e' =>
      rw [hb] at hf
      refine ⟨F3, io2, ds[i], eX.uns t.ix, M2, e', rl.uns _, r3, hb, fun sg' rl' sm => ⟨?_, ?_⟩⟩
      · rw [wipe_same sm fun i h => h, wipe_wipe]
      · have hlen : accV.length < sizeLine ∨ oL o = [] := by
          cases o with
          | none => exact .inr rfl
          | some y =>
            refine .inl ?_
            have e1 : accD.length = accV.length := hr2.length
            have e2 : (accD ++ (oL (some y) ++ l')).length = (pre ++ lF).length := by rw [heq]
            simp only [oL, List.length_append, List.length_cons, List.length_nil] at e2
            rw [List.length_append] at hn
            have : sizeLine = lim := lim_eq.symm
            omega
        refine body_of (N := Pv (i + 1)) (o := o) (M' := Ma) (acc := accV) rl' k1 k2 k3 hlen hf fun F' io' H4 acc' x4 up s4 c4 n1 n2 r4 => ?_
        refine ⟨F', io', Ma, accD ++ oL o, accV ++ acc', l', up Fb iob Hb hDb (x2.trans x3), (sb.trans x3.sub).trans x4.sub, pb.trans x4.pre, s4, c4, upd_same, n1, n2, ?_, hgo', by rw [← heq, List.append_assoc]⟩
        exact (Reps.mono (x3.sub.trans x4.sub) x4.pre _ _ hr2).append r4
  · left
    have e : i = ds.length := by omega
    subst e
    rw [List.drop_of_length_le (Nat.le_refl _)] at hgo
    obtain ⟨hg, e1, e2⟩ := compGo_nil hgo
    refine ⟨wk.stop F2 io2 H _ rel s2 c2 hg, fin F2 io2 H accV x2 sb pb s2 (by rw [e2]; exact c2) hD2 hF2 hi2 ?_⟩
    rw [e1, List.append_nil] at heq
    rw [← heq]; exact hr2
theorem pts_of {c : Option P} {ifs : List Expr} (h : match c, ifs with | none, [] => True | some q, [e] => PT X e (ttI d C W0 q) | _, _ => False) : PTs X ifs (ttO d C c) := by
  cases c with
  | none => cases ifs with
    | nil => exact pts_nil
    | cons _ _ => exact h.elim
  | some q => cases ifs with
    | nil => exact h.elim
    | cons e r => cases r with
      | nil => exact pts_one h
      | cons _ _ => exact h.elim
/-- [elt for target in source if test] -/
theorem lc_imp {x : P} {c : Option P} {t : Tgt} {s : Src} {vs : List Nat} (hvs : vs = t.ix) : ∀ sg H Q, tfI d C W (.comp x t s c) sg H Q → tLc (tiI d C W s) (tgI d t) (ttO d C c) (teI d C W0 x) vs sg H Q := by
  intro sg H Q h
  obtain ⟨F, io, e, M, rl, h⟩ := tfI_eq.mp h
  have hev : ev d.T C (.comp x t s c) e M = (evS d.T C s e M).bind fun gl M1 => (noExc (compGo (fun dd M2 => match bindT t dd (e.uns t.ix) with | none => .stuck | some e' => cBody d.T C x c e' M2) gl.1 gl.2 M1)).bind fun l M2 => if l.length ≤ lim then .ok (.lst l) M2 else .stuck := by
    simp only [ev]; rfl
  rw [hev] at h
  refine ⟨F, io, e, M, rl, (h.bind (RS d)).mono fun J H1 m => ?_⟩
  obtain ⟨F1, io1, M1, gl, x1, s1, c1, wk, h1⟩ := m
  intro Da hDa
  obtain ⟨lF, MF, hgo, h2⟩ := satF_noExc h1
  split at h2
  · rename_i hz
    obtain ⟨x2, s2, c2⟩ := ex_own (o := .lst []) s1 c1 hDa
    refine lc_walk (pre := []) (preV := []) (eX := e) (sgX := sg) (S := fun H => Q (.ref Da) H) hDa x2 s2 c2 wk (fun F2 io2 H x _ _ => x) (fun F2 io2 H M2 x _ _ s c => rl.ex (x1.trans x) s c) hvs (by simpa using hz) hgo upd_same (s1.none hDa) (fun z => c1.has z hDa) Reps.nil
      fun F' io' H' accV x' _ _ s' c' k1 k2 k3 r => ?_
    obtain ⟨l', e1, h2⟩ := h2
    cases e1
    exact h2 F' io' H' Da accV x' s' c' hDa k1 k2 k3 (by simpa using r)
  · exact h2.elim
theorem f_comp {x : P} {c : Option P} {t : Tgt} {s : Src} {elt tg iter : Expr} {ifs : List Expr} {scope : Scope} {own : List (Str × Nat)} (hc : X.calm = true) (hN : X.N.Nodup) (hi : PI X tg iter (tiI d C W s)) (ok : BlkOk X.N X.env.scope scope own) (hvs : own.map (·.2) = t.ix)
    (hg : ∀ (s : Shared) (H : Hp) (C : Addr) (cl : List (Str × Addr)) (fp : List Addr), PG (X.blk s H scope (compEnvC scope cl C X.env) fp) tg (tgI d t)) (ht : ∀ (s : Shared) (H : Hp) (Ca : Addr) (cl : List (Str × Addr)) (fp : List Addr), PTs (X.blk s H scope (compEnvC scope cl Ca X.env) fp) ifs (ttO d C c))
    (he : ∀ (s : Shared) (H : Hp) (Ca : Addr) (cl : List (Str × Addr)) (fp : List Addr), PE (X.blk s H scope (compEnvC scope cl Ca X.env) fp) elt (teI d C W0 x)) (hs : ∀ v, foldedSetIterable iter X.env v = pure v) :
    PE X (.ListComp elt [⟨tg, iter, ifs, 0⟩] scope pos) (tfI d C W (.comp x t s c)) :=
  PE_imp (pe_lc hc hN hi ok hg ht he hs) (lc_imp hvs)
theorem comp2Go_cons {f : D → Sto → Res (List D)} {g : Grd} {x : D} {r : List D} {M M' : Sto} {l : List D} (h : comp2Go f g (x :: r) M = .ok l M') : g.ok M ∧ ∃ l1 Ma l2, f x M = .ok l1 Ma ∧ comp2Go f g r Ma = .ok l2 M' ∧ l = l1 ++ l2 := by
  simp only [comp2Go] at h
  split at h
  · rename_i hg
    refine ⟨hg, ?_⟩
    obtain ⟨o, Ma, h1, h2⟩ := ok_bind h
    obtain ⟨l', Mb, h3, h4⟩ := ok_bind h2
    cases h4
    exact ⟨o, Ma, l', h1, h3, rfl⟩
  · cases h
theorem comp2Go_nil {f : D → Sto → Res (List D)} {g : Grd} {M M' : Sto} {l : List D} (h : comp2Go f g [] M = .ok l M') : g.ok M ∧ l = [] ∧ M' = M := by
  simp only [comp2Go] at h
  split at h
  · rename_i hg; cases h; exact ⟨hg, rfl, rfl⟩
  · cases h
/-- one turn of the outer clause -/
noncomputable def cBody2 (T : Tb) (C : CallT) (x : P) (s2 : Src) (t2 : Tgt) (e' : Env) (M2 : Sto) : Res (List D) :=
  (evS T C s2 e' M2).bind fun gl2 M3 => if gl2.1.isEmpty then compGo (fun d2 M4 => match bindT t2 d2 (e'.uns t2.ix) with | none => .stuck | some e2 => cBody T C x none e2 M4) [] gl2.2 M3 else .stuck
theorem lc2_imp {x a : P} {t t2 : Tgt} {s : Src} {vs vs1 : List Nat} (hvs : vs = t.ix ++ t2.ix) (hvs1 : vs1 = t2.ix) : ∀ sg H Q, tfI d C W (.comp2 x t s t2 (.seq a)) sg H Q → tLc2 (tiI d C W s) (tgI d t) tYes (tiV d C W0 (.seq a)) (tgI d t2) tYes (teI d C W0 x) vs vs1 sg H Q := by
  intro sg H Q h
  obtain ⟨F, io, e, M, rl, h⟩ := tfI_eq.mp h
  have hev : ev d.T C (.comp2 x t s t2 (.seq a)) e M = (evS d.T C s e M).bind fun gl M1 => (noExc (comp2Go (fun dd M2 => match bindT t dd (e.noOwn.uns (t.ix ++ t2.ix)) with | none => .stuck | some e' => cBody2 d.T C x (.seq a) t2 e' M2) gl.1 gl.2 M1)).bind fun l M2 => if l.length ≤ lim then .ok (.lst l) M2 else .stuck := by
    simp only [ev]; rfl
  rw [hev] at h
  refine ⟨F, io, e, M, rl, (h.bind (RS d)).mono fun J H1 m => ?_⟩
  obtain ⟨F1, io1, M1, gl, x1, s1, c1, wk, h1⟩ := m
  intro Da hDa
  obtain ⟨lF, MF, hgo, h2⟩ := satF_noExc h1
  split at h2
  case isFalse => exact h2.elim
  rename_i hz
  obtain ⟨x2, s2, c2⟩ := ex_own (o := .lst []) s1 c1 hDa
  subst hvs hvs1
  let f : D → Sto → Res (List D) := fun dd M2 => match bindT t dd (e.noOwn.uns (t.ix ++ t2.ix)) with | none => .stuck | some e' => cBody2 d.T C x (.seq a) t2 e' M2
  let Pv : Nat → Hp → Prop := fun i H => ∃ F2 io2 M2 accD accV lr, Ex F1 io1 H1 F2 io2 H ∧ Sub F2 H ∧ Cels d F2 io2 H M2 ∧ H Da = some (.lst accV) ∧ F2 Da = none ∧ Da ∉ io2 ∧ Reps d F2 io2 accD accV ∧
    comp2Go f gl.1 (gl.2.drop i) M2 = .ok lr MF ∧ accD ++ lr = lF
  refine ⟨fun i m H => m = gl.2.length - i ∧ i ≤ gl.2.length ∧ Pv i H, ⟨gl.2.length, rfl, Nat.zero_le _, F1, io1, M1, [], [], lF, x2, s2, c2, upd_same, s1.none hDa, fun z => c1.has z hDa, Reps.nil, hgo, rfl⟩, ?_⟩
  rintro i m H ⟨rfl, hle, F2, io2, M2, accD, accV, lr, y2, s3, c3, hD2, hF2, hi2, hr2, hgo, heq⟩
  by_cases hlt : i < gl.2.length
  · right
    rw [List.drop_eq_getElem_cons hlt] at hgo
    obtain ⟨hg, l1, Ma, l2, hf, hgo', rfl⟩ := comp2Go_cons hgo
    refine ⟨wk.go i F2 io2 H M2 hlt y2 s3 c3 hg, Pv (i + 1), fun H' p => ⟨gl.2.length - (i + 1), by omega, rfl, hlt, p⟩, fun v H' y => ?_⟩
    obtain ⟨F3, x3, s4, c4, r3⟩ := wk.yld i gl.2[i] v F2 io2 H M2 H' (by simp [hlt]) y2 s3 c3 hg y
    obtain ⟨k1, k2, k3⟩ := own_later hD2 hF2 hi2 x3
    have rl2 := ((rl.ex (x1.trans (y2.trans x3)) s4 c4).noOwn).uns (t.ix ++ t2.ix)
    replace hf : (match bindT t gl.2[i] (e.noOwn.uns (t.ix ++ t2.ix)) with | none => .stuck | some e' => cBody2 d.T C x (.seq a) t2 e' M2) = Res.ok l1 Ma := hf
    cases hb : bindT t gl.2[i] (e.noOwn.uns (t.ix ++ t2.ix)) with
    | none => rw [hb] at hf; cases hf
    | some e' =>
      rw [hb] at hf
      have no' : NoOwn e' := NoOwn.bind (NoOwn.uns (noOwn_no e) _) hb
      refine ⟨F3, io2, gl.2[i], _, M2, e', rl2, r3, hb, fun sg' rl' sm => ⟨?_, ?_⟩⟩
      · rw [wipe_same sm fun i h => List.mem_append_left _ h, wipe_wipe]
      · simp only [tYes, if_true]
        unfold cBody2 at hf
        obtain ⟨gl2, M3, hs2, hf2⟩ := ok_bind hf
        split at hf2
        case isFalse => cases hf2
        rename_i hem
        refine ⟨F3, io2, e', M2, rl', sat_ok (a := gl2) (M := M3) (by rw [hs2]; show (if _ then _ else _) = _; rw [if_pos hem]) fun F4 io4 H4 J1 x4 s5 c5 wk1 => ?_⟩
        have wk1 := wk1 (by simpa using hem)
        obtain ⟨k4, k5, k6⟩ := own_later k1 k2 k3 x4
        have hlen : (accD ++ l1).length ≤ lim := by
          have e2 : (accD ++ (l1 ++ l2)).length = lF.length := by rw [heq]
          simp only [List.length_append] at e2 ⊢
          omega
        refine lc_walk (c := none) (pre := accD) (preV := accV) (eX := e') (sgX := sg') (S := Pv (i + 1)) hDa ((y2.trans x3).trans x4) s5 c5 wk1 (fun _ _ _ _ s p => ⟨s, p⟩) (fun F5 io5 H5 M5 _ s p s6 c6 => rl'.nex no' (x4.sub.trans s) (x4.pre.trans p) s6 c6) rfl hlen hf2 k4 k5 k6 (Reps.mono (x3.sub.trans x4.sub) (x3.pre.trans x4.pre) _ _ hr2)
          fun F' io' H' accV' x' _ _ s' c' n1 n2 n3 r => ⟨F', io', Ma, accD ++ l1, accV', l2, x', s', c', n1, n2, n3, r, hgo', by rw [← heq, List.append_assoc]⟩
  · left
    have e : i = gl.2.length := by omega
    subst e
    rw [List.drop_of_length_le (Nat.le_refl _)] at hgo
    obtain ⟨hg, e1, e2⟩ := comp2Go_nil hgo
    refine ⟨wk.stop F2 io2 H _ y2 s3 c3 hg, ?_⟩
    obtain ⟨l', e3, h2⟩ := h2
    cases e3
    rw [e1, List.append_nil] at heq
    exact h2 F2 io2 H Da accV y2 s3 (by rw [e2]; exact c3) hDa hD2 hF2 hi2 (by rw [← heq]; exact hr2)
theorem f_comp2 {x a : P} {t t2 : Tgt} {s : Src} {elt tg iter tg1 iter1 : Expr} {scope : Scope} {own : List (Str × Nat)} (hc : X.calm = true) (hN : X.N.Nodup) (hi : PI X tg iter (tiI d C W s)) (ok : BlkOk X.N X.env.scope scope own) (hvs : own.map (·.2) = t.ix ++ t2.ix)
    (hg : ∀ (s : Shared) (H : Hp) (C : Addr) (cl : List (Str × Addr)) (fp : List Addr), PG (X.blk s H scope (compEnvC scope cl C X.env) fp) tg (tgI d t))
    (hi1 : ∀ (s : Shared) (H : Hp) (Ca : Addr) (cl : List (Str × Addr)) (fp : List Addr), PI (X.blk s H scope (compEnvC scope cl Ca X.env) fp) tg1 iter1 (tiV d C W0 (.seq a)))
    (hg1 : ∀ (s : Shared) (H : Hp) (C : Addr) (cl : List (Str × Addr)) (fp : List Addr), PG (X.blk s H scope (compEnvC scope cl C X.env) fp) tg1 (tgI d t2))
    (he : ∀ (s : Shared) (H : Hp) (Ca : Addr) (cl : List (Str × Addr)) (fp : List Addr), PE (X.blk s H scope (compEnvC scope cl Ca X.env) fp) elt (teI d C W0 x)) (hs : ∀ v, foldedSetIterable iter X.env v = pure v) (hs1 : ∀ env v, foldedSetIterable iter1 env v = pure v) :
    PE X (.ListComp elt [⟨tg, iter, [], 0⟩, ⟨tg1, iter1, [], 0⟩] scope pos) (tfI d C W (.comp2 x t s t2 (.seq a))) :=
  PE_imp (pe_lc2 hc hN hi ok (vs1 := t2.ix) (fun i h => by rw [hvs]; exact List.mem_append_right _ h) hg (fun _ _ _ _ _ => pts_nil) hi1 hg1 (fun _ _ _ _ _ => pts_nil) he hs hs1) (by rw [hvs]; exact lc2_imp rfl rfl)
theorem z_comp {x : P} {t : Tgt} {s : Src} {c : Option P} (e : Env) (M : Sto) (y : D) (M' : Sto) (h : ev d.T C (.comp x t s c) e M = .ok y M') : ∃ l, y = .lst l := by
  simp only [ev] at h
  obtain ⟨a, M1, _, h⟩ := ok_bind h
  obtain ⟨b, M2, _, h⟩ := ok_bind h
  split at h <;> cases h; exact ⟨_, rfl⟩
theorem z_comp2 {x : P} {t t2 : Tgt} {s s2 : Src} (e : Env) (M : Sto) (y : D) (M' : Sto) (h : ev d.T C (.comp2 x t s t2 s2) e M = .ok y M') : ∃ l, y = .lst l := by
  simp only [ev] at h
  obtain ⟨a, M1, _, h⟩ := ok_bind h
  obtain ⟨b, M2, _, h⟩ := ok_bind h
  split at h <;> cases h; exact ⟨_, rfl⟩
end
end Rb

/-! RbStm1: statements: stores, own lists, returns, ifs, blocks. Own work. -/
namespace Rb
open PySem PySem.Spec PyProof.Rows L2
/-- a point of a body, from its entry on -/
structure Stt (d : Wd) (Fb : Hp) (iob : List Addr) (Hb : Hp) (F : Hp) (io : List Addr) (sg : L2.St) (H : Hp) (e : Env) (M : Sto) : Prop where
  ex : Ex Fb iob Hb F io H
  rl : Rl d F io sg H e M
  fr : ∀ (i : Nat) (l : List D) (a : Addr), e[i]? = some (Slot.own l) → sg[i]? = some (some (.ref a)) → Hb a = none
/-- an outcome, as it lies -/
def SatO (d : Wd) (W : WX) (Fb : Hp) (iob : List Addr) (Hb : Hp) (F0 : Hp) (io0 : List Addr) (De : Ends) : Out → Prop
  | .next e M => ∀ F io sg H, Stt d Fb iob Hb F io sg H e M → Sub F0 F → Pre io0 io → De.nx sg H
  | .brk e M => ∀ F io sg H, Stt d Fb iob Hb F io sg H e M → Sub F0 F → Pre io0 io → De.bk sg H
  | .cnt e M => ∀ F io sg H, Stt d Fb iob Hb F io sg H e M → Sub F0 F → Pre io0 io → De.ct sg H
  | .ret x M => ∀ F io H v, Ex Fb iob Hb F io H → Sub F H → Cels d F io H M → Rep d F io x v → De.rt v H
  | .exc c x e M => ∀ F io sg H cls dd, Stt d Fb iob Hb F io sg H e M → Sub F0 F → Pre io0 io → ExR d F io c x cls dd → W cls dd sg H
  | .stuck => False
def tsI (d : Wd) (C : CallT) (W : WX) (s : S) : TS := fun De sg H => ∃ Fb iob Hb F io e M, Stt d Fb iob Hb F io sg H e M ∧ SatO d W Fb iob Hb F io De (st d.T C s e M)
def tbI (d : Wd) (C : CallT) (W : WX) (b : List S) : TS := fun De sg H => ∃ Fb iob Hb F io e M, Stt d Fb iob Hb F io sg H e M ∧ SatO d W Fb iob Hb F io De (blk d.T C b e M)
section
variable {d : Wd} {C : CallT} {W : WX} {Fb F F1 F0 : Hp} {iob io io1 io0 : List Addr} {Hb H H1 : Hp} {sg : L2.St} {e : Env} {M M1 : Sto} {De : Ends}
theorem Stt.later (s : Stt d Fb iob Hb F io sg H e M) (x : Ex F io H F1 io1 H1) (sb : Sub F1 H1) (c : Cels d F1 io1 H1 M1) : Stt d Fb iob Hb F1 io1 sg H1 e M1 := ⟨s.ex.trans x, s.rl.ex x sb c, s.fr⟩
theorem SatO.shift {o : Out} (h : SatO d W Fb iob Hb F io De o) (s : Sub F F1) (p : Pre io io1) : SatO d W Fb iob Hb F1 io1 De o := by
  cases o with
  | next e M => exact fun F2 io2 sg H t s2 p2 => h F2 io2 sg H t (s.trans s2) (p.trans p2)
  | brk e M => exact fun F2 io2 sg H t s2 p2 => h F2 io2 sg H t (s.trans s2) (p.trans p2)
  | cnt e M => exact fun F2 io2 sg H t s2 p2 => h F2 io2 sg H t (s.trans s2) (p.trans p2)
  | ret x M => exact h
  | exc c x e M => exact fun F2 io2 sg H cls dd t s2 p2 => h F2 io2 sg H cls dd t (s.trans s2) (p.trans p2)
  | stuck => exact h
/-- an expression ahead of the rest -/
theorem SatO.bind {α β : Type} {r : Res α} {k : α → Sto → Out} (R1 : Hp → List Addr → Hp → α → β → Prop) (s : Stt d Fb iob Hb F io sg H e M) (h : SatO d W Fb iob Hb F io De (ofR e r k)) :
    Sat d W sg F io H r R1 (fun b H1 => ∃ F1 io1 M1 a, Stt d Fb iob Hb F1 io1 sg H1 e M1 ∧ Ex F io H F1 io1 H1 ∧ R1 F1 io1 H1 a b ∧ SatO d W Fb iob Hb F1 io1 De (k a M1)) := by
  cases r with
  | stuck => exact h
  | exc c x M' => exact fun F' io' H' cls dd x1 s1 c1 e1 => h F' io' sg H' cls dd (s.later x1 s1 c1) x1.sub x1.pre e1
  | ok a M1 => exact fun F1 io1 H1 b x1 s1 c1 q => ⟨F1, io1, M1, a, s.later x1 s1 c1, x1, q, SatO.shift (show SatO d W Fb iob Hb F io De (k a M1) from h) x1.sub x1.pre⟩
/-- what a target's store leaves of own lists -/
theorem sets_own : ∀ {is : List Nat} {ds : List D} {e e' : Env} {i : Nat} {l : List D}, Env.sets is ds e = some e' → e'[i]? = some (Slot.own l) → e[i]? = some (Slot.own l) ∧ i ∉ is
  | [], [], e, e', i, l, h, k => by simp only [Env.sets, Option.some.injEq] at h; subst h; exact ⟨k, by simp⟩
  | j :: is, x :: ds, e, e', i, l, h, k => by
    simp only [Env.sets] at h
    obtain ⟨e1, h1, h2⟩ := Option.bind_eq_some_iff.mp h
    obtain ⟨k1, k2⟩ := sets_own h2 k
    unfold Env.set at h1
    split at h1
    · rename_i hj
      cases h1
      by_cases q : j = i
      · subst q; rw [List.getElem?_set_self hj] at k1; cases k1
      · rw [List.getElem?_set_ne q] at k1
        exact ⟨k1, by simp only [List.mem_cons, not_or]; exact ⟨fun z => q z.symm, k2⟩⟩
    · cases h1
  | [], _ :: _, _, _, _, _, h, _ => by simp only [Env.sets] at h; cases h
  | _ :: _, [], _, _, _, _, h, _ => by simp only [Env.sets] at h; cases h
theorem bind_own {t : Tgt} {x : D} {e e' : Env} {i : Nat} {l : List D} (h : bindT t x e = some e') (k : e'[i]? = some (Slot.own l)) : e[i]? = some (Slot.own l) ∧ i ∉ t.ix := by
  cases t with
  | nm j =>
    simp only [bindT, Env.set] at h
    split at h
    · rename_i hj
      cases h
      by_cases q : j = i
      · subst q; rw [List.getElem?_set_self hj] at k; cases k
      · rw [List.getElem?_set_ne q] at k; exact ⟨k, by simp only [Tgt.ix, List.mem_singleton]; exact fun z => q z.symm⟩
    · cases h
  | tup is =>
    cases x with
    | tup l => simp only [bindT] at h; exact sets_own h k
    | lst l => simp only [bindT] at h; exact sets_own h k
    | _ => simp only [bindT] at h; cases h
theorem Rl.seto {i : Nat} {l : List D} {a : Addr} {vs : List V} (r : Rl d F io sg H e M) (hi : i < e.length) (hH : H a = some (.lst vs)) (hF : F a = none) (hio : a ∉ io) (h : Reps d F io l vs) (hn : ∀ (j : Nat) (m : List D), e[j]? = some (Slot.own m) → sg[j]? = some (some (.ref a)) → j = i) :
    Rl d F io (List.set sg i (some (.ref a))) H (List.set e i (.own l)) M where
  sub := r.sub
  cl := r.cl
  len := by rw [List.length_set, List.length_set]; exact r.len
  val := fun j x hj => by
    by_cases q : i = j
    · subst q; rw [List.getElem?_set_self hi] at hj; cases hj
    · rw [List.getElem?_set_ne q] at hj ⊢; exact r.val j x hj
  own := fun j m hj => by
    by_cases q : i = j
    · subst q
      rw [List.getElem?_set_self hi] at hj
      cases hj
      exact ⟨a, vs, by rw [List.getElem?_set_self (by rw [← r.len]; exact hi)], hH, h, hF, hio⟩
    · rw [List.getElem?_set_ne q] at hj ⊢; exact r.own j m hj
  dis := fun j k m m' b h1 h2 h3 h4 => by
    by_cases qj : i = j
    · by_cases qk : i = k
      · rw [← qj, ← qk]
      · subst qj
        rw [List.getElem?_set_self (by rw [← r.len]; exact hi)] at h3
        cases h3
        rw [List.getElem?_set_ne qk] at h2 h4
        exact (hn k m' h2 h4).symm
    · by_cases qk : i = k
      · subst qk
        rw [List.getElem?_set_self (by rw [← r.len]; exact hi)] at h4
        cases h4
        rw [List.getElem?_set_ne qj] at h1 h3
        exact hn j m h1 h3
      · rw [List.getElem?_set_ne qj] at h1 h3
        rw [List.getElem?_set_ne qk] at h2 h4
        exact r.dis j k m m' b h1 h2 h3 h4
/-- an own list written -/
theorem Stt.wr {i : Nat} {l l' : List D} {a : Addr} {vs ws : List V} (s : Stt d Fb iob Hb F io sg H e M) (he : e[i]? = some (Slot.own l)) (hs : sg[i]? = some (some (.ref a))) (hH : H a = some (.lst vs)) (hF : F a = none) (hi : a ∉ io) (r : Reps d F io l' ws) :
    Stt d Fb iob Hb F io sg (upd H a (.lst ws)) (List.set e i (.own l')) M where
  ex := ex_wr s.ex (s.fr i l a he hs)
  fr := fun j m b hj hb => by
    by_cases q : i = j
    · subst q; rw [hs] at hb; cases hb; exact s.fr i l a he hs
    · rw [List.getElem?_set_ne q] at hj; exact s.fr j m b hj hb
  rl := by
    have hil : i < e.length := (List.getElem?_eq_some_iff.mp he).1
    refine ⟨sub_wr s.rl.sub hF, cels_wr s.rl.cl hH hi, by rw [List.length_set]; exact s.rl.len, fun j x hj => ?_, fun j m hj => ?_, fun j k m m' b h1 h2 h3 h4 => ?_⟩
    · by_cases q : i = j
      · subst q; rw [List.getElem?_set_self hil] at hj; cases hj
      · rw [List.getElem?_set_ne q] at hj; exact s.rl.val j x hj
    · by_cases q : i = j
      · subst q
        rw [List.getElem?_set_self hil] at hj
        cases hj
        exact ⟨a, ws, hs, upd_same, r, hF, hi⟩
      · rw [List.getElem?_set_ne q] at hj
        obtain ⟨b, us, k1, k2, k3, k4, k5⟩ := s.rl.own j m hj
        have : b ≠ a := fun z => q (s.rl.dis i j l m a he hj hs (by rw [← z]; exact k1))
        exact ⟨b, us, k1, by rw [upd_ne this]; exact k2, k3, k4, k5⟩
    · have back : ∀ {j : Nat} {m : List D}, (List.set e i (Slot.own l'))[j]? = some (Slot.own m) → ∃ m' : List D, e[j]? = some (Slot.own m') := by
        intro j m h
        by_cases q : i = j
        · subst q; exact ⟨l, he⟩
        · rw [List.getElem?_set_ne q] at h; exact ⟨m, h⟩
      obtain ⟨n1, q1⟩ := back h1
      obtain ⟨n2, q2⟩ := back h2
      exact s.rl.dis j k n1 n2 b q1 q2 h3 h4
end
section
variable {X : Cx} {d : Wd} {C : CallT} {W : WX} {pos px apos : Pos} {x : Str}
/-! ### blocks -/
theorem b_nil : PSs X [] (tbI d C W []) := PSs_imp pss_nil fun De sg H h => by
  obtain ⟨Fb, iob, Hb, F, io, e, M, s, h⟩ := h
  simp only [blk] at h
  exact h F io sg H s (Sub.refl _) (Pre.refl _)
theorem b_cons {p : S} {b : List S} {stm : Stmt} {rest : List Stmt} (h1 : PS X stm (tsI d C W p)) (h2 : PSs X rest (tbI d C W b)) : PSs X (stm :: rest) (tbI d C W (p :: b)) := PSs_imp (pss_cons h1 h2) fun De sg H h => by
  obtain ⟨Fb, iob, Hb, F, io, e, M, s, h⟩ := h
  refine ⟨Fb, iob, Hb, F, io, e, M, s, ?_⟩
  simp only [blk] at h
  cases q : st d.T C p e M with
  | next e1 M1 =>
    rw [q] at h
    exact fun F1 io1 sg1 H1 s1 sb pb => ⟨Fb, iob, Hb, F1, io1, e1, M1, s1, SatO.shift h sb pb⟩
  | brk e1 M1 => rw [q] at h; exact h
  | cnt e1 M1 => rw [q] at h; exact h
  | ret x1 M1 => rw [q] at h; exact h
  | exc c x1 e1 M1 => rw [q] at h; exact h
  | stuck => rw [q] at h; exact h
/-- a list of its own becomes a value -/
theorem b_frz {i : Nat} {b : List S} {sts : List Stmt} (h2 : PSs X sts (tbI d C W b)) : PSs X sts (tbI d C W (.frz i :: b)) := PSs_imp h2 fun De sg H h => by
  obtain ⟨Fb, iob, Hb, F, io, e, M, s, h⟩ := h
  simp only [blk, st] at h
  cases he : e[i]? with
  | none => rw [he] at h; exact h.elim
  | some sl =>
    rw [he] at h
    cases sl with
    | own l =>
      simp only at h
      obtain ⟨a, vs, k1, k2, k3, k4, k5⟩ := s.rl.own i l he
      have hil : i < e.length := (List.getElem?_eq_some_iff.mp he).1
      have sb : Sub F (upd F a (.lst vs)) := Sub.updF k4
      have sH : Sub (upd F a (.lst vs)) H := by
        intro b o e1
        by_cases z : b = a
        · subst z; rw [upd_same] at e1; cases e1; exact k2
        · rw [upd_ne z] at e1; exact s.rl.sub b o e1
      have cl : Cels d (upd F a (.lst vs)) io H M := s.rl.cl.frz sb fun b hb => by
        have : b ≠ a := fun z => k5 (z ▸ hb)
        rw [upd_ne this]; exact s.rl.cl.out b hb
      refine ⟨Fb, iob, Hb, upd F a (.lst vs), io, _, M, ⟨⟨s.ex.sub.trans sb, s.ex.pre, fun b o e1 => ?_, s.ex.new, s.ex.keep, s.ex.there, s.ex.od⟩, ⟨sH, cl, by rw [List.length_set]; exact s.rl.len, fun j y hj => ?_, fun j m hj => ?_, fun j k m m' c h1 h2 h3 h4 => ?_⟩, fun j m c hj hc => ?_⟩, SatO.shift h sb (Pre.refl _)⟩
      · by_cases z : b = a
        · subst z; exact .inr (s.fr i l b he k1)
        · rw [upd_ne z] at e1; exact s.ex.frz b o e1
      · by_cases q : i = j
        · subst q
          rw [List.getElem?_set_self hil] at hj
          cases hj
          exact .inr ⟨_, k1, rep_lst' upd_same (Reps.mono sb (Pre.refl _) _ _ k3)⟩
        · rw [List.getElem?_set_ne q] at hj
          rcases s.rl.val j y hj with z | ⟨v, z1, z2⟩
          · exact .inl z
          · exact .inr ⟨v, z1, Rep.mono sb (Pre.refl _) _ _ z2⟩
      · by_cases q : i = j
        · subst q; rw [List.getElem?_set_self hil] at hj; cases hj
        · rw [List.getElem?_set_ne q] at hj
          obtain ⟨c, us, z1, z2, z3, z4, z5⟩ := s.rl.own j m hj
          have : c ≠ a := fun z => q (s.rl.dis i j l m a he hj k1 (by rw [← z]; exact z1))
          exact ⟨c, us, z1, z2, Reps.mono sb (Pre.refl _) _ _ z3, by rw [upd_ne this]; exact z4, z5⟩
      · have ni : i ≠ j := fun z => by subst z; rw [List.getElem?_set_self hil] at h1; cases h1
        have nk : i ≠ k := fun z => by subst z; rw [List.getElem?_set_self hil] at h2; cases h2
        rw [List.getElem?_set_ne ni] at h1
        rw [List.getElem?_set_ne nk] at h2
        exact s.rl.dis j k m m' c h1 h2 h3 h4
      · have ni : i ≠ j := fun z => by subst z; rw [List.getElem?_set_self hil] at hj; cases hj
        rw [List.getElem?_set_ne ni] at hj
        exact s.fr j m c hj hc
    | _ => exact h.elim
/-! ### stores -/
theorem asg_imp {t : Tgt} {p : P} : ∀ De sg H, tsI d C W (.asg t p) De sg H → tAsg (teI d C W p) (tgI d t) De sg H := by
  intro De sg H h
  obtain ⟨Fb, iob, Hb, F, io, e, M, s, h⟩ := h
  simp only [st] at h
  refine ⟨F, io, e, M, s.rl, (SatO.bind (RV d) s h).mono fun v H1 m => ?_⟩
  obtain ⟨F1, io1, M1, y, s1, x1, q1, h1⟩ := m
  cases hb : bindT t y e with
  | none => rw [hb] at h1; exact h1.elim
  | some e' =>
    rw [hb] at h1
    refine ⟨F1, io1, y, e, M1, e', s1.rl, q1, hb, fun sg' rl' sm => h1 F1 io1 sg' H1 ⟨s1.ex, rl', fun i l a hi ha => ?_⟩ (Sub.refl _) (Pre.refl _)⟩
    obtain ⟨k1, k2⟩ := bind_own hb hi
    exact s1.fr i l a k1 (by rw [← sm.2 i k2]; exact ha)
theorem s_asg {t : Tgt} {p : P} {tg e : Expr} (he : PE X e (teI d C W p)) (hg : PG X tg (tgI d t)) (hn : nst tg = true) (hs : swapsWithSole [tg] e pos.line X.env = pure false) (hw : swappedStores [tg] e X.env = pure none) : PS X (.Assign [tg] e pos) (tsI d C W (.asg t p)) :=
  PS_imp (ps_asg he hg hs hw (by cases tg <;> first | rfl | cases hn)) asg_imp
/-- a fresh list to a name: as a value, or its own -/
theorem own_imp {i : Nat} {p : P} : ∀ De sg H, tsI d C W (.own i p) De sg H → tAsg (tfI d C W p) (gName i) De sg H := by
  intro De sg H h
  obtain ⟨Fb, iob, Hb, F, io, e, M, s, h⟩ := h
  simp only [st] at h
  split at h
  case isFalse => exact h.elim
  refine tfI_eq.mpr ⟨F, io, e, M, s.rl, ?_⟩
  cases q : ev d.T C p e M with
  | stuck => rw [q] at h; exact h.elim
  | exc c y M' => rw [q] at h; exact fun F' io' H' cls dd x1 s1 c1 e1 => h F' io' sg H' cls dd (s.later x1 s1 c1) x1.sub x1.pre e1
  | ok y M' =>
    rw [q] at h
    cases y with
    | lst l =>
      refine ⟨l, rfl, fun F' io' H' a vs x1 s1 c1 n0 k1 k2 k3 r => ?_⟩
      replace h : SatO d W Fb iob Hb F io De (if i < e.length then .next (List.set e i (.own l)) M' else .stuck) := h
      split at h
      · rename_i hi
        have s' := s.later x1 s1 c1
        refine h F' io' _ H' ⟨s'.ex, s'.rl.seto hi k1 k2 k3 r fun j m hj hb => ?_, fun j m b hj hb => ?_⟩ x1.sub x1.pre
        · obtain ⟨b, us, z1, z2, _⟩ := s.rl.own j m hj
          rw [hb] at z1; cases z1
          rw [n0] at z2; cases z2
        · by_cases z : i = j
          · subst z
            rw [List.getElem?_set_self (by rw [← s.rl.len]; exact hi)] at hb
            cases hb
            cases w : Hb a with
            | none => rfl
            | some o => exact absurd n0 (s.ex.there a (by rw [w]; simp))
          · rw [List.getElem?_set_ne z] at hj hb; exact s.fr j m b hj hb
      · exact h.elim
    | _ => exact (show False from h).elim
theorem fresh_imp {i : Nat} {p : P} (hz : ∀ e M x M', ev d.T C p e M = .ok x M' → ∃ l, x = .lst l) : ∀ De sg H, tsI d C W (.asg (.nm i) p) De sg H → tAsg (tfI d C W p) (gName i) De sg H := by
  intro De sg H h
  obtain ⟨Fb, iob, Hb, F, io, e, M, s, h⟩ := h
  simp only [st] at h
  refine tfI_eq.mpr ⟨F, io, e, M, s.rl, ?_⟩
  cases q : ev d.T C p e M with
  | stuck => rw [q] at h; exact h.elim
  | exc c y M' => rw [q] at h; exact fun F' io' H' cls dd x1 s1 c1 e1 => h F' io' sg H' cls dd (s.later x1 s1 c1) x1.sub x1.pre e1
  | ok y M' =>
    rw [q] at h
    obtain ⟨l, rfl⟩ := hz e M y M' q
    refine ⟨l, rfl, fun F' io' H' a vs x1 s1 c1 n0 k1 k2 k3 r => ?_⟩
    replace h : SatO d W Fb iob Hb F io De (match bindT (.nm i) (.lst l) e with | some e' => .next e' M' | none => .stuck) := h
    simp only [bindT, Env.set] at h
    split at h
    case h_2 => exact h.elim
    rename_i e' he'
    split at he'
    case isFalse => cases he'
    rename_i hi
    cases he'
    have sb : Sub F' (upd F' a (.lst vs)) := Sub.updF k2
    have x2 : Ex F io H (upd F' a (.lst vs)) io' H' := ⟨x1.sub.trans sb, x1.pre, fun b o e => by
      by_cases z : b = a
      · subst z; exact .inr n0
      · rw [upd_ne z] at e; exact x1.frz b o e, x1.new, x1.keep, x1.there, x1.od⟩
    have s2 : Sub (upd F' a (.lst vs)) H' := fun b o e => by
      by_cases z : b = a
      · subst z; rw [upd_same] at e; cases e; exact k1
      · rw [upd_ne z] at e; exact s1 b o e
    have c2 : Cels d (upd F' a (.lst vs)) io' H' M' := c1.frz sb fun b hb => by
      have : b ≠ a := fun z => k3 (z ▸ hb)
      rw [upd_ne this]; exact c1.out b hb
    have s' := s.later x2 s2 c2
    refine h _ io' _ H' ⟨s'.ex, s'.rl.setv (rep_lst' upd_same (Reps.mono sb (Pre.refl _) _ _ r)) hi, fun j m b hj hb => ?_⟩ x2.sub x2.pre
    have ni : i ≠ j := fun z => by subst z; rw [List.getElem?_set_self hi] at hj; cases hj
    rw [List.getElem?_set_ne ni] at hj hb
    exact s.fr j m b hj hb
/-! ### own lists written -/
/-- x.append(e), x.extend(e), x.pop(e), x[k] = e -/
theorem s_app {i : Nat} {p : P} {ee : Expr} {xpos : Pos} (hN : X.N[i]? = some x) (hv : Vis X.env.scope x) (h1 : (x == ("__debug__" : Str)) = false) (h2 : (x == ("__classdict__" : Str)) = false) (hn : nst ee = true) (hl : (apos.endLine == px.line) = true) (h : PE X ee (teI d C W p)) :
    PS X (.Expr (.Call (.Attribute (.Name x xpos) "append" apos) [ee] [] px) pos) (tsI d C W (.app i p)) := by
  refine PS_imp (ps_expr (pe_bm PySem.F.plainAttrs_list PySem.F.slot_list_append PySem.F.type_list_append mt_append (pe_var (i := i) hN hv h1 h2) (a_one h hn) rfl (by rw [star_ns hn]; rfl) hl (star_ns hn) rfl) rfl) fun De sg H h => ?_
  obtain ⟨Fb, iob, Hb, F, io, e, M, s, h⟩ := h
  simp only [st] at h
  split at h
  case h_2 => exact h.elim
  rename_i l he
  obtain ⟨a, vs, k1, k2, k3, k4, k5⟩ := s.rl.own i l he
  refine ⟨.ref a, k1, .inl ⟨rfl, _, SqL.of k2⟩, F, io, e, M, s.rl, (SatO.bind (RV d) s h).mono fun v H1 m => ?_⟩
  obtain ⟨F1, io1, M1, y, s1, x1, q1, hh⟩ := m
  split at hh
  · rename_i hz
    obtain ⟨z1, z2, z3⟩ := own_later k2 k4 k5 x1
    have r := Reps.mono x1.sub x1.pre _ _ k3
    refine ⟨a, vs, v, rfl, rfl, z1, by rw [← k3.length, ← lim_eq]; exact hz, hh F1 io1 sg _ (s1.wr he k1 z1 z2 z3 (r.append (Reps.cons q1 Reps.nil))) (Sub.refl _) (Pre.refl _)⟩
  · exact hh.elim
theorem s_ext {i : Nat} {p : P} {ee : Expr} {xpos : Pos} (hN : X.N[i]? = some x) (hv : Vis X.env.scope x) (h1 : (x == ("__debug__" : Str)) = false) (h2 : (x == ("__classdict__" : Str)) = false) (hn : nst ee = true) (hl : (apos.endLine == px.line) = true) (h : PE X ee (teI d C W p)) :
    PS X (.Expr (.Call (.Attribute (.Name x xpos) "extend" apos) [ee] [] px) pos) (tsI d C W (.ext i p)) := by
  refine PS_imp (ps_expr (pe_bm PySem.F.plainAttrs_list PySem.F.slot_list_extend PySem.F.type_list_extend mt_extend (pe_var (i := i) hN hv h1 h2) (a_one h hn) rfl (by rw [star_ns hn]; rfl) hl (star_ns hn) rfl) rfl) fun De sg H h => ?_
  obtain ⟨Fb, iob, Hb, F, io, e, M, s, h⟩ := h
  simp only [st] at h
  split at h
  case h_2 => exact h.elim
  rename_i l he
  obtain ⟨a, vs, k1, k2, k3, k4, k5⟩ := s.rl.own i l he
  refine ⟨.ref a, k1, .inl ⟨rfl, _, SqL.of k2⟩, F, io, e, M, s.rl, (SatO.bind (RV d) s h).mono fun v H1 m => ?_⟩
  obtain ⟨F1, io1, M1, y, s1, x1, q1, hh⟩ := m
  cases y with
  | lst r =>
    simp only at hh
    split at hh
    · rename_i hz
      obtain ⟨b, ws, rfl, y1, y2⟩ := rep_lst q1
      obtain ⟨z1, z2, z3⟩ := own_later k2 k4 k5 x1
      have r := Reps.mono x1.sub x1.pre _ _ k3
      exact ⟨a, b, vs, ws, rfl, rfl, z1, s1.rl.sub _ _ y1, by rw [← k3.length, ← y2.length, ← lim_eq]; exact hz, hh F1 io1 sg _ (s1.wr he k1 z1 z2 z3 (r.append y2)) (Sub.refl _) (Pre.refl _)⟩
    · exact hh.elim
  | _ => exact (show False from hh).elim
theorem s_pop {i : Nat} {p : P} {ee : Expr} {xpos : Pos} (hN : X.N[i]? = some x) (hv : Vis X.env.scope x) (h1 : (x == ("__debug__" : Str)) = false) (h2 : (x == ("__classdict__" : Str)) = false) (hn : nst ee = true) (hl : (apos.endLine == px.line) = true) (h : PE X ee (teI d C W p)) :
    PS X (.Expr (.Call (.Attribute (.Name x xpos) "pop" apos) [ee] [] px) pos) (tsI d C W (.pop i p)) := by
  refine PS_imp (ps_expr (pe_bm PySem.F.plainAttrs_list PySem.F.slot_list_pop PySem.F.type_list_pop mt_popAt (pe_var (i := i) hN hv h1 h2) (a_one h hn) rfl (by rw [star_ns hn]; rfl) hl (star_ns hn) rfl) rfl) fun De sg H h => ?_
  obtain ⟨Fb, iob, Hb, F, io, e, M, s, h⟩ := h
  simp only [st] at h
  split at h
  case h_2 => exact h.elim
  rename_i l he
  obtain ⟨a, vs, k1, k2, k3, k4, k5⟩ := s.rl.own i l he
  refine ⟨.ref a, k1, .inl ⟨rfl, _, SqL.of k2⟩, F, io, e, M, s.rl, (SatO.bind (RV d) s h).mono fun v H1 m => ?_⟩
  obtain ⟨F1, io1, M1, y, s1, x1, q1, hh⟩ := m
  cases y with
  | int n =>
    simp only at hh
    split at hh
    · rename_i p hp
      split at hh
      · rename_i hz
        obtain ⟨w1, w2, w3, w4⟩ := ixN_seq hp
        obtain ⟨z1, z2, z3⟩ := own_later k2 k4 k5 x1
        have r := Reps.mono x1.sub x1.pre _ _ k3
        have hl := k3.length
        have hlim : lim = 16777216 := rfl
        refine ⟨a, vs, n, p, vs[p]'(by omega), rfl, by rw [rep_int q1], z1, by omega, by omega, by rw [← hl]; exact w1, by simp [show p < vs.length by omega], hh F1 io1 sg _ (s1.wr he k1 z1 z2 z3 (r.eraseIdx p)) (Sub.refl _) (Pre.refl _)⟩
      · exact hh.elim
    · exact hh.elim
  | _ => exact (show False from hh).elim
theorem s_seti {i : Nat} {p k : P} {ee ek : Expr} {xpos spos : Pos} (hN : X.N[i]? = some x) (hv : Vis X.env.scope x) (h1 : (x == ("__debug__" : Str)) = false) (h2 : (x == ("__classdict__" : Str)) = false) (hs : swapsWithSole [.Subscript (.Name x xpos) ek spos] ee pos.line X.env = pure false) (hw : swappedStores [.Subscript (.Name x xpos) ek spos] ee X.env = pure none)
    (ha : ∀ v, assign (.Subscript (.Name x xpos) ek spos) X.env v = (do
      let ov ← holding [v] (eval (.Name x xpos) X.env)
      let iv ← holding [v, ov] (eval ek X.env)
      standAt spos
      holding [v, ov, iv] (setItem ov iv v)
      release [v, ov, iv] []))
    (h : PE X ee (teI d C W p)) (hk : PE X ek (teI d C W k)) :
    PS X (.Assign [.Subscript (.Name x xpos) ek spos] ee pos) (tsI d C W (.seti i k p)) := by
  refine PS_imp (ps_asg h (pg_sub (pe_var (i := i) hN hv h1 h2) hk set_list ha) hs hw rfl) fun De sg H h => ?_
  obtain ⟨Fb, iob, Hb, F, io, e, M, s, h⟩ := h
  simp only [st] at h
  split at h
  case h_2 => exact h.elim
  rename_i l he
  obtain ⟨a, vs, k1, k2, k3, k4, k5⟩ := s.rl.own i l he
  refine ⟨F, io, e, M, s.rl, (SatO.bind (RV d) s h).mono fun v H1 m => ?_⟩
  obtain ⟨F1, io1, M1, y, s1, x1, q1, hh⟩ := m
  refine ⟨.ref a, k1, F1, io1, e, M1, s1.rl, (SatO.bind (RV d) s1 hh).mono fun u H2 m2 => ?_⟩
  obtain ⟨F2, io2, M2, j, s2, x2, q2, hh2⟩ := m2
  cases j with
  | int n =>
    simp only at hh2
    split at hh2
    · rename_i pp hp
      obtain ⟨z1, z2, z3⟩ := own_later k2 k4 k5 (x1.trans x2)
      have r := Reps.mono (x1.sub.trans x2.sub) (x1.pre.trans x2.pre) _ _ k3
      refine ⟨a, vs, n, pp, rfl, rep_int q2, z1, by rw [← k3.length]; exact hp, ?_⟩
      exact hh2 F2 io2 sg _ (s2.wr he k1 z1 z2 z3 (r.set pp (Rep.mono x2.sub x2.pre _ _ q1))) (Sub.refl _) (Pre.refl _)
    · exact hh2.elim
  | _ => exact (show False from hh2).elim
/-! ### the rest -/
theorem s_exp {p : P} {e : Expr} (he : PE X e (teI d C W p)) (hs : swapsWith e none pos.line X.env = pure false) : PS X (.Expr e pos) (tsI d C W (.exp p)) := PS_imp (ps_expr he hs) fun De sg H h => by
  obtain ⟨Fb, iob, Hb, F, io, e, M, s, h⟩ := h
  simp only [st] at h
  refine ⟨F, io, e, M, s.rl, (SatO.bind (RV d) s h).mono fun v H1 m => ?_⟩
  obtain ⟨F1, io1, M1, y, s1, x1, q1, hh⟩ := m
  exact hh F1 io1 sg H1 s1 (Sub.refl _) (Pre.refl _)
theorem s_ret {p : P} {e : Expr} (he : PE X e (teI d C W p)) : PS X (.Return (some e) pos) (tsI d C W (.ret p)) := PS_imp (ps_ret he) fun De sg H h => by
  obtain ⟨Fb, iob, Hb, F, io, e, M, s, h⟩ := h
  simp only [st] at h
  refine ⟨F, io, e, M, s.rl, (SatO.bind (RV d) s h).mono fun v H1 m => ?_⟩
  obtain ⟨F1, io1, M1, y, s1, x1, q1, hh⟩ := m
  exact hh F1 io1 H1 v s1.ex s1.rl.sub s1.rl.cl q1
theorem s_ife {c : P} {a b : List S} {ec : Expr} {sa sb : List Stmt} (hc : PT X ec (ttI d C W c)) (ha : PSs X sa (tbI d C W a)) (hb : PSs X sb (tbI d C W b)) : PS X (.If ec sa sb pos) (tsI d C W (.ife c a b)) := PS_imp (ps_if hc ha hb) fun De sg H h => by
  obtain ⟨Fb, iob, Hb, F, io, e, M, s, h⟩ := h
  simp only [st] at h
  refine ⟨F, io, e, M, s.rl, ?_⟩
  cases q : ev d.T C c e M with
  | stuck => rw [q] at h; exact h.elim
  | exc k y M' => rw [q] at h; exact fun F' io' H' cls dd x1 s1 c1 e1 => h F' io' sg H' cls dd (s.later x1 s1 c1) x1.sub x1.pre e1
  | ok y M' =>
    rw [q] at h
    cases y with
    | bl bb =>
      refine sat_ok (a := bb) (M := M') rfl fun F' io' H' b' x1 s1 c1 hb => ?_
      have hb : bb = b' := hb
      subst hb
      cases bb with
      | true => rw [if_pos rfl]; exact ⟨Fb, iob, Hb, F', io', e, M', s.later x1 s1 c1, SatO.shift h x1.sub x1.pre⟩
      | false => rw [if_neg (by decide)]; exact ⟨Fb, iob, Hb, F', io', e, M', s.later x1 s1 c1, SatO.shift h x1.sub x1.pre⟩
    | _ => exact (show False from h).elim
theorem s_pass : PS X (.Pass pos) (tsI d C W .pass) := PS_imp ps_pass fun De sg H h => by
  obtain ⟨Fb, iob, Hb, F, io, e, M, s, h⟩ := h
  simp only [st] at h
  exact h F io sg H s (Sub.refl _) (Pre.refl _)
theorem s_brk : PS X (.Break pos) (tsI d C W .brk) := PS_imp ps_break fun De sg H h => by
  obtain ⟨Fb, iob, Hb, F, io, e, M, s, h⟩ := h
  simp only [st] at h
  exact h F io sg H s (Sub.refl _) (Pre.refl _)
theorem s_cnt : PS X (.Continue pos) (tsI d C W .cnt) := PS_imp ps_continue fun De sg H h => by
  obtain ⟨Fb, iob, Hb, F, io, e, M, s, h⟩ := h
  simp only [st] at h
  exact h F io sg H s (Sub.refl _) (Pre.refl _)
/-- a text alone -/
theorem b_doc {z : Str} {j : Nat} {p1 p2 : Pos} {b : List S} {rest : List Stmt} (h : PSs X rest (tbI d C W b)) : PSs X (.Expr (.Constant (.str z) j p1) p2 :: rest) (tbI d C W b) := PSs_imp (pss_cons ps_doc h) fun De sg H h => h
end
end Rb

/-! RbExc: errors of own classes, their base Exception through one more own class, each with one field that __init__ keeps (the road of skel 42, the field's name and the base left open). Own work. -/
namespace PySem
namespace RbX
open PySem.W PySem.Calls PyProof.Rows PySem.HandSPX
abbrev exT : List Value := [.type "Exception", .type "BaseException", .type "object"]
/-! ### the text of __init__ -/
def iA (f : Str) (p1 p2 : Pos) : Arguments := { posonlyargs := [], args := [{ arg := "self", annotation := none, pos := p1 }, { arg := f, annotation := none, pos := p2 }], vararg := none, kwonlyargs := [], kw_defaults := [], kwarg := none, defaults := [] }
def iB (f : Str) (q1 q2 q3 q4 : Pos) : List Stmt := [.Assign [.Attribute (.Name "self" q1) f q2] (.Name f q3) q4]
def iS (f : Str) : Scope := { kind := .function, names := [(PySem.Str.ofString "self", .local), (f, .local)], isGenerator := false, isCoroutine := false, more := [] }
/-- what the written part says of the class at C, and of its __init__, at fI -/
structure ExT (K : Frag) (C fI : Addr) (f : Str) : Prop where
  over : excOver K C exT = true
  ini : excInitIn K C exT "Exception.__new__" = true
  sa : findIn K (.ref C) "__setattr__" = some (some (.builtin "object.__setattr__"))
  ga : findIn K (.ref C) "__getattribute__" = some (some (.builtin "BaseException.__getattribute__"))
  gg : findIn K (.ref C) "__getattr__" = some none
  noN : findIn K (.ref C) f = some none
  iC : findIn K (.ref C) "__init__" = some (some (.ref fI))
  tC : typeIn K (.ref fI) = some (.type "function")
  kC : keepIn K (.ref C) = true
  exC : subIn K (.ref C) (.type "BaseException") = some true
  tyC : typeIn K (.ref C) = some (.type "type")
  hdC : hasDictIn K C = true
  fs : f = "at" ∨ f = "word"
  fn : ∃ (q : Str) (oc : Value) (od : Option Addr) (doc pm : Value) (an : Option Addr) (cdv ct : Value) (osl : Array (Option Value)) (p1 p2 q1 q2 q3 q4 : Pos),
    K.lookup fI = some ⟨oc, od, .func (fnOf "__init__" q (iA f p1 p2) (iB f q1 q2 q3 q4) (iS f) .none .none doc pm an cdv ct), osl⟩ ∧ codeIn K cdv q = true
theorem one_size (v : Value) : [v].length ≤ sizeLine := by
  rw [sizeLine_eq]
  exact (by decide : 1 ≤ 16777216)
theorem ldC {M : Model} {s : Shared} {name : Str} {scope : Scope} {L a : Addr} {cd : Value} {m : Str → Option Value} {x : Str} {pos : Pos} {v : Value} {Q : Value → Shared → Prop} {A : Around} {E : Value → Shared → Prop} (hn : s.heap.Ns L m) (hv : m x = some v) (h : Q v s)
    (hk : scope.kind = .function) (hl : (envOfC name scope L a cd).kindOf x = some .local) (hd : (x == ("__debug__" : Str)) = false) :
    wpAny M A (eval (.Name x pos) (envOfC name scope L a cd)) Q E s := wpAny_Name (wpAny_loadName_local hk hl hn hv h) hd
/-- what __init__ leaves of a fresh exception at x -/
structure InitEnd (h h' : Heap) (x C dx t1 : Addr) (f : Str) (v : Value) : Prop where
  keep : ∀ b o, b ≠ x → h.get? b = some o → h'.get? b = some o
  obj : h'.get? x = some { cls := .ref C, dict := some dx, data := .fields #[.ref t1, .none, .none, .none, .bool false, .none] }
  dbig : h.objs.size ≤ dx
  dne : dx ≠ x
  ns : h'.Ns1 dx (fun y => if y = f then some v else none)
/-- one made -/
structure OwnMade (h h' : Heap) (e C d : Addr) (f : Str) (v : Value) : Prop where
  keep : ∀ b o, h.get? b = some o → h'.get? b = some o
  new : h.objs.size ≤ e
  obj : ∃ oe vs, h'.get? e = some oe ∧ oe.cls = .ref C ∧ oe.dict = some d ∧ oe.data = .fields vs ∧ vs[1]? = some .none ∧ vs[2]? = some .none
  dbig : h.objs.size ≤ d
  dne : d ≠ e
  ns : h'.Ns1 d (fun y => if y = f then some v else none)
section
open Builtin Builtin.ObjectAttr
variable {prog : Program} {w : World} {A : Around} {E : Value → Shared → Prop} {R : Result → Shared → Prop} {s : Shared} {K : Frag} {C fI : Addr} {f : Str}
/-- the first field stored: the object's own dict is made -/
theorem ex_osa {hp : Heap} {g : Array GenState} {d : Drawn} {t : Nat} {os : OsState} {tk : Tok} {v : Value} {x : Addr} {fv : Array Value}
    (X : K.In hp) (hx : hp.get? x = some { cls := .ref C, data := .fields fv }) (ho : excOver K C exT = true) (hd : hasDictIn K C = true) (ha : findIn K (.ref C) f = some none)
    (hq : ∀ h' tk' dx, (∀ b o, b ≠ x → hp.get? b = some o → h'.get? b = some o) → hp.objs.size ≤ dx → dx ≠ x → h'.get? x = some { cls := .ref C, dict := some dx, data := .fields fv } →
      h'.Ns1 dx (fun y => if y = f then some v else none) → R (.ok (.ret .none)) ⟨h', g, d, tk', os⟩) :
    codeAny (model prog w) A (.call (.builtin "object.__setattr__") ⟨[.ref x, .str f tk, v], []⟩) R ⟨hp, g, d, t, os⟩ := by
  have I : W.InstAt hp x { cls := .ref C, data := .fields fv } C none := ⟨hx, rfl, rfl, trivial⟩
  have hxs : x ≠ hp.objs.size := Nat.ne_of_lt (Heap.lt_size hx)
  obtain ⟨cd, hcd, hh⟩ : ∃ cd, clsIn K C = some cd ∧ cd.hasDict = true := by
    unfold hasDictIn at hd
    cases q : clsIn K C with
    | none => rw [q] at hd; cases hd
    | some cd => rw [q] at hd; exact ⟨cd, rfl, by simpa using hd⟩
  refine osa_openX (s := ⟨hp, g, d, t, os⟩) F.store_Exception X I ho (by unfold takerIn; rw [ha]; rfl) fun b => ?_
  have hcls : W.Looks (model prog w) hp (classData C) cd := W.looks_clsIn X hcd
  obtain ⟨nm, bs, mro, ns, qn, hd', sn, sb, ab, col, del⟩ := cd
  dsimp only at hh
  subst hh
  unfold storeInOwnDict ownDictForStores
  repeat (first | with_reducible refine HandSPX.store_in_new ?_ ?_ | with_reducible refine wpAny_loadPart_at hx ?_ | with_reducible refine hcls.at ?_ | wp_step)
  · exact ⟨_, #[], _, (Heap.get?_update_ne _ _ _ _ hxs.symm).trans (Heap.get?_push_at rfl rfl), rfl, fun e he => absurd he (by simp), fun _ => rfl⟩
  · intro h' tk' hn' hs
    have hx₁ : (hp.push { cls := .type "dict", data := .dict #[] }).get? x = some { cls := .ref C, data := .fields fv } := Heap.get?_push_of_some _ hx
    refine hq h' tk' hp.objs.size (fun b o hb ho => ?_) (Nat.le_refl _) hxs.symm ?_ hn'
    · exact (hs.2 b (Nat.ne_of_lt (Heap.lt_size ho))).trans ((Heap.get?_update_ne _ _ _ _ hb).trans (Heap.get?_push_of_some _ ho))
    · exact (hs.2 x hxs).trans (Heap.get?_update_self _ hx₁ rfl)
theorem ex_init (T : ExT K C fI f) {x t0 : Addr} {v : Value} (X : K.In s.heap) (hlim : s.heap.NoLimit) (hx : s.heap.get? x = some (excO C t0)) (hroom : A.depth < recursionLimit)
    (hq : ∀ h' tk dx, InitEnd s.heap h' x C dx t0 f v → R (.ok (.ret .none)) { s with heap := h', toks := tk }) :
    codeAny (model prog w) A (.call (.ref fI) ⟨[.ref x, v], []⟩) R s := by
  obtain ⟨q, oc, od, doc, pm, an, cdv, ct, osl, p1, p2, q1, q2, q3, q4, ho, hcd⟩ := T.fn
  have fne : (("self" : Str) == f) = false ∧ (f == ("self" : Str)) = false ∧ (f == ("__debug__" : Str)) = false := by
    rcases T.fs with e | e <;> subst e <;> exact ⟨by decide, by decide, by decide⟩
  refine Att.call_fn (binds := [("self", .ref x), (f, v)]) X hlim ho hcd hroom ?bi ?nd (fun s₁ IC => ?_) rfl rfl rfl
  case bi => rcases T.fs with e | e <;> subst e <;> exact BindsTo.of_eq (by first | rfl | with_unfolding_all rfl)
  case nd => rcases T.fs with e | e <;> subst e <;> (first | rfl | decide | with_unfolding_all rfl)
  obtain ⟨h₁, tk₁, rfl⟩ := IC.toInCall.same
  have kk : ∀ b o, s.heap.get? b = some o → h₁.get? b = some o := IC.toInCall.keep
  have hn := IC.toInCall.ns
  have hxL : s.heap.objs.size ≠ x := Nat.ne_of_gt (Heap.lt_size hx)
  have X₁ : K.In h₁ := X.keeps kk
  have hx₁ := kk _ _ hx
  show wpAny _ _ (execs _ _) _ _ _
  -- self.f = f
  refine wpAny_execs_cons (plainObj_wpAny_Assign_Attribute ?_)
  refine ldC (v := v) hn ?a1 (ldC (v := .ref x) hn ?a2 ?_ rfl ?b2 (by decide)) rfl ?b1 fne.2.2
  case a1 => rcases T.fs with e | e <;> subst e <;> (first | rfl | with_unfolding_all rfl | kernel_rfl)
  case a2 => rcases T.fs with e | e <;> subst e <;> (first | rfl | with_unfolding_all rfl | kernel_rfl)
  case b1 => rcases T.fs with e | e <;> subst e <;> (first | rfl | with_unfolding_all rfl | kernel_rfl)
  case b2 => rcases T.fs with e | e <;> subst e <;> (first | rfl | with_unfolding_all rfl | kernel_rfl)
  refine set_plain X₁ (ox := excO C t0) (od := none) ⟨hx₁, rfl, rfl, trivial⟩ T.sa ?_
  refine ex_osa X₁ hx₁ T.over T.hdC T.noN (fun h₃ tk₃ dx k₃ dn dne hx₃ hn₃ => ?_)
  show wpAny _ _ (execs _ _) _ _ _
  have z : s.heap.objs.size < h₁.objs.size := hn.lt
  exact wpAny_execs_nil (hq h₃ tk₃ dx ⟨fun b o hb e => k₃ b o hb (kk b o e), hx₃, Nat.le_of_lt (Nat.lt_of_lt_of_le z dn), dne, hn₃⟩)
theorem ex_made (T : ExT K C fI f) {v : Value} (X : K.In s.heap) (hlim : s.heap.NoLimit) (hroom : A.depth + 1 < recursionLimit)
    (hq : ∀ h' tk e d, OwnMade s.heap h' e C d f v → R (.ok (.ret (.ref e))) { s with heap := h', toks := tk }) :
    codeAny (model prog w) A (.call (.ref C) ⟨[v], []⟩) R s := by
  obtain ⟨nm, N', qn, bs, bm, hdct, sn, sub, ab, col, dd, k0, k1, k2, k3, k5, hC, hT⟩ := excInit_of X T.ini
  obtain ⟨hp, g, dr, tk, os⟩ := s
  have k : ∀ b o, hp.get? b = some o → ((hp.push (kdv_tup [v])).push (excO C hp.objs.size)).get? b = some o := fun b o e => Heap.get?_push_of_some _ (Heap.get?_push_of_some _ e)
  have hget : ((hp.push (kdv_tup [v])).push (excO C hp.objs.size)).get? (hp.objs.size + 1) = some (excO C hp.objs.size) := by heap_get
  refine call_own F.excBase_Exception hT hC (looks_findIn X T.iC) (fun self => bind_fn X self T.tC) (one_size v) ?_
  refine ex_init (s := ⟨(hp.push (kdv_tup [v])).push (excO C hp.objs.size), g, dr, tk, os⟩) T (X.keeps k) (hlim.keeps k) hget ?_ fun h' tk' dx ⟨k', hx, dn, dne, hns⟩ => ?_
  · show A.depth + 1 < recursionLimit
    exact hroom
  · have old : ∀ b o, hp.get? b = some o → h'.get? b = some o := fun b o e => k' b o (Nat.ne_of_lt (Nat.lt_succ_of_lt (Heap.lt_size e))) (k b o e)
    have z : hp.objs.size + 1 + 1 ≤ dx := by
      first
        | (simpa only [Heap.size_push] using dn)
        | exact dn
        | (have q := dn; rw [Heap.size_push, Heap.size_push] at q; exact q)
    exact ⟨rfl, hq h' tk' (hp.objs.size + 1) dx ⟨old, Nat.le_succ _, ⟨_, _, hx, rfl, rfl, rfl, rfl, rfl⟩, Nat.le_trans (Nat.le_trans (Nat.le_succ _) (Nat.le_succ _)) z, dne, hns⟩⟩
end
end RbX
end PySem
namespace Rb
open PySem PySem.Spec PyProof.Rows
open L2 hiding XE Takes CX passes_call takes_of MkP PMk ps_raise mk_of ps_try_as HdsOk ps_try_many pmk_own passAt St
open L2N
theorem relO_one {f : Str} {v : V} {v' : Value} (r : RelV v v') (g : Str) : RelO (List.lookup g [(f, v)]) (if g = f then some v' else none) := by
  by_cases hw : g = f
  · subst hw
    rw [if_pos rfl]
    have q : List.lookup g [(g, v)] = some v := by simp [List.lookup]
    rw [q]
    exact r
  · rw [if_neg hw]
    have qw : (g == f) = false := by simpa using hw
    have q2 : List.lookup g [(f, v)] = none := by simp [List.lookup, qw]
    rw [q2]
    trivial
section
variable {X : Cx} {Ca fI : Addr} {f x : Str}
/-- C(e) -/
def tMkX (Ca : Addr) (f : Str) (ta : TA) : L2.St → Hp → XK → Prop := fun sg H Q => ta sg H fun vs H1 => ∃ v, vs = [v] ∧ ∀ d, H1 d = none → Q (.ref Ca) (some d) (upd H1 d (.xd [(f, v)]))
theorem pmk_x {a : Expr} {ta : TA} {p pos : Pos} {k : Nat} (T : PySem.RbX.ExT X.K Ca fI f) (hr : Room k X.A) (ha : PA X [a] ta) (hg : Gl X x) (hm : X.mg x = some (.ref Ca)) (hd : (x == ("__debug__" : Str)) = false) (hn : nst a = true) :
    PMk X (.Call (.Name x p) [a] [] pos) (tMkX Ca f ta) := by
  intro pins s sg H Q I h
  refine wpAny_Call_Name_kw (ld_glob I hg hm ?_ hd)
  refine PySem.W.callWith_K (h₀ := X.base) I.ok.mod.kin T.kC (thn (ha.run pos pins s sg H _ I h) fun us s1 hh => ?_) (star_ns hn) rfl
  obtain ⟨vs, H1, I1, r1, v, ev, q1⟩ := hh
  subst ev
  refine ⟨I1.kIn, ?_⟩
  cases r1 with
  | cons rv rn =>
    rename_i v' us'
    cases rn
    show wpAny _ _ (call (.ref Ca) [v']) _ _ _
    have hlim := I1.nolimit
    obtain ⟨hp, g, dr, tk, os⟩ := s1
    refine wpAny_call (PySem.RbX.ex_made T I1.kIn hlim (by have := hr.dp; omega) fun h' tk' e d M => ?_)
    show MkP X pins sg Q (.ref e) ⟨h', g, dr, tk', os⟩
    obtain ⟨oe, fv, hoe, hc, hd, hdat, h1, h2⟩ := M.obj
    have hns := M.ns
    obtain ⟨G', g1, g2⟩ := restrict h' fun b => decide (b ≠ e)
    have gk : ∀ b, b ≠ e → G'.get? b = h'.get? b := fun b hb => g1 b (decide_eq_true hb)
    have ge : G'.get? e = none := g2 e (by simp)
    have old : ∀ b o, hp.get? b = some o → G'.get? b = some o := fun b o q => (gk b (Nat.ne_of_lt (Nat.lt_of_lt_of_le (Heap.lt_size q) M.new))).trans (M.keep b o q)
    have ob : ObjOk X.prog X.w (upd H1 d (.xd [(f, v)])) G' d (.xd [(f, v)]) :=
      ⟨_, hns.at (fun o q => (gk d M.dne).trans q), fun g => relO_one rv g⟩
    have J : Inv X pins sg (upd H1 d (.xd [(f, v)])) ⟨G', g, dr, tk', os⟩ := I1.laid (t' := tk') old M.dbig ob
    refine ⟨e, oe, fv, ⟨G', g, dr, tk', os⟩, _, .ref Ca, some d, rfl, J, fun b o q => ?_, ge, hoe, ⟨hc, hd, fun w hw => by rw [hdat] at hw; cases hw; exact h2⟩, hdat, h1, ?_, rfl, I1.bare, raises_own T.exC T.tyC, q1 d (I1.hok.fresh M.dbig)⟩
    · by_cases hb : b = e
      · have q' : G'.get? b = some o := q
        rw [hb, ge] at q'; cases q'
      · exact (gk b hb).symm.trans q
    · rw [upd_ne (Ne.symm M.dne)]
      exact I1.hok.fresh M.new
end
/-- an error class of the text -/
structure ErF (d : Wd) (c : Nat) (f : Str) : Prop where
  fld : d.T.efld c = some f
  txt : ∃ fI, PySem.RbX.ExT d.K (d.ca c) fI f
  mg : d.mg (Str.ofString (d.T.cname c)) = some (.ref (d.ca c))
section
variable {X : Cx} {d : Wd} {C : CallT} {W : WX} {pos pos2 px : Pos} {x f : Str}
/-- raise C(e) -/
theorem s_rai {c : Nat} {p : P} {e : Expr} {k : Nat} (hc : X.calm = true) (hK : X.K = d.K) (hmg : X.mg = d.mg) (er : ErF d c f) (hr : Room k X.A) (tk : Takes X W) (hg : Gl X x) (hx : Str.ofString (d.T.cname c) = x) (hd : (x == ("__debug__" : Str)) = false) (hn : nst e = true) (h : PE X e (teI d C W p)) :
    PS X (.Raise (some (.Call (.Name x px) [e] [] pos)) none pos2) (tsI d C W (.rai c p)) := by
  obtain ⟨fI, T⟩ := er.txt
  refine PS_imp (ps_raise hc tk (pmk_x (by rw [hK]; exact T) hr (a_one h hn) hg (by rw [hmg, ← hx]; exact er.mg) hd hn)) fun De sg H h => ?_
  obtain ⟨Fb, iob, Hb, F, io, e, M, s, h⟩ := h
  simp only [st] at h
  refine ⟨F, io, e, M, s.rl, (SatO.bind (RV d) s h).mono fun v H1 m => ?_⟩
  obtain ⟨F1, io1, M1, y, s1, x1, q1, hh⟩ := m
  refine ⟨v, rfl, fun dd hdd => ?_⟩
  obtain ⟨x2, s2, c2⟩ := ex_new (o := .xd [(f, v)]) s1.rl.sub s1.rl.cl hdd
  refine hh _ io1 sg _ (.ref (d.ca c)) (some dd) (s1.later x2 s2 c2) x2.sub (Pre.refl _) ⟨rfl, f, dd, v, er.fld, rfl, upd_same, Rep.mono x2.sub x2.pre _ _ q1⟩
end
end Rb

/-! RbStm2: loops, cells, objects. Own work. -/
namespace Rb
open PySem PySem.Spec PyProof.Rows L2
section
variable {X : Cx} {d : Wd} {C : CallT} {W : WX} {pos pos2 px : Pos} {x : Str}
theorem forGo_cons {t : Tgt} {g : Grd} {b : Env → Sto → Out} {y : D} {ys : List D} {e : Env} {M : Sto} : forGo t g b (y :: ys) e M = (if g.ok M then match bindT t y e with
    | none => Out.stuck
    | some e' => match b e' M with
      | .next e2 M2 => forGo t g b ys e2 M2
      | .cnt e2 M2 => forGo t g b ys e2 M2
      | .brk e2 M2 => .next e2 M2
      | .ret d M2 => .ret d M2
      | .exc c v e2 M2 => .exc c v e2 M2
      | .stuck => .stuck
    else .stuck) := rfl
theorem s_for {t : Tgt} {s : Src} {b : List S} {tg iter : Expr} {body : List Stmt} (hp : PassesOwn (model X.prog X.w) X.A X.env X.xe) (hc : X.calm = true) (hi : PI X tg iter (tiN d C W s)) (hg : PG X tg (tgI d t)) (hb : PSs X body (tbI d C W b)) (hs : ∀ v, foldedSetIterable iter X.env v = pure v) :
    PS X (.For tg iter body [] pos) (tsI d C W (.for_ t s b)) := by
  refine PS_imp (ps_for hp hc hi hg hb hs) fun De sg H h => ?_
  obtain ⟨Fb, iob, Hb, F, io, e, M, s0, h⟩ := h
  simp only [st] at h
  split at h
  case isFalse => exact h.elim
  refine ⟨F, io, e, M, s0.rl, (SatO.bind (RSG d RelW) s0 h).mono fun J H1 m => ?_⟩
  obtain ⟨F1, io1, M1, gl, s1, x1, wk, hh⟩ := m
  let bd : Env → Sto → Out := fun e' M' => blk d.T C b e' M'
  let Pv : Nat → L2.St → Hp → Prop := fun i sg H => ∃ F2 io2 e2 M2, Stt d Fb iob Hb F2 io2 sg H e2 M2 ∧ Sub F1 F2 ∧ Pre io1 io2 ∧ SatO d W Fb iob Hb F2 io2 De (forGo t gl.1 bd (gl.2.drop i) e2 M2)
  refine ⟨fun i m sg H => m = gl.2.length - i ∧ i ≤ gl.2.length ∧ Pv i sg H, ⟨gl.2.length, rfl, Nat.zero_le _, F1, io1, e, M1, s1, Sub.refl _, Pre.refl _, hh⟩, ?_⟩
  rintro i m sg H ⟨rfl, hle, F2, io2, e2, M2, s2, sb, pb, hgo⟩
  by_cases hlt : i < gl.2.length
  · right
    rw [List.drop_eq_getElem_cons hlt, forGo_cons] at hgo
    split at hgo
    case isFalse => exact hgo.elim
    rename_i hg
    refine ⟨wk.go i F2 io2 H M2 hlt ⟨sb, pb⟩ s2.rl.sub s2.rl.cl hg, Pv (i + 1), fun sg' H' p => ⟨gl.2.length - (i + 1), by omega, rfl, hlt, p⟩, fun v H' y => ?_⟩
    obtain ⟨F3, x3, s3, c3, r3⟩ := wk.yld i gl.2[i] v F2 io2 H M2 H' (by simp [hlt]) ⟨sb, pb⟩ s2.rl.sub s2.rl.cl hg y
    have s4 := s2.later x3 s3 c3
    cases hbd : bindT t gl.2[i] e2 with
    | none => rw [hbd] at hgo; exact hgo.elim
    | some e' =>
      rw [hbd] at hgo
      refine ⟨F3, io2, gl.2[i], e2, M2, e', s4.rl, r3, hbd, fun sg' rl' sm => ⟨Fb, iob, Hb, F3, io2, e', M2, ⟨s4.ex, rl', fun j l a hj ha => ?_⟩, ?_⟩⟩
      · obtain ⟨k1, k2⟩ := bind_own hbd hj
        exact s4.fr j l a k1 (by rw [← sm.2 j k2]; exact ha)
      · have hgo := SatO.shift hgo x3.sub x3.pre
        have nxt : ∀ {e3 M3}, SatO d W Fb iob Hb F3 io2 De (forGo t gl.1 bd (gl.2.drop (i + 1)) e3 M3) → ∀ F io sg H, Stt d Fb iob Hb F io sg H e3 M3 → Sub F3 F → Pre io2 io → Pv (i + 1) sg H :=
          fun hq F io sg H st' sb' pb' => ⟨F, io, _, _, st', (sb.trans x3.sub).trans sb', (pb.trans x3.pre).trans pb', SatO.shift hq sb' pb'⟩
        show SatO d W Fb iob Hb F3 io2 _ (blk d.T C b e' M2)
        replace hgo : SatO d W Fb iob Hb F3 io2 De (match blk d.T C b e' M2 with
          | .next e2 M2 => forGo t gl.1 bd (gl.2.drop (i + 1)) e2 M2
          | .cnt e2 M2 => forGo t gl.1 bd (gl.2.drop (i + 1)) e2 M2
          | .brk e2 M2 => .next e2 M2
          | .ret d M2 => .ret d M2
          | .exc c v e2 M2 => .exc c v e2 M2
          | .stuck => .stuck) := hgo
        cases q : blk d.T C b e' M2 with
        | next e3 M3 => rw [q] at hgo; exact nxt hgo
        | cnt e3 M3 => rw [q] at hgo; exact nxt hgo
        | brk e3 M3 => rw [q] at hgo; exact hgo
        | ret y M3 => rw [q] at hgo; exact hgo
        | exc c y e3 M3 => rw [q] at hgo; exact hgo
        | stuck => rw [q] at hgo; exact hgo
  · left
    have e0 : i = gl.2.length := by omega
    subst e0
    rw [List.drop_of_length_le (Nat.le_refl _)] at hgo
    simp only [forGo] at hgo
    split at hgo
    · rename_i hg
      exact ⟨wk.stop F2 io2 H M2 ⟨sb, pb⟩ s2.rl.sub s2.rl.cl hg, hgo F2 io2 sg H s2 (Sub.refl _) (Pre.refl _)⟩
    · exact hgo.elim
theorem s_whl {c : P} {b : List S} {ec : Expr} {body : List Stmt} (hp : PassesOwn (model X.prog X.w) X.A X.env X.xe) (hc : PT X ec (ttI d C W c)) (hb : PSs X body (tbI d C W b)) : PS X (.While ec body [] pos) (tsI d C W (.whl c b)) := by
  refine PS_imp (ps_while hp hc hb) fun De sg H h => ?_
  obtain ⟨Fb, iob, Hb, F, io, e, M, s0, h⟩ := h
  simp only [st] at h
  let bd : Env → Sto → Out := fun e' M' => blk d.T C b e' M'
  let cd : Env → Sto → Res D := fun e' M' => ev d.T C c e' M'
  let Wn : Nat → L2.St → Hp → Prop := fun m sg H => ∃ F2 io2 e2 M2, Stt d Fb iob Hb F2 io2 sg H e2 M2 ∧ SatO d W Fb iob Hb F2 io2 De (whlGo cd bd m e2 M2)
  refine ⟨Wn, ⟨fuel, F, io, e, M, s0, h⟩, ?_⟩
  rintro m sg H ⟨F2, io2, e2, M2, s2, hw⟩
  cases m with
  | zero => exact hw.elim
  | succ m =>
    refine ⟨F2, io2, e2, M2, s2.rl, ?_⟩
    replace hw : SatO d W Fb iob Hb F2 io2 De (ofR e2 (ev d.T C c e2 M2) fun d' M1 => match d' with
      | .bl false => .next e2 M1
      | .bl true => (match blk d.T C b e2 M1 with
        | .next e2 M2 => whlGo cd bd m e2 M2
        | .cnt e2 M2 => whlGo cd bd m e2 M2
        | .brk e2 M2 => .next e2 M2
        | .ret d M2 => .ret d M2
        | .exc c v e2 M2 => .exc c v e2 M2
        | .stuck => .stuck)
      | _ => .stuck) := hw
    cases q : ev d.T C c e2 M2 with
    | stuck => rw [q] at hw; exact hw.elim
    | exc k y M' => rw [q] at hw; exact fun F' io' H' cls dd x1 s1 c1 e1 => hw F' io' sg H' cls dd (s2.later x1 s1 c1) x1.sub x1.pre e1
    | ok y M' =>
      rw [q] at hw
      cases y with
      | bl bb =>
        refine sat_ok (a := bb) (M := M') rfl fun F' io' H' b' x1 s1 c1 hbb => ?_
        have hbb : bb = b' := hbb
        subst hbb
        have s3 := s2.later x1 s1 c1
        replace hw := SatO.shift hw x1.sub x1.pre
        cases bb with
        | false => rw [if_neg (by decide)]; exact hw F' io' sg H' s3 (Sub.refl _) (Pre.refl _)
        | true =>
          rw [if_pos rfl]
          refine ⟨Wn m, fun sg' H'' p => ⟨m, Nat.lt_succ_self _, p⟩, Fb, iob, Hb, F', io', e2, M', s3, ?_⟩
          have nxt : ∀ {e3 M3}, SatO d W Fb iob Hb F' io' De (whlGo cd bd m e3 M3) → ∀ F io sg H, Stt d Fb iob Hb F io sg H e3 M3 → Sub F' F → Pre io' io → Wn m sg H :=
            fun hq F io sg H st' sb' pb' => ⟨F, io, _, _, st', SatO.shift hq sb' pb'⟩
          replace hw : SatO d W Fb iob Hb F' io' De (match blk d.T C b e2 M' with
            | .next e2 M2 => whlGo cd bd m e2 M2
            | .cnt e2 M2 => whlGo cd bd m e2 M2
            | .brk e2 M2 => .next e2 M2
            | .ret d M2 => .ret d M2
            | .exc c v e2 M2 => .exc c v e2 M2
            | .stuck => .stuck) := hw
          cases q2 : blk d.T C b e2 M' with
          | next e3 M3 => rw [q2] at hw; exact nxt hw
          | cnt e3 M3 => rw [q2] at hw; exact nxt hw
          | brk e3 M3 => rw [q2] at hw; exact hw
          | ret y M3 => rw [q2] at hw; exact hw
          | exc c y e3 M3 => rw [q2] at hw; exact hw
          | stuck => rw [q2] at hw; exact hw
      | _ => exact (show False from hw).elim
end
/-! ### cells -/
theorem nodup_at {α : Type} {l : List α} {i j : Nat} {x : α} (h : l.Nodup) (hi : l[i]? = some x) (hj : l[j]? = some x) : i = j := by
  obtain ⟨h1, e1⟩ := List.getElem?_eq_some_iff.mp hi
  obtain ⟨h2, e2⟩ := List.getElem?_eq_some_iff.mp hj
  have p := List.pairwise_iff_getElem.mp h
  rcases Nat.lt_trichotomy i j with q | q | q
  · exact absurd (e1.trans e2.symm) (p i j h1 h2 q)
  · exact q
  · exact absurd (e2.trans e1.symm) (p j i h2 h1 q)
section
variable {d : Wd} {Fb F : Hp} {iob io : List Addr} {Hb H : Hp} {sg : L2.St} {e : Env} {M : Sto}
/-- a cell written -/
theorem Stt.cell {r : Nat} {a : Addr} {o : HO} {c c0 : Cell} (s : Stt d Fb iob Hb F io sg H e M) (hr : io[r]? = some a) (h0 : M[r]? = some c0) (hc : CellR d F io (upd H a o) a c)
    (hod : ∀ cc dx fs, H a = some (.ins cc dx fs) → ∃ fs', o = .ins cc dx fs') (hdx : ∀ b, H a ≠ some (.own b)) : Stt d Fb iob Hb F io sg (upd H a o) e (setC M r c) := by
  have hio : a ∈ io := List.mem_of_getElem? hr
  have ha : H a ≠ none := s.rl.cl.has hio
  have hrl : r < M.length := (List.getElem?_eq_some_iff.mp h0).1
  have cl : Cels d F io (upd H a o) (setC M r c) := by
    refine ⟨by rw [setC, List.length_set]; exact s.rl.cl.len, s.rl.cl.nd, s.rl.cl.out, fun k ck e1 => ?_⟩
    unfold setC at e1
    by_cases q : r = k
    · subst q
      rw [List.getElem?_set_self hrl] at e1
      cases e1
      exact ⟨a, hr, hc⟩
    · rw [List.getElem?_set_ne q] at e1
      obtain ⟨b, h1, h2⟩ := s.rl.cl.cel k ck e1
      have nb : b ≠ a := fun z => by
        subst z
        exact q (nodup_at s.rl.cl.nd hr h1)
      refine ⟨b, h1, ?_⟩
      cases ck with
      | lst l => obtain ⟨vs, e1, e2⟩ := h2; exact ⟨vs, by rw [upd_ne nb]; exact e1, e2⟩
      | obj cc fs =>
        obtain ⟨dx, vfs, e1, e2, e3, e4⟩ := h2
        have nd : dx ≠ a := fun z => by subst z; exact hdx _ e2
        exact ⟨dx, vfs, by rw [upd_ne nb]; exact e1, by rw [upd_ne nd]; exact e2, e3, e4⟩
      | dct kvs => obtain ⟨vkv, e1, e2⟩ := h2; exact ⟨vkv, by rw [upd_ne nb]; exact e1, e2⟩
  have sub : Sub F (upd H a o) := s.rl.sub.updO (s.rl.cl.out a hio)
  refine ⟨⟨s.ex.sub, s.ex.pre, s.ex.frz, s.ex.new, fun b u e1 nb => ?_, fun b e1 => ?_, fun b cc dx fs e1 => ?_⟩, ⟨sub, cl, s.rl.len, s.rl.val, fun i l hi => ?_, s.rl.dis⟩, s.fr⟩
  · have : b ≠ a := fun z => by
      subst z
      rcases s.ex.new b hio with q | q
      · exact nb q
      · rw [q] at e1; cases e1
    rw [upd_ne this]; exact s.ex.keep b u e1 nb
  · by_cases z : b = a
    · subst z; rw [upd_same]; simp
    · rw [upd_ne z]; exact s.ex.there b e1
  · obtain ⟨fs', h1⟩ := s.ex.od b cc dx fs e1
    by_cases z : b = a
    · subst z
      obtain ⟨fs'', h2⟩ := hod cc dx fs' h1
      exact ⟨fs'', by rw [upd_same, h2]⟩
    · exact ⟨fs', by rw [upd_ne z]; exact h1⟩
  · obtain ⟨b, vs, k1, k2, k3, k4, k5⟩ := s.rl.own i l hi
    have : b ≠ a := fun z => k5 (z ▸ hio)
    exact ⟨b, vs, k1, by rw [upd_ne this]; exact k2, k3, k4, k5⟩
end
section
variable {X : Cx} {d : Wd} {C : CallT} {W : WX} {pos pos2 px apos : Pos} {x : Str}
/-- o.append(e), o a cell -/
theorem s_capp {o p : P} {eo ee : Expr} (hs : nsup eo = true) (hn : nst ee = true) (hl : (apos.endLine == px.line) = true) (ho : PE X eo (teI d C W o)) (h : PE X ee (teI d C W p)) :
    PS X (.Expr (.Call (.Attribute eo "append" apos) [ee] [] px) pos) (tsI d C W (.capp o p)) := by
  refine PS_imp (ps_expr (pe_bm PySem.F.plainAttrs_list PySem.F.slot_list_append PySem.F.type_list_append mt_append ho (a_one h hn) (base_of hs) (by rw [star_ns hn]; rfl) hl (star_ns hn) rfl) rfl) fun De sg H h => ?_
  obtain ⟨Fb, iob, Hb, F, io, e, M, s, h⟩ := h
  simp only [st] at h
  refine ⟨F, io, e, M, s.rl, (SatO.bind (RV d) s h).mono fun v H1 m => ?_⟩
  obtain ⟨F1, io1, M1, y, s1, x1, q1, hh⟩ := m
  cases y with
  | cel r =>
    simp only at hh
    split at hh
    case h_2 => exact hh.elim
    rename_i l hm
    obtain ⟨a, rfl, k1⟩ := rep_cel q1
    obtain ⟨a', k2, vs, k3, k4⟩ := s1.rl.cl.cel r _ hm
    rw [k1] at k2; cases k2
    refine ⟨.inl ⟨rfl, _, SqL.of k3⟩, F1, io1, e, M1, s1.rl, (SatO.bind (RV d) s1 hh).mono fun u H2 m2 => ?_⟩
    obtain ⟨F2, io2, M2, z, s2, x2, q2, hh2⟩ := m2
    split at hh2
    case h_2 => exact hh2.elim
    rename_i l2 hm2
    split at hh2
    · rename_i hz
      have k1' := x2.pre _ _ k1
      obtain ⟨a', k2', vs2, k3', k4'⟩ := s2.rl.cl.cel r _ hm2
      rw [k1'] at k2'; cases k2'
      refine ⟨a, vs2, u, rfl, rfl, k3', by rw [← k4'.length, ← lim_eq]; exact hz, hh2 F2 io2 sg _ (s2.cell k1' hm2 (c := .lst (l2 ++ [z])) ⟨_, upd_same, k4'.append (Reps.cons q2 Reps.nil)⟩ (fun cc dx fs q => by rw [k3'] at q; cases q) (fun b q => by rw [k3'] at q; cases q)) (Sub.refl _) (Pre.refl _)⟩
    · exact hh2.elim
  | _ => exact (show False from hh).elim
/-- o[k] = e, o a cell -/
theorem s_cset {o k p : P} {eo ek ee : Expr} {spos : Pos} (hs : swapsWithSole [.Subscript eo ek spos] ee pos.line X.env = pure false) (hw : swappedStores [.Subscript eo ek spos] ee X.env = pure none)
    (ha : ∀ v, assign (.Subscript eo ek spos) X.env v = (do
      let ov ← holding [v] (eval eo X.env)
      let iv ← holding [v, ov] (eval ek X.env)
      standAt spos
      holding [v, ov, iv] (setItem ov iv v)
      release [v, ov, iv] []))
    (h : PE X ee (teI d C W p)) (ho : PE X eo (teI d C W o)) (hk : PE X ek (teI d C W k)) : PS X (.Assign [.Subscript eo ek spos] ee pos) (tsI d C W (.cset o k p)) := by
  refine PS_imp (ps_asg h (pg_sub ho hk set_list ha) hs hw rfl) fun De sg H h => ?_
  obtain ⟨Fb, iob, Hb, F, io, e, M, s, h⟩ := h
  simp only [st] at h
  refine ⟨F, io, e, M, s.rl, (SatO.bind (RV d) s h).mono fun v H1 m => ?_⟩
  obtain ⟨F1, io1, M1, y, s1, x1, q1, hh⟩ := m
  refine ⟨F1, io1, e, M1, s1.rl, (SatO.bind (RV d) s1 hh).mono fun u H2 m2 => ?_⟩
  obtain ⟨F2, io2, M2, c, s2, x2, q2, hh2⟩ := m2
  refine ⟨F2, io2, e, M2, s2.rl, (SatO.bind (RV d) s2 hh2).mono fun w H3 m3 => ?_⟩
  obtain ⟨F3, io3, M3, j, s3, x3, q3, hh3⟩ := m3
  cases hcs : csetD c j y M3 with
  | none => rw [hcs] at hh3; exact hh3.elim
  | some M4 =>
    rw [hcs] at hh3
    cases c with
    | cel r =>
      cases j with
      | int n =>
        simp only [csetD] at hcs
        cases hm : M3[r]? with
        | none => rw [hm] at hcs; cases hcs
        | some cl =>
          rw [hm] at hcs
          cases cl with
          | lst l =>
            simp only at hcs
            obtain ⟨jj, hj, rfl⟩ := Option.map_eq_some_iff.mp hcs
            obtain ⟨a, rfl, k1⟩ := rep_cel q2
            have k1' := x3.pre _ _ k1
            obtain ⟨a', k2', vs, k3', k4'⟩ := s3.rl.cl.cel r _ hm
            rw [k1'] at k2'; cases k2'
            have ry := Rep.mono (x2.sub.trans x3.sub) (x2.pre.trans x3.pre) _ _ q1
            exact ⟨a, vs, n, jj, rfl, rep_int q3, k3', by rw [← k4'.length]; exact hj, hh3 F3 io3 sg _ (s3.cell k1' hm (c := .lst (l.set jj y)) ⟨_, upd_same, k4'.set jj ry⟩ (fun cc dx fs q => by rw [k3'] at q; cases q) (fun b q => by rw [k3'] at q; cases q)) (Sub.refl _) (Pre.refl _)⟩
          | _ => cases hcs
      | _ => simp only [csetD] at hcs; cases hcs
    | _ => simp only [csetD] at hcs; cases hcs
/-- a cell's place is set: what the store's rule asks -/
theorem cset_use {c j y : D} {M3 M4 : Sto} (h : csetD c j y M3 = some M4) : ∃ r n l jj, c = .cel r ∧ j = .int n ∧ M3[r]? = some (.lst l) ∧ L2.ixN l.length n = some jj ∧ M4 = setC M3 r (.lst (l.set jj y)) := by
  cases c with
  | cel r =>
    cases j with
    | int n =>
      simp only [csetD] at h
      cases hm : M3[r]? with
      | none => rw [hm] at h; cases h
      | some cl =>
        rw [hm] at h
        cases cl with
        | lst l =>
          simp only at h
          obtain ⟨jj, hj, rfl⟩ := Option.map_eq_some_iff.mp h
          exact ⟨r, n, l, jj, rfl, rfl, hm, hj, rfl⟩
        | _ => cases h
    | _ => simp only [csetD] at h; cases h
  | _ => simp only [csetD] at h; cases h
/-- o1[k1], o2[k2] = a pair, o1 and o2 cells -/
theorem s_swp {o1 k1 o2 k2 p : P} {eo1 ek1 eo2 ek2 ee : Expr} {p1 p2 pt : Pos} {kt : Nat} (hc : X.calm = true) (hK : X.K = d.K)
    (hs : swapsWithSole [.Tuple [.Subscript eo1 ek1 p1, .Subscript eo2 ek2 p2] kt pt] ee pos.line X.env = pure false)
    (hw : swappedStores [.Tuple [.Subscript eo1 ek1 p1, .Subscript eo2 ek2 p2] kt pt] ee X.env = pure none)
    (ha1 : ∀ v, assign (.Subscript eo1 ek1 p1) X.env v = (do
      let ov ← holding [v] (eval eo1 X.env)
      let iv ← holding [v, ov] (eval ek1 X.env)
      standAt p1
      holding [v, ov, iv] (setItem ov iv v)
      release [v, ov, iv] []))
    (ha2 : ∀ v, assign (.Subscript eo2 ek2 p2) X.env v = (do
      let ov ← holding [v] (eval eo2 X.env)
      let iv ← holding [v, ov] (eval ek2 X.env)
      standAt p2
      holding [v, ov, iv] (setItem ov iv v)
      release [v, ov, iv] []))
    (h : PE X ee (teI d C W p)) (ho1 : PE X eo1 (teI d C W o1)) (hk1 : PE X ek1 (teI d C W k1)) (ho2 : PE X eo2 (teI d C W o2)) (hk2 : PE X ek2 (teI d C W k2)) :
    PS X (.Assign [.Tuple [.Subscript eo1 ek1 p1, .Subscript eo2 ek2 p2] kt pt] ee pos) (tsI d C W (.swp o1 k1 o2 k2 p)) := by
  refine PS_imp (ps_asg h (pg_tup hc (pgs_cons (pg_sub ho1 hk1 set_list ha1) (pgs_cons (pg_sub ho2 hk2 set_list ha2) pgs_nil))) hs hw rfl) fun De sg H h => ?_
  obtain ⟨Fb, iob, Hb, F, io, e, M, s, h⟩ := h
  simp only [st] at h
  refine ⟨F, io, e, M, s.rl, (SatO.bind (RV d) s h).mono fun v H1 m => ?_⟩
  obtain ⟨F1, io1, M1, dd, s1, x1, q1, hh⟩ := m
  split at hh
  case h_2 => exact hh.elim
  rename_i y z
  obtain ⟨a, vs, rfl, t1, t2⟩ := rep_tup q1
  simp only [Reps] at t2
  obtain ⟨vy, r1, rfl, ry, vz, r2, rfl, rz, rfl⟩ := t2
  refine ⟨a, _, rfl, by rw [hK]; exact s1.rl.sub.sqt t1, rfl, vy, _, rfl, ?_⟩
  refine ⟨F1, io1, e, M1, s1.rl, (SatO.bind (RV d) s1 hh).mono fun u H2 m2 => ?_⟩
  obtain ⟨F2, io2, M2, c, s2, x2, q2, hh2⟩ := m2
  refine ⟨F2, io2, e, M2, s2.rl, (SatO.bind (RV d) s2 hh2).mono fun w H3 m3 => ?_⟩
  obtain ⟨F3, io3, M3, j, s3, x3, q3, hh3⟩ := m3
  cases hcs : csetD c j y M3 with
  | none => rw [hcs] at hh3; exact hh3.elim
  | some M4 =>
    rw [hcs] at hh3
    obtain ⟨r, n, l, jj, rfl, rfl, hm, hj, rfl⟩ := cset_use hcs
    obtain ⟨a1, rfl, k1⟩ := rep_cel q2
    have k1' := x3.pre _ _ k1
    obtain ⟨a', k2', ws, k3', k4'⟩ := s3.rl.cl.cel r _ hm
    rw [k1'] at k2'; cases k2'
    have ry' := Rep.mono (x2.sub.trans x3.sub) (x2.pre.trans x3.pre) _ _ ry
    have rz' := Rep.mono (x2.sub.trans x3.sub) (x2.pre.trans x3.pre) _ _ rz
    refine ⟨a1, ws, n, jj, rfl, rep_int q3, k3', by rw [← k4'.length]; exact hj, ?_⟩
    have s4 := s3.cell k1' hm (c := .lst (l.set jj y)) ⟨_, upd_same, k4'.set jj ry'⟩ (fun cc dx fs q => by rw [k3'] at q; cases q) (fun b q => by rw [k3'] at q; cases q)
    refine ⟨vz, [], rfl, ?_⟩
    refine ⟨F3, io3, e, _, s4.rl, (SatO.bind (RV d) s4 hh3).mono fun u H5 m5 => ?_⟩
    obtain ⟨F5, io5, M5, c2, s5, x5, q5, hh5⟩ := m5
    refine ⟨F5, io5, e, M5, s5.rl, (SatO.bind (RV d) s5 hh5).mono fun w H6 m6 => ?_⟩
    obtain ⟨F6, io6, M6, j2, s6, x6, q6, hh6⟩ := m6
    cases hcs2 : csetD c2 j2 z M6 with
    | none => rw [hcs2] at hh6; exact hh6.elim
    | some M7 =>
      rw [hcs2] at hh6
      obtain ⟨r2, n2, l2, jj2, rfl, rfl, hm2, hj2, rfl⟩ := cset_use hcs2
      obtain ⟨b1, rfl, g1⟩ := rep_cel q5
      have g1' := x6.pre _ _ g1
      obtain ⟨b', g2', ws2, g3', g4'⟩ := s6.rl.cl.cel r2 _ hm2
      rw [g1'] at g2'; cases g2'
      have rz2 := Rep.mono (x5.sub.trans x6.sub) (x5.pre.trans x6.pre) _ _ rz'
      exact ⟨b1, ws2, n2, jj2, rfl, rep_int q6, g3', by rw [← g4'.length]; exact hj2, rfl, hh6 F6 io6 sg _ (s6.cell g1' hm2 (c := .lst (l2.set jj2 z)) ⟨_, upd_same, g4'.set jj2 rz2⟩ (fun cc dx fs q => by rw [g3'] at q; cases q) (fun b q => by rw [g3'] at q; cases q)) (Sub.refl _) (Pre.refl _)⟩
theorem putF_names (f : Str) (y : D) (v : V) : ∀ {fs : List (Str × D)} {vfs : List (Str × V)}, fs.map (·.1) = vfs.map (·.1) → (putF f y fs).map (·.1) = (L2.putF f v vfs).map (·.1)
  | [], [], _ => rfl
  | [], _ :: _, h => by simp at h
  | _ :: _, [], h => by simp at h
  | (g, z) :: fs, (g', z') :: vfs, h => by
    simp only [List.map_cons, List.cons.injEq] at h
    obtain ⟨h1, h2⟩ := h
    have h1 : g = g' := h1
    subst h1
    simp only [putF, L2.putF]
    by_cases q : f = g
    · subst q; simp [h2]
    · rw [if_neg q, if_neg (Ne.symm q)]
      simp [putF_names f y v h2]
theorem putF_reps {F : Hp} {io : List Addr} (f : Str) {y : D} {v : V} (r : Rep d F io y v) : ∀ {fs : List (Str × D)} {vfs : List (Str × V)}, fs.map (·.1) = vfs.map (·.1) → Reps d F io (fs.map (·.2)) (vfs.map (·.2)) → Reps d F io ((putF f y fs).map (·.2)) ((L2.putF f v vfs).map (·.2))
  | [], [], _, _ => Reps.cons r Reps.nil
  | [], _ :: _, h, _ => by simp at h
  | _ :: _, [], h, _ => by simp at h
  | (g, z) :: fs, (g', z') :: vfs, h, k => by
    simp only [List.map_cons, List.cons.injEq] at h
    obtain ⟨h1, h2⟩ := h
    have h1 : g = g' := h1
    subst h1
    simp only [List.map_cons, Reps] at k
    obtain ⟨u, us, e, k1, k2⟩ := k
    cases e
    simp only [putF, L2.putF]
    by_cases q : f = g
    · subst q; rw [if_pos rfl, if_pos rfl]; exact Reps.cons r k2
    · rw [if_neg q, if_neg (Ne.symm q)]; exact Reps.cons k1 (putF_reps f r h2 k2)
/-- o.f = e, o an object cell -/
theorem s_setf {o p : P} {eo ee : Expr} {f : Str} (hK : X.K = d.K) (hcl : ∀ c, (d.T.init c).isSome = true → ClF d c) (hs : swapsWith ee (some (.Attribute eo f px)) pos.line X.env = pure false) (h : PE X ee (teI d C W p)) (ho : PE X eo (teI d C W o)) :
    PS X (.Assign [.Attribute eo f px] ee pos) (tsI d C W (.setf o f p)) := by
  refine PS_imp (ps_fld ho h hs) fun De sg H h => ?_
  obtain ⟨Fb, iob, Hb, F, io, e, M, s, h⟩ := h
  simp only [st] at h
  refine ⟨F, io, e, M, s.rl, (SatO.bind (RV d) s h).mono fun v H1 m => ?_⟩
  obtain ⟨F1, io1, M1, y, s1, x1, q1, hh⟩ := m
  refine ⟨F1, io1, e, M1, s1.rl, (SatO.bind (RV d) s1 hh).mono fun u H2 m2 => ?_⟩
  obtain ⟨F2, io2, M2, c, s2, x2, q2, hh2⟩ := m2
  cases c with
  | cel r =>
    simp only at hh2
    split at hh2
    case h_2 => exact hh2.elim
    rename_i k fs hm
    split at hh2
    case isFalse => exact hh2.elim
    rename_i hz
    obtain ⟨hz, hi, hf⟩ := hz
    have cf := hcl k hi
    obtain ⟨a, rfl, k1⟩ := rep_cel q2
    obtain ⟨a', k2, dx, vfs, k3, k4, k5, k6⟩ := s2.rl.cl.cel r _ hm
    rw [k1] at k2; cases k2
    have hlen : vfs.length = fs.length := by
      have := congrArg List.length k5
      simpa using this.symm
    refine ⟨a, d.ca k, dx, vfs, rfl, k3, by rw [hK]; exact cf.cls, by rw [hK]; exact cf.att f hf, by omega, ?_⟩
    have ry := Rep.mono x2.sub x2.pre _ _ q1
    have ne : dx ≠ a := fun z => by rw [z, k3] at k4; cases k4
    exact hh2 F2 io2 sg _ (s2.cell k1 hm (c := .obj k (putF f y fs)) ⟨dx, _, upd_same, by rw [upd_ne ne]; exact k4, putF_names f y v k5, putF_reps f ry k5 k6⟩ (fun cc dx' fs' q => by rw [k3] at q; cases q; exact ⟨_, rfl⟩) (fun b q => by rw [k3] at q; cases q)) (Sub.refl _) (Pre.refl _)
  | _ => exact (show False from hh2).elim
end
end Rb

/-! RbTry: try with one named clause that returns the error's field, alone or behind a word. Own work. -/
namespace Rb
open PySem PySem.Spec PyProof.Rows
open L2 hiding XE Takes CX passes_call takes_of MkP PMk ps_raise mk_of ps_try_as HdsOk ps_try_many pmk_own passAt St
open L2N
theorem pss_ex {X : Cx} {b : List Stmt} {α : Type} {t : α → TS} (h : ∀ a, PSs X b (t a)) : PSs X b (fun De sg H => ∃ a, t a De sg H) := ⟨fun pins s sg H De I ⟨a, z⟩ => (h a).run pins s sg H De I z⟩
theorem pss_and {X : Cx} {b : List Stmt} {p : Prop} {t : TS} (h : p → PSs X b t) : PSs X b (fun De sg H => p ∧ t De sg H) := ⟨fun pins s sg H De I ⟨a, z⟩ => (h a).run pins s sg H De I z⟩
/-- the error's field, read in the clause -/
def tFld (d : Wd) (i : Nat) (f : Str) (a : Addr) (cls : Value) (dd : Option Addr) (c : Nat) : TE := tXf a cls dd (d.ca c) f (tVar i)
/-- what the clause gives: the field alone; behind a word -/
def tsX (d : Wd) (i : Nat) (f : Str) (z : Option Str) (a : Addr) (cls : Value) (dd : Option Addr) : TS := fun De sg H => ∃ c, (cls = .ref (d.ca c) ∧ d.T.efld c = some f) ∧
  tSeq (tRet (match z with | none => tFld d i f a cls dd c | some w => tTup (tCons (tC (.str w)) (tCons (tFld d i f a cls dd c) tNil)))) tNext De sg H
def hP (i : Nat) (f : Str) : Option Str → P
  | none => .exat i f
  | some w => .tup [.cst (.str w), .exat i f]
section
variable {X : Cx} {d : Wd} {C : CallT} {W : WX} {pos pos' rp np vp ap tp cp : Pos} {x n : Str} {i h k tk0 ck : Nat} {f : Str}
theorem pe_fld (hK : X.K = d.K) (er : ∀ c f, d.T.efld c = some f → ErF d c f) (hN : X.N[i]? = some n) (hv : Vis X.env.scope n) (h1 : (n == ("__debug__" : Str)) = false) (h2 : (n == ("__classdict__" : Str)) = false)
    {a : Addr} {oe : Obj} {cls : Value} {dd : Option Addr} {pn : List (Addr × Obj)} (hz : Zc cls dd oe) (hf : ∃ vs, oe.data = .fields vs) {c : Nat} (hc : d.T.efld c = some f) :
    PE (X.suite a ((a, oe) :: pn)) (.Attribute (.Name n vp) f ap) (tFld d i f a cls dd c) := by
  obtain ⟨fI, T⟩ := (er c f hc).txt
  have T2 : XfC X.K (d.ca c) := by rw [hK]; exact ⟨T.ga, T.gg, T.exC, T.hdC⟩
  exact pe_xf T2 (by rw [hK]; exact T.noN) hz hf (pe_var (X := X.suite a ((a, oe) :: pn)) hN hv h1 h2)
theorem handE_none {e1 : Env} {M1 : Sto} {c : Nat} {v : D} (F0 : Out → Prop) (hs : ¬ F0 .stuck) (h : F0 (match blk d.T C [.ret (.exat i f)] (List.set e1 i (.val (.exn c v))) M1 with | .ret x M2 => .ret x M2 | _ => .stuck)) : i < e1.length ∧ d.T.efld c = some f ∧ F0 (.ret v M1) := by
  by_cases hi : i < e1.length
  · have g : (List.set e1 i (Slot.val (.exn c v)))[i]? = some (.val (.exn c v)) := List.getElem?_set_self hi
    simp only [blk, st, ev, g] at h
    by_cases hf : d.T.efld c = some f
    · rw [if_pos hf] at h
      exact ⟨hi, hf, h⟩
    · rw [if_neg hf] at h
      exact absurd h hs
  · have g : (List.set e1 i (Slot.val (.exn c v)))[i]? = none := by rw [List.getElem?_eq_none]; rw [List.length_set]; omega
    simp only [blk, st, ev, g] at h
    exact absurd h hs
theorem handE_some {e1 : Env} {M1 : Sto} {c : Nat} {v : D} {w : Str} (F0 : Out → Prop) (hs : ¬ F0 .stuck) (h : F0 (match blk d.T C [.ret (.tup [.cst (.str w), .exat i f])] (List.set e1 i (.val (.exn c v))) M1 with | .ret x M2 => .ret x M2 | _ => .stuck)) : i < e1.length ∧ d.T.efld c = some f ∧ F0 (.ret (.tup [.str w, v]) M1) := by
  by_cases hi : i < e1.length
  · have g : (List.set e1 i (Slot.val (.exn c v)))[i]? = some (.val (.exn c v)) := List.getElem?_set_self hi
    simp only [blk, st, ev, evs, Res.bind, g] at h
    by_cases hf : d.T.efld c = some f
    · rw [if_pos hf] at h
      exact ⟨hi, hf, h⟩
    · rw [if_neg hf] at h
      exact absurd h hs
  · have g : (List.set e1 i (Slot.val (.exn c v)))[i]? = none := by rw [List.getElem?_eq_none]; rw [List.length_set]; omega
    simp only [blk, st, ev, evs, Res.bind, g] at h
    exact absurd h hs
/-- what is known of a caught error gives the clause its wish -/
theorem clause_ok {z : Option Str} {Fb F1 : Hp} {iob io1 : List Addr} {Hb H1 : Hp} {sg1 : L2.St} {e1 : Env} {M1 : Sto} {De De' : Ends} {c : Nat} {v : D} {v0 : V} {a a0 : Addr} (hrt : De'.rt = De.rt) (s1 : Stt d Fb iob Hb F1 io1 sg1 H1 e1 M1) (hi : i < e1.length) (hf : d.T.efld c = some f) (hF : F1 a0 = some (.xd [(f, v0)])) (hrep : Rep d F1 io1 v v0)
    (hz : ∀ F io H u, Ex Fb iob Hb F io H → Sub F H → Cels d F io H M1 → Rep d F io (match z with | none => v | some w => .tup [.str w, v]) u → De.rt u H) : tsX d i f z a (.ref (d.ca c)) (some a0) De' (sg1.set i (some (.ref a))) H1 := by
  have hl : i < sg1.length := by rw [← s1.rl.len]; exact hi
  have fld : ∀ Q : VK, Q v0 H1 → tFld d i f a (.ref (d.ca c)) (some a0) c (sg1.set i (some (.ref a))) H1 Q := fun Q q =>
    ⟨.ref a, List.getElem?_set_self hl, rfl, rfl, a0, [(f, v0)], v0, rfl, s1.rl.sub _ _ hF, by simp [List.lookup], q⟩
  refine ⟨c, ⟨rfl, hf⟩, ?_⟩
  cases z with
  | none =>
    refine fld _ ?_
    show De'.rt v0 H1
    rw [hrt]
    exact hz F1 io1 H1 v0 s1.ex s1.rl.sub s1.rl.cl hrep
  | some w =>
    show tFld d i f a (.ref (d.ca c)) (some a0) c (sg1.set i (some (.ref a))) H1 _
    refine fld _ ?_
    refine ⟨by simp only [List.length_cons, List.length_nil]; exact (by rw [← lim_eq]; decide : 2 ≤ sizeLine), fun p hp => ?_⟩
    show De'.rt (.ref p) _
    rw [hrt]
    refine post_tup (l := [.str w, v]) s1.rl.sub s1.rl.cl (fun F' io' H' b x1 s2 c2 r2 => hz F' io' H' b (s1.ex.trans x1) s2 c2 r2) hp ?_
    exact Reps.cons (by simp only [Rep]) (Reps.cons hrep Reps.nil)
end
end Rb

/-! RbTryN: several named clauses in turn (the kit's roads for one named clause and for several unnamed ones, joined). Own work. -/
namespace Rb
open PySem PySem.Spec PyProof.Rows
open L2 hiding XE Takes CX passes_call takes_of MkP PMk ps_raise mk_of ps_try_as HdsOk ps_try_many pmk_own passAt St
open L2N
/-- a clause: its name's slot, its class, what it gives -/
abbrev Cl : Type := Nat × Value × (Addr → Value → Option Addr → TS)
def endsN (i : Nat) (De : Ends) : Ends := { nx := fun σ' H' => De.nx (σ'.set i none) H', rt := De.rt, bk := fun σ' H' => De.bk (σ'.set i none) H', ct := fun σ' H' => De.ct (σ'.set i none) H' }
/-- what the clauses wish of an error, in turn -/
def wTurn (K : PySem.W.Frag) (Wo : WX) (De : Ends) : List Cl → WX
  | [] => Wo
  | q :: r => fun cls dd sg H => ∃ b, PySem.W.exmOne K cls q.2.1 = some b ∧ (b = true → ∀ a, H a = none → q.2.2 a cls dd (endsN q.1 De) (sg.set q.1 (some (.ref a))) H) ∧ (b = false → wTurn K Wo De r cls dd sg H)
inductive ClsOk (X : Cx) : List ExceptHandler → List Cl → Prop
  | nil : ClsOk X [] []
  | cons {x n : Str} {q : Cl} {s0 : Stmt} {su : List Stmt} {np hp : Pos} {hds : List ExceptHandler} {l : List Cl} (hc : Names X x q.2.1) (hi : X.N[q.1]? = some n) (hln : X.env.kindOf n = some .local)
      (hsu : ∀ (a : Addr) (ob : Obj) (cls : Value) (dd : Option Addr) (pn : List (Addr × Obj)), Zn cls dd ob → (∃ vs, ob.data = .fields vs) → PSs (X.suite a ((a, ob) :: pn)) (s0 :: su) (q.2.2 a cls dd)) (r : ClsOk X hds l) :
      ClsOk X (.ExceptHandler (some (.Name x np)) (some n) (s0 :: su) hp :: hds) (q :: l)
section
variable {X : Cx} {body : List Stmt} {hd0 : ExceptHandler} {hds : List ExceptHandler} {l : List Cl} {pos : Pos} {tb : WX → TS} {Wo : WX}
theorem ps_turn (st1 : X.stack = X.env :: X.outer) (fr1 : X.env.frame = some X.env.locals) (nd1 : X.N.Nodup) (tk : Takes X Wo)
    (hb : ∀ (W : WX) (pn : List (Addr × Obj)) (xe : Value → Shared → Prop), Takes (X.tr pn xe) W → PassesOwn (model X.prog X.w) X.A X.env xe → PSs (X.tr pn xe) body (tb W))
    (hh : ClsOk X (hd0 :: hds) l) : PS X (.Try body (hd0 :: hds) [] [] pos) (fun De sg H => tb (wTurn X.K Wo De l) De sg H) := by
  refine ⟨fun ps s0 sg H De I0 h => ?_⟩
  have okX := I0.ok
  have frames : X.A.frames = some (X.env :: X.outer) := by rw [okX.frames, st1]
  refine wpAny_Try_except ?_
  refine wpAny_mono ((hb (wTurn X.K Wo De l) (X.pn ++ ps) (fun e sa => wpAny (model X.prog X.w) X.A (noteFrame e X.env) (fun _ sb => wpAny (model X.prog X.w) X.A (setFlight e none) (fun _ sc =>
    wpAny (model X.prog X.w) X.A (handleBy e X.env (hd0 :: hds)) (SP X ps De) X.xe sc) X.xe sb) X.xe sa) (fun u sE xx => ?_) PassesOwn.looking).run [] s0 sg H De (I0.toTry _) h) (fun fl sF hsp => ?_) (fun e sF he => he)
  · obtain ⟨a, B, sI, ps', sg', H', cls, dd, rfl, Ja, nb, up, sk0, na, os, ag, w⟩ := xx
    have Jb : Inv X ps sg' H' sI := Ja.ofTry okX
    have sk1 : Sky B (X.env :: X.outer) a (Zn cls dd) X.env.locals sE.heap := by rw [← st1]; exact sk0
    show wpAny (model X.prog X.w) X.A (noteFrame (.ref a) X.env) _ _ _
    refine L2N.Sky.land Zn.steady frames fr1 sk1 fun hC flC upC => ?_
    have Jc : Inv X ps sg' H' { sE with heap := hC } := Jb.landed nb flC.1 (up.trans upC) os ag
    obtain ⟨obC, vsC, heC, hzC, hdC⟩ := flC.there
    have noFr : ∀ {hh : Heap} {o : Obj} {vs : Array Value}, hh.FunFrames B (X.env :: X.outer) → hh.get? a = some o → o.data = .fields vs → a ∉ frs (X.env :: X.outer) := fun {hh o vs} ff e1 e2 hm => by
      obtain ⟨_, o', e', hnf⟩ := ff.mem hm
      rw [e1] at e'; cases e'
      exact hnf _ e2
    have nofr := noFr flC.2.2.1 heC hdC
    have nL : a ≠ X.env.locals := fun z => nofr (List.mem_filterMap.mpr ⟨X.env, List.mem_cons_self, by rw [fr1, z]⟩)
    have nF : a ∉ X.fs := fun hm => by
      obtain ⟨e, he, q⟩ := List.mem_filterMap.mp hm
      exact nofr (List.mem_filterMap.mpr ⟨e, List.mem_cons_of_mem _ he, q⟩)
    have Sc := Jc.suite heC hdC na nL nF
    have go : ∀ {hs2 : List ExceptHandler} {l2 : List Cl}, ClsOk X hs2 l2 → wTurn X.K Wo De l2 cls dd sg' H' →
        wpAny (model X.prog X.w) X.A (handleBy (.ref a) X.env hs2) (SP X ps De) X.xe { sE with heap := hC } := by
      intro hs2 l2 hk
      induction hk with
      | nil =>
        intro w
        refine wpAny_handleBy_nil ?_
        obtain ⟨k1, k2, k3, ob, vs, T, oT, ts', he, hz, hd, h1, hr⟩ := id flC
        unfold PySem.passOn
        refine wpAny_bind (wpAny_field he hd h1 ?_)
        rw [if_neg (show ¬ ((Value.ref T == Value.none) = true) from by simp)]
        have last : wpAny (model X.prog X.w) X.A (setFlight (.ref a) X.env.frame) (fun _ sD => wpAny (model X.prog X.w) X.A (throw (.ref a) : Sem Flow) (SP X ps De) X.xe sD) X.xe { sE with heap := hC } := by
          rw [fr1]
          refine HandSPX.setFlight_upZ flC fun hD hhD upD => wpAny_throw (tk _ _ ?_)
          exact ⟨a, B, sI, ps, sg', H', cls, dd, rfl, Jb, nb, (up.trans upC).trans upD, .inr (.inr (by rw [st1]; exact hhD)), na, os, ag, w⟩
        first
          | exact wpAny_bind (wpAny_pure (wpAny_bind last))
          | exact wpAny_bind last
      | @cons x n q b1 su np hp hs3 l3 hc hi hln hsu r ih =>
        intro w
        obtain ⟨b, hb1, hyes, hno⟩ := w
        refine wpAny_handleBy_cons (codeAny_handlers_test ?_) (by intro q; cases q)
        have LT : PySem.W.Looks (model X.prog X.w) hC (typeOf (.ref a)) cls := fun A Q E s k q => wpAny_typeOf_ref (k _ _ heC) (by rw [hzC.1]; exact q)
        have LM := PySem.W.exm_one (M := model X.prog X.w) (Jc.kIn) LT hb1
        have test : ∀ {Q : Value → Shared → Prop} {E : Value → Shared → Prop}, Q q.2.1 { sE with heap := hC } → wpAny (model X.prog X.w) (X.A.mark (some (.ref a))) (eval (.Name x np) X.env) Q E { sE with heap := hC } := fun {Q E} z => by
          obtain ⟨hg, hdbg, hm | ⟨hm, hv, hnn⟩⟩ := hc
          · exact ld_glob (X := X.suite a ((a, obC) :: (X.pn ++ ps))) Sc hg hm z hdbg
          · exact ld_blt (X := X.suite a ((a, obC) :: (X.pn ++ ps))) Sc hg hm hv z hnn hdbg
        refine test (LM.here ?_)
        cases b with
        | true =>
          refine codeAny_handlers_suite_as ?_
          refine HandSPX.lands_againZ flC fun hD flD upD => ?_
          have Jd : Inv X ps sg' H' { sE with heap := hD } := Jb.landed nb flD.1 ((up.trans upC).trans upD) os ag
          obtain ⟨obD, vsD, heD, hzD, hdD⟩ := flD.there
          have Sd := Jd.suite heD hdD na nL nF
          refine store_ok (X := X.suite a ((a, obD) :: (X.pn ++ ps))) (v := .ref a) Sd nd1 hi (.inl hln) rfl (fun sG Sg => ?_) (.inr hln)
          refine wpAny_mono ((hsu a obD cls dd (X.pn ++ ps) hzD ⟨_, hdD⟩).run [] sG _ H' _ Sg (hyes rfl a na)) (fun f sH hsp => ?_) (fun _ _ z => False.elim z)
          have gone : ∀ {sgH : L2.St} {HH : Hp} {Q : Shared → Prop}, Inv (X.suite a ((a, obD) :: (X.pn ++ ps))) [] sgH HH sH → (∀ sJ, Inv X ps (sgH.set q.1 none) HH sJ → Q sJ) →
              wpAny (model X.prog X.w) X.A (do bindName X.env n .none; unbindBehindTheSuite X.env n hp) (fun _ sJ => Q sJ) X.xe sH := fun {sgH HH Q} SH hq => gone_ok (SH.unsuite okX) nd1 hi hln hq
          cases f with
          | next =>
            obtain ⟨sgH, HH, SH, qH⟩ := hsp
            exact gone SH fun sJ JJ => ⟨_, _, JJ, qH⟩
          | brk =>
            obtain ⟨sgH, HH, SH, qH⟩ := hsp
            exact gone SH fun sJ JJ => ⟨_, _, JJ, qH⟩
          | cont =>
            obtain ⟨sgH, HH, SH, qH⟩ := hsp
            exact gone SH fun sJ JJ => ⟨_, _, JJ, qH⟩
          | ret u =>
            obtain ⟨vH, sgH, HH, SH, rH, qH⟩ := hsp
            exact gone SH fun sJ JJ => ⟨_, _, _, JJ, rH, qH⟩
        | false =>
          show wpAny _ X.A (handleBy (.ref a) X.env hs3) _ _ _
          exact ih (hno rfl)
    exact go hh w
  · cases fl with
    | next =>
      obtain ⟨sg', H', J', q⟩ := hsp
      exact wpAny_execs_nil ⟨sg', H', J'.ofTry okX, q⟩
    | brk =>
      obtain ⟨sg', H', J', q⟩ := hsp
      exact ⟨sg', H', J'.ofTry okX, q⟩
    | cont =>
      obtain ⟨sg', H', J', q⟩ := hsp
      exact ⟨sg', H', J'.ofTry okX, q⟩
    | ret u =>
      obtain ⟨v, sg', H', J', r, q⟩ := hsp
      exact ⟨v, sg', H', J'.ofTry okX, r, q⟩
end
/-- a clause by its parts: class, slot, field, word -/
structure CD where
  h : Nat
  i : Nat
  f : Str
  z : Option Str
def CD.hd (q : CD) : Nat × Option Nat × List S := (q.h, some q.i, [.ret (hP q.i q.f q.z)])
def CD.cl (d : Wd) (q : CD) : Cl := (q.i, .ref (d.ca q.h), tsX d q.i q.f q.z)
def fldE (n : Str) (f : Str) : Option Str → Expr → Prop
  | none, ee => ∃ vp ap, ee = .Attribute (.Name n vp) f ap
  | some w, ee => ∃ vp ap ck cp tk0 tp, ee = .Tuple [.Constant (.str w) ck cp, .Attribute (.Name n vp) f ap] tk0 tp
inductive ClN (d : Wd) (X : Cx) : List ExceptHandler → List CD → Prop
  | nil : ClN d X [] []
  | cons {x n : Str} {q : CD} {ee : Expr} {np rp hp : Pos} {hds : List ExceptHandler} {l : List CD} (hN : X.N[q.i]? = some n) (hln : X.env.kindOf n = some .local) (hv : Vis X.env.scope n) (h1 : (n == ("__debug__" : Str)) = false) (h2 : (n == ("__classdict__" : Str)) = false)
      (hg : Gl X x) (hdb : (x == ("__debug__" : Str)) = false) (hm : d.mg x = some (.ref (d.ca q.h))) (hx : ∀ c f, d.T.efld c = some f → PySem.W.exmOne d.K (.ref (d.ca c)) (.ref (d.ca q.h)) = some (decide (c = q.h ∨ d.T.base c = some q.h)))
      (hee : fldE n q.f q.z ee) (r : ClN d X hds l) : ClN d X (.ExceptHandler (some (.Name x np)) (some n) [.Return (some ee) rp] hp :: hds) (q :: l)
section
variable {X : Cx} {d : Wd} {C : CallT} {W : WX} {pos : Pos}
theorem ClN.ok (hK : X.K = d.K) (hmg : X.mg = d.mg) (er : ∀ c f, d.T.efld c = some f → ErF d c f) {hds : List ExceptHandler} {l : List CD} (k : ClN d X hds l) : ClsOk X hds (l.map (CD.cl d)) := by
  induction k with
  | nil => exact .nil
  | @cons x n q ee np rp hp hds l hN hln hv h1 h2 hg hdb hm hx hee r ih =>
    refine .cons (q := q.cl d) ⟨hg, hdb, .inl (by rw [hmg]; exact hm)⟩ hN hln (fun a ob cls dd pn hz hfv => ?_) ih
    refine pss_ex fun c => pss_and fun hc => pss_cons (ps_ret ?_) pss_nil
    obtain ⟨h, i, f, z⟩ := q
    cases z with
    | none =>
      obtain ⟨vp, ap, rfl⟩ := hee
      exact pe_fld (a := a) hK er hN hv h1 h2 hz.zc hfv (pn := pn) hc.2
    | some w =>
      obtain ⟨vp, ap, ck, cp, tk0, tp, rfl⟩ := hee
      exact pe_tup (pa_cons pe_str (pa_cons (pe_fld (a := a) hK er hN hv h1 h2 hz.zc hfv (pn := pn) hc.2) pa_nil))
theorem ClN.hx {hds : List ExceptHandler} {l : List CD} (k : ClN d X hds l) : ∀ q ∈ l, ∀ c f, d.T.efld c = some f → PySem.W.exmOne d.K (.ref (d.ca c)) (.ref (d.ca q.h)) = some (decide (c = q.h ∨ d.T.base c = some q.h)) := by
  induction k with
  | nil => intro q hq; cases hq
  | cons _ _ _ _ _ _ _ _ hx _ _ ih =>
    intro q hq
    rcases List.mem_cons.mp hq with rfl | hq
    · exact hx
    · exact ih q hq
theorem turn_ok {Fb F F1 : Hp} {iob io io1 : List Addr} {Hb H1 : Hp} {sg1 : L2.St} {e1 : Env} {M1 : Sto} {De : Ends} {c : Nat} {v : D} {v0 : V} {a0 : Addr} {f0 : Str} (s1 : Stt d Fb iob Hb F1 io1 sg1 H1 e1 M1) (sub : Sub F F1) (pre : Pre io io1)
    (hf0 : d.T.efld c = some f0) (hF : F1 a0 = some (.xd [(f0, v0)])) (hrep : Rep d F1 io1 v v0) : ∀ (l : List CD), (∀ q ∈ l, ∀ c f, d.T.efld c = some f → PySem.W.exmOne d.K (.ref (d.ca c)) (.ref (d.ca q.h)) = some (decide (c = q.h ∨ d.T.base c = some q.h))) →
      SatO d W Fb iob Hb F io De (hand d.T C (l.map CD.hd) c v e1 M1) → wTurn d.K W De (l.map (CD.cl d)) (.ref (d.ca c)) (some a0) sg1 H1
  | [], _, q => q F1 io1 sg1 H1 _ _ s1 sub pre ⟨rfl, f0, a0, v0, hf0, rfl, hF, hrep⟩
  | y :: l, hx, q => by
    refine ⟨decide (c = y.h ∨ d.T.base c = some y.h), hx y (by simp) c f0 hf0, fun hb a hna => ?_, fun hb => ?_⟩
    · have hb := of_decide_eq_true hb
      simp only [List.map_cons, CD.hd, hand] at q
      rw [if_pos hb] at q
      obtain ⟨h, i, f, z⟩ := y
      cases z with
      | none =>
        obtain ⟨hi, hf, q2⟩ := handE_none (SatO d W Fb iob Hb F io De) (fun z => z) q
        have : f0 = f := by rw [hf] at hf0; cases hf0; rfl
        subst this
        exact clause_ok (z := none) rfl s1 hi hf hF hrep q2
      | some w =>
        obtain ⟨hi, hf, q2⟩ := handE_some (SatO d W Fb iob Hb F io De) (fun z => z) q
        have : f0 = f := by rw [hf] at hf0; cases hf0; rfl
        subst this
        exact clause_ok (z := some w) rfl s1 hi hf hF hrep q2
    · have hb := of_decide_eq_false hb
      simp only [List.map_cons, CD.hd, hand] at q
      rw [if_neg hb] at q
      exact turn_ok s1 sub pre hf0 hF hrep l (fun z hz => hx z (List.mem_cons_of_mem _ hz)) q
theorem s_tryN {b : List S} {body : List Stmt} {hd0 : ExceptHandler} {hds : List ExceptHandler} {l : List CD} (hs : X.stack = X.env :: X.outer) (hfr : X.env.frame = some X.env.locals) (hK : X.K = d.K) (hmg : X.mg = d.mg) (hnd : X.N.Nodup) (tk : Takes X W)
    (er : ∀ c f, d.T.efld c = some f → ErF d c f) (k : ClN d X (hd0 :: hds) l)
    (hb : ∀ (W' : WX) (pn : List (Addr × Obj)) (xe : Value → Shared → Prop), Takes (X.tr pn xe) W' → PassesOwn (model X.prog X.w) X.A X.env xe → PSs (X.tr pn xe) body (tbI d C W' b)) :
    PS X (.Try body (hd0 :: hds) [] [] pos) (tsI d C W (.try_ b (l.map CD.hd))) := by
  refine PS_imp (ps_turn (tb := fun W' => tbI d C W' b) (Wo := W) hs hfr hnd tk hb (k.ok hK hmg er)) fun De sg H q => ?_
  obtain ⟨Fb, iob, Hb, F, io, e, M, s, q⟩ := q
  refine ⟨Fb, iob, Hb, F, io, e, M, s, ?_⟩
  simp only [st] at q
  cases hbk : blk d.T C b e M with
  | next e1 M1 => rw [hbk] at q; exact q
  | brk e1 M1 => rw [hbk] at q; exact q
  | cnt e1 M1 => rw [hbk] at q; exact q
  | ret v M1 => rw [hbk] at q; exact q
  | stuck => rw [hbk] at q; exact q
  | exc c v e1 M1 =>
    rw [hbk] at q
    have q : SatO d W Fb iob Hb F io De (hand d.T C (l.map CD.hd) c v e1 M1) := q
    intro F1 io1 sg1 H1 cls dd s1 sub pre ex
    obtain ⟨rfl, f0, a0, v0, hf0, rfl, hF, hrep⟩ := ex
    rw [hK]
    exact turn_ok s1 sub pre hf0 hF hrep l k.hx q
end
end Rb

/-! RbTryU: clauses without a name that return a written text. Own work. -/
namespace Rb
open PySem PySem.Spec PyProof.Rows
open L2 hiding XE Takes CX passes_call takes_of MkP PMk ps_raise mk_of ps_try_as HdsOk ps_try_many pmk_own passAt St
open L2N
/-- a clause: its class, what it returns -/
abbrev UD : Type := Nat × Str
def UD.hd (q : UD) : Nat × Option Nat × List S := (q.1, none, [.ret (.cst (.str q.2))])
def tsU (w : Str) (_ : Addr) (_ : Value) (_ : Option Addr) : TS := tSeq (tRet (tC (.str w))) tNext
def UD.cl (d : Wd) (q : UD) : Value × (Addr → Value → Option Addr → TS) := (.ref (d.ca q.1), tsU q.2)
inductive ClU (d : Wd) (X : Cx) : List ExceptHandler → List UD → Prop
  | nil : ClU d X [] []
  | cons {x : Str} {q : UD} {np rp hp cp : Pos} {k : Nat} {hds : List ExceptHandler} {l : List UD} (hg : Gl X x) (hdb : (x == ("__debug__" : Str)) = false) (hm : d.mg x = some (.ref (d.ca q.1)))
      (hx : ∀ c f, d.T.efld c = some f → PySem.W.exmOne d.K (.ref (d.ca c)) (.ref (d.ca q.1)) = some (decide (c = q.1 ∨ d.T.base c = some q.1))) (r : ClU d X hds l) :
      ClU d X (.ExceptHandler (some (.Name x np)) none [.Return (some (.Constant (.str q.2) k cp)) rp] hp :: hds) (q :: l)
section
variable {X : Cx} {d : Wd} {C : CallT} {W : WX} {pos : Pos}
theorem ClU.ok (hmg : X.mg = d.mg) {hds : List ExceptHandler} {l : List UD} (k : ClU d X hds l) : HdsOk X hds (l.map (UD.cl d)) := by
  induction k with
  | nil => exact .nil
  | @cons x q np rp hp cp k hds l hg hdb hm hx r ih =>
    exact .cons (c := .ref (d.ca q.1)) (ts := tsU q.2) ⟨hg, hdb, .inl (by rw [hmg]; exact hm)⟩ (fun a ob cls dd pn hz hfv => pss_cons (ps_ret pe_str) pss_nil) ih
theorem ClU.hx {hds : List ExceptHandler} {l : List UD} (k : ClU d X hds l) : ∀ q ∈ l, ∀ c f, d.T.efld c = some f → PySem.W.exmOne d.K (.ref (d.ca c)) (.ref (d.ca q.1)) = some (decide (c = q.1 ∨ d.T.base c = some q.1)) := by
  induction k with
  | nil => intro q hq; cases hq
  | cons _ _ _ hx _ ih =>
    intro q hq
    rcases List.mem_cons.mp hq with rfl | hq
    · exact hx
    · exact ih q hq
theorem turnU_ok {Fb F F1 : Hp} {iob io io1 : List Addr} {Hb H1 : Hp} {sg1 : L2.St} {e1 : Env} {M1 : Sto} {De : Ends} {c : Nat} {v : D} {v0 : V} {a0 : Addr} {f0 : Str} (s1 : Stt d Fb iob Hb F1 io1 sg1 H1 e1 M1) (sub : Sub F F1) (pre : Pre io io1)
    (hf0 : d.T.efld c = some f0) (hF : F1 a0 = some (.xd [(f0, v0)])) (hrep : Rep d F1 io1 v v0) : ∀ (l : List UD), (∀ q ∈ l, ∀ c f, d.T.efld c = some f → PySem.W.exmOne d.K (.ref (d.ca c)) (.ref (d.ca q.1)) = some (decide (c = q.1 ∨ d.T.base c = some q.1))) →
      SatO d W Fb iob Hb F io De (hand d.T C (l.map UD.hd) c v e1 M1) → wMany d.K W De (l.map (UD.cl d)) (.ref (d.ca c)) (some a0) sg1 H1
  | [], _, q => q F1 io1 sg1 H1 _ _ s1 sub pre ⟨rfl, f0, a0, v0, hf0, rfl, hF, hrep⟩
  | y :: l, hx, q => by
    refine ⟨decide (c = y.1 ∨ d.T.base c = some y.1), hx y (by simp) c f0 hf0, fun hb a hna => ?_, fun hb => ?_⟩
    · have hb := of_decide_eq_true hb
      simp only [List.map_cons, UD.hd, hand] at q
      rw [if_pos hb] at q
      have q : SatO d W Fb iob Hb F io De (.ret (.str y.2) M1) := by simpa only [blk, st, ev, ofR] using q
      exact q F1 io1 H1 (.str y.2) s1.ex s1.rl.sub s1.rl.cl (by simp only [Rep])
    · have hb := of_decide_eq_false hb
      simp only [List.map_cons, UD.hd, hand] at q
      rw [if_neg hb] at q
      exact turnU_ok s1 sub pre hf0 hF hrep l (fun z hz => hx z (List.mem_cons_of_mem _ hz)) q
theorem s_tryU {b : List S} {body : List Stmt} {hd0 : ExceptHandler} {hds : List ExceptHandler} {l : List UD} (hs : X.stack = X.env :: X.outer) (hfr : X.env.frame = some X.env.locals) (hK : X.K = d.K) (hmg : X.mg = d.mg) (tk : Takes X W)
    (k : ClU d X (hd0 :: hds) l)
    (hb : ∀ (W' : WX) (pn : List (Addr × Obj)) (xe : Value → Shared → Prop), Takes (X.tr pn xe) W' → PassesOwn (model X.prog X.w) X.A X.env xe → PSs (X.tr pn xe) body (tbI d C W' b)) :
    PS X (.Try body (hd0 :: hds) [] [] pos) (tsI d C W (.try_ b (l.map UD.hd))) := by
  refine PS_imp (ps_try_many (tb := fun W' => tbI d C W' b) (Wout := W) hs hfr tk hb (k.ok hmg)) fun De sg H q => ?_
  obtain ⟨Fb, iob, Hb, F, io, e, M, s, q⟩ := q
  refine ⟨Fb, iob, Hb, F, io, e, M, s, ?_⟩
  simp only [st] at q
  cases hbk : blk d.T C b e M with
  | next e1 M1 => rw [hbk] at q; exact q
  | brk e1 M1 => rw [hbk] at q; exact q
  | cnt e1 M1 => rw [hbk] at q; exact q
  | ret v M1 => rw [hbk] at q; exact q
  | stuck => rw [hbk] at q; exact q
  | exc c v e1 M1 =>
    rw [hbk] at q
    have q : SatO d W Fb iob Hb F io De (hand d.T C (l.map UD.hd) c v e1 M1) := q
    intro F1 io1 sg1 H1 cls dd s1 sub pre ex
    obtain ⟨rfl, f0, a0, v0, hf0, rfl, hF, hrep⟩ := ex
    rw [hK]
    exact turnU_ok s1 sub pre hf0 hF hrep l k.hx q
end
end Rb

/-! RbIsE: isinstance of a caught error that has a dict of its own (the kit's rule knows such errors without one alone). Own work. -/
namespace Rb
open PySem PySem.Spec PySem.Calls PyProof.Rows PySem.W
section
variable {pg : Program} {wo : World} {ar : Around} {er : Value → Shared → Prop} {sh : Shared} {fr : Frag} {ea cl : Addr} {ob : Obj} {od : Option Obj}
/-- what the class says of __class__, as data -/
theorem cls_data {nm : Str} {at_ gt : Value} (dat : (clsIn fr cl).isSome = true) (fi : findIn fr (.ref cl) nm = some (some at_)) (sp : specialIn fr at_ "__get__" = some (some gt)) (tk : takesIn fr at_ = some true) : findObj fr cl od nm = some (.bind gt at_) := by
  obtain ⟨cd, e⟩ := Option.isSome_iff_exists.mp dat
  unfold findObj
  simp only [e, fi, sp, tk, Option.bind_some]
structure ExcK (fr : Frag) (cl : Addr) : Prop where
  ga : findIn fr (.ref cl) "__getattribute__" = some (some (.builtin "BaseException.__getattribute__"))
  gt : findIn fr (.ref cl) "__getattr__" = some none
  sb : subIn fr (.ref cl) (.type "BaseException") = some true
  hd : hasDictIn fr cl = true
  cc : findIn fr (.ref cl) "__class__" = some (some (.builtin "object.__class__"))
  cg : specialIn fr (.builtin "object.__class__") "__get__" = some (some (.builtin "getset_descriptor.__get__"))
  ct : takesIn fr (.builtin "object.__class__") = some true
  mo : mroIn fr cl (.type "object") = some true
theorem ask_class (C : ExcK fr cl) {Qq : Option Value → Shared → Prop} (inK : fr.In sh.heap) (I : InstAt sh.heap ea ob cl od) (go : Qq (some (.ref cl)) { sh with toks := sh.toks + 1 }) : wpAny (model pg wo) ar (getAttr? (.ref ea) "__class__") Qq er sh := by
  have fd : findObj fr cl od "__class__" = some (.bind (.builtin "getset_descriptor.__get__") (.builtin "object.__class__")) := cls_data (by obtain ⟨x, e, _⟩ := any_some C.hd; rw [e]; rfl) C.cc C.cg C.ct
  obtain ⟨hp, gn, dn, tn, on⟩ := sh
  have T0 := I.type (M := model pg wo)
  have T1 := looks_findIn (M := model pg wo) inK C.ga
  have T2 := looks_findIn (M := model pg wo) inK C.gt
  have T3 := looks_find (M := model pg wo) inK I fd
  have isB : Looks (model pg wo) hp (isInstance (.ref ea) (.type "BaseException")) true := T0.andThen (looks_subIn inK C.sb)
  have z0 : (false && onTheHeap (Value.builtin "BaseException.__getattribute__")) = false := rfl
  have z1 : (onTheHeap (Value.ref cl) && Value.builtin "BaseException.__getattribute__" == Value.builtin "object.__getattribute__") = false := by
    rw [show (Value.builtin "BaseException.__getattribute__" == Value.builtin "object.__getattribute__") = false from by decide +kernel]; rfl
  unfold getAttr?; unfold getAttrBy?; unfold getAttrBy
  refine wpAny_bind (wpAny_mkText (wpAny_bind (wpAny_attempt (wpAny_holding (wpAny_bind (T0.at (wpAny_bind (T1.at ?_))))))))
  show wpAny _ _ (if (onTheHeap (Value.ref cl) && Value.builtin "BaseException.__getattribute__" == Value.builtin "object.__getattribute__") = true then _ else _) _ _ _
  rw [z1, if_neg Bool.false_ne_true]
  unfold getAttrByItsOwn; unfold hookBefore
  refine wpAny_bind ?_
  rw [if_pos (show onTheHeap (Value.ref cl) = true from rfl)]
  refine T2.at (wpAny_bind (wpAny_attempt (wpAny_holding ?_)))
  unfold callGetattribute
  rw [z0, if_neg Bool.false_ne_true]
  unfold boundAndCalled
  rw [PySem.F.excAttr_ValueError.ga.bind (.ref ea)]
  refine wpAny_bind (wpAny_pure ?_)
  show wpAny _ _ (call (.builtin "BaseException.__getattribute__") [.ref ea, .str "__class__" tn]) _ _ _
  refine wpAny_call (codeAny_call_builtin PySem.F.excAttr_ValueError.ga.plain PySem.F.entry_bexc_ga ?_)
  refine @check_slot (model pg wo) _ _ ⟨hp, gn, dn, tn + 1, on⟩ "BaseException.__getattribute__" "BaseException" "__getattribute__" (.ref ea) [.str "__class__" tn] [] _ (by decide +kernel) (by decide +kernel) isB (PySem.F.args_bexc_ga (.ref ea) (.str "__class__" tn)) ?_
  unfold Builtin.«object.__getattribute__»
  refine wpAny_bind (wpAny_of_eq (a := ((Value.ref ea : Value), [Value.str "__class__" tn])) (by first | rfl | (simp only [slotArgs]; rfl)) ?_)
  refine wpAny_bind (wpAny_pure (wpAny_bind (T0.at (wpAny_bind (T3.at ?_)))))
  show wpAny _ _ (holding [Value.builtin "object.__class__"] (call (.builtin "getset_descriptor.__get__") [.builtin "object.__class__", .ref ea, .ref cl]) >>= ret) _ _ _
  refine wpAny_bind (wpAny_holding (wpAny_call (class_get (s := ⟨hp, gn, dn, tn + 1, on⟩) (ox := ob) (od := od) inK I C.mo ?_)))
  refine wpAny_pure ?_
  show wpAny _ _ (handedOut (.ref cl)) _ _ _
  rw [handedOut_of (v := .ref cl) rfl]
  first
    | exact wpAny_pure (wpAny_bind (wpAny_pure (wpAny_pure go)))
    | exact wpAny_pure (wpAny_pure go)
    | exact wpAny_pure go
theorem kitx_err (C : ExcK fr cl) : KitX fr (.ref ea) (.ref cl) (fun h => InstAt h ea ob cl od) where
  ty := fun _ _ _ I => I.type
  it := fun _ _ inK _ => by
    obtain ⟨cd, e, _⟩ := any_some C.hd
    unfold clsIn at e
    split at e
    · rename_i o1 o2 o3 o4 lk
      intro ar2 Q2 E2 sh2 kp go
      unfold isType loadHead
      exact wpAny_bind (wpAny_loadPart (kp _ _ (inK _ _ lk)) (wpAny_pure go))
    · cases e
  ne := fun h tp d2 its n sl inK htp => by
    obtain ⟨cd, e, _⟩ := any_some C.hd
    refine Bool.eq_false_iff.mpr fun q => ?_
    obtain rfl : cl = tp := Value.ref.inj (beq_iff_eq.mp q)
    unfold clsIn at e
    split at e
    · rename_i o1 o2 o3 o4 lk
      exact nomatch (inK _ _ lk).symm.trans htp
    · cases e
  ca := fun inK I go => ask_class C inK I go
end
end Rb

/-! RbStr: texts: split, partition, join, f-strings, their signs, replace once. Own work. -/
namespace Rb
open PySem PySem.Spec PyProof.Rows L2
section
variable {X : Cx} {d : Wd} {C : CallT} {W : WX} {pos apos : Pos}
theorem strs_reps {F : Hp} {io : List Addr} : ∀ l : List Str, Reps d F io (l.map D.str) (l.map V.str)
  | [] => Reps.nil
  | _ :: l => Reps.cons (by simp only [Rep]) (strs_reps l)
/-- a.split(b) -/
theorem f_split {a b : P} {o e : Expr} (hs : nsup o = true) (hn : nst e = true) (hl : (apos.endLine == pos.line) = true) (ho : PE X o (teI d C W a)) (he : PE X e (teI d C W b)) :
    PE X (.Call (.Attribute o "split" apos) [e] [] pos) (tfI d C W (.split a b)) := by
  refine PE_imp (pe_split ho he (star_ns hn) (base_of hs) hl) fun sg H Q h => ?_
  obtain ⟨F, io, en, M, rl, h⟩ := tfI_eq.mp h
  simp only [ev] at h
  refine ⟨F, io, en, M, rl, (h.bind (RV d)).mono fun v H1 m => ?_⟩
  obtain ⟨F1, io1, M1, x, x1, s1, c1, q1, h1⟩ := m
  cases x with
  | str z =>
    refine ⟨⟨z, rep_str q1⟩, F1, io1, en, M1, rl.ex x1 s1 c1, ((show SatF d W sg F1 io1 H1 ((ev d.T C b en M1).bind _) Q from h1).bind (RV d)).mono fun u H2 m2 => ?_⟩
    obtain ⟨F2, io2, M2, y, x2, s2, c2, q2, h2⟩ := m2
    cases y with
    | str p =>
      by_cases hz : (p.length == 0) = false ∧ z.length + 2 ≤ lim
      · simp only [if_pos hz] at h2
        exact ⟨z, p, rep_str q1, by rw [rep_str q2], hz.1, by rw [← lim_eq]; exact hz.2, fun a ha => h2.new s2 c2 ha (strs_reps _)⟩
      · simp only [if_neg hz] at h2; exact h2.elim
    | _ => exact (show False from h2).elim
  | _ => exact (show False from h1).elim
theorem z_split {a b : P} (e : Env) (M : Sto) (x : D) (M' : Sto) (h : ev d.T C (.split a b) e M = .ok x M') : ∃ l, x = .lst l := by
  simp only [ev] at h
  obtain ⟨u, M1, _, h⟩ := ok_of_bind h
  split at h
  · obtain ⟨v, M2, _, h⟩ := ok_of_bind h
    split at h
    · split at h <;> cases h; exact ⟨_, rfl⟩
    · cases h
  · cases h
/-- a.partition(b) -/
theorem s_part {a b : P} {o e : Expr} (hK : X.K = d.K) (hs : nsup o = true) (hn : nst e = true) (hl : (apos.endLine == pos.line) = true) (ho : PE X o (teI d C W a)) (he : PE X e (teI d C W b)) :
    PE X (.Call (.Attribute o "partition" apos) [e] [] pos) (teI d C W (.part a b)) := by
  refine PE_imp (pe_partition ho he (star_ns hn) (base_of hs) hl) fun sg H Q h => ?_
  obtain ⟨F, io, en, M, rl, h⟩ := h
  simp only [ev] at h
  refine ⟨F, io, en, M, rl, (h.bind (RV d)).mono fun v H1 m => ?_⟩
  obtain ⟨F1, io1, M1, x, x1, s1, c1, q1, h1⟩ := m
  cases x with
  | str z =>
    refine ⟨⟨z, rep_str q1⟩, F1, io1, en, M1, rl.ex x1 s1 c1, ((show Sat d W sg F1 io1 H1 ((ev d.T C b en M1).bind _) (RV d) Q from h1).bind (RV d)).mono fun u H2 m2 => ?_⟩
    obtain ⟨F2, io2, M2, y, x2, s2, c2, q2, h2⟩ := m2
    cases y with
    | str p =>
      by_cases hz : (p.length == 0) = false ∧ z.length ≤ lim
      · simp only [if_pos hz] at h2
        refine ⟨z, p, rep_str q1, by rw [rep_str q2], hz.1, by rw [← lim_eq]; exact hz.2, fun a ha => ?_⟩
        exact post_tup s2 c2 h2 ha (Reps.cons (by simp only [Rep]) (Reps.cons (by simp only [Rep]) (Reps.cons (by simp only [Rep]) Reps.nil)))
      · simp only [if_neg hz] at h2; exact h2.elim
    | _ => exact (show False from h2).elim
  | _ => exact (show False from h1).elim
/-- a.join(b) -/
theorem s_join {a b : P} {o e : Expr} (hK : X.K = d.K) (hs : nsup o = true) (hn : nst e = true) (hl : (apos.endLine == pos.line) = true) (ho : PE X o (teI d C W a)) (he : PE X e (tqI d C W b)) :
    PE X (.Call (.Attribute o "join" apos) [e] [] pos) (teI d C W (.join a b)) := by
  refine PE_imp (pe_join ho he (star_ns hn) (base_of hs) hl) fun sg H Q h => ?_
  obtain ⟨F, io, en, M, rl, h⟩ := h
  simp only [ev] at h
  refine ⟨F, io, en, M, rl, (h.bind (RV d)).mono fun v H1 m => ?_⟩
  obtain ⟨F1, io1, M1, x, x1, s1, c1, q1, h1⟩ := m
  cases x with
  | str z =>
    refine ⟨⟨z, rep_str q1⟩, F1, io1, en, M1, rl.ex x1 s1 c1, ((show Sat d W sg F1 io1 H1 ((qOf b en M1 (ev d.T C b en M1)).bind _) (RV d) Q from h1).bind (RQ d)).mono fun u H2 m2 => ?_⟩
    obtain ⟨F2, io2, M2, y, x2, s2, c2, q2, h2⟩ := m2
    cases hl : strsD y.2.2 with
    | none => simp only [hl] at h2; exact (show False from h2).elim
    | some l =>
      simp only [hl] at h2
      by_cases hz : (l.map (·.length)).sum + l.length * z.length ≤ lim
      · simp only [if_pos hz] at h2
        obtain ⟨p, vs, rfl, k1, k2⟩ := q2.seq s2
        rw [strsD_reps hl k2] at k1
        refine ⟨z, p, l, rep_str q1, rfl, by rw [hK]; exact k1.symm, ?_, h2.ok s2 c2 (by simp only [RV, Rep])⟩
        exact hz
      · simp only [if_neg hz] at h2; exact (show False from h2).elim
  | _ => exact (show False from h1).elim
/-! ### f-strings -/
/-- a part's text -/
def tPart (d : Wd) (C : CallT) (W : WX) (p : P) : TE := fun sg H Q => ∃ F io e M, Rl d F io sg H e M ∧ Sat d W sg F io H ((ev d.T C p e M).bind fun x M1 => oR (strTy x) M1) (fun _ _ _ (z : Str) (v : V) => v = .str z) Q
theorem part_cst {z : Str} {k : Nat} {cpos : Pos} : PE X (.Constant (.str z) k cpos) (tPart d C W (.cst (.str z))) := by
  refine PE_imp pe_str fun sg H Q h => ?_
  obtain ⟨F, io, e, M, rl, h⟩ := h
  simp only [ev, Res.bind] at h
  obtain ⟨y, e1, h⟩ := h.oR
  simp only [strTy] at e1
  split at e1
  · cases e1; exact Sat.ok (R := fun _ _ _ (z : Str) (v : V) => v = .str z) h rl.sub rl.cl rfl
  · cases e1
theorem part_fmt {p : P} {e : Expr} (h : PE X e (teI d C W p)) : PE X (.FormattedValue e (-1) none pos) (tPart d C W p) := by
  refine PE_imp (pe_fmt h) fun sg H Q h => ?_
  obtain ⟨F, io, en, M, rl, h⟩ := h
  refine ⟨F, io, en, M, rl, (h.bind (RV d)).mono fun v H1 m => ?_⟩
  obtain ⟨F1, io1, M1, x, x1, s1, c1, q1, h1⟩ := m
  obtain ⟨y, e1, h2⟩ := h1.oR
  cases x with
  | str z =>
    simp only [strTy] at e1
    split at e1
    · rename_i hz
      cases e1
      rw [rep_str q1]
      exact .inl ⟨_, rfl, by rw [← lim_eq]; exact hz, Sat.ok (R := fun _ _ _ (z : Str) (v : V) => v = .str z) h2 s1 c1 rfl⟩
    · cases e1
  | int i =>
    simp only [strTy] at e1
    split at e1
    · rename_i hz
      cases e1
      rw [rep_int q1]
      exact .inr ⟨_, rfl, hz, Sat.ok (R := fun _ _ _ (z : Str) (v : V) => v = .str z) h2 s1 c1 rfl⟩
    · cases e1
  | _ => simp only [strTy] at e1; cases e1
theorem parts_imp : ∀ (ps : List P) (acc : Str) (F : Hp) (io : List Addr) (e : Env) (M : Sto) (sg : L2.St) (H : Hp) (Q : Str → Hp → Prop), Rl d F io sg H e M →
    Sat d W sg F io H (evF d.T C ps acc e M) (fun _ _ _ (z : Str) (y : Str) => y = z) Q → tJs (ps.map (tPart d C W)) acc sg H Q
  | [], acc, F, io, e, M, sg, H, Q, rl, h => by
    simp only [evF] at h
    exact h.ok rl.sub rl.cl rfl
  | p :: ps, acc, F, io, e, M, sg, H, Q, rl, h => by
    have eq : evF d.T C (p :: ps) acc e M = ((ev d.T C p e M).bind fun x M1 => oR (strTy x) M1).bind fun z M1 => if (acc ++ z).length ≤ lim then evF d.T C ps (acc ++ z) e M1 else .stuck := by
      simp only [evF]
      cases ev d.T C p e M with
      | ok x M1 =>
        simp only [Res.bind]
        cases strTy x with
        | none => rfl
        | some z => rfl
      | exc _ _ _ => rfl
      | stuck => rfl
    rw [eq] at h
    refine ⟨F, io, e, M, rl, (h.bind (fun _ _ _ (z : Str) (v : V) => v = .str z)).mono fun v H1 m => ?_⟩
    obtain ⟨F1, io1, M1, z, x1, s1, c1, q1, h1⟩ := m
    by_cases hz : (acc ++ z).length ≤ lim
    · simp only [if_pos hz] at h1
      exact ⟨z, q1, by rw [← lim_eq]; exact hz, parts_imp ps (acc ++ z) F1 io1 e M1 sg H1 Q (rl.ex x1 s1 c1) h1⟩
    · simp only [if_neg hz] at h1; exact (show False from h1).elim
theorem s_fstr {ps : List P} {v1 v2 : Expr} {rest : List Expr} (h : PJ X (v1 :: v2 :: rest) (ps.map (tPart d C W))) : PE X (.JoinedStr (v1 :: v2 :: rest) pos) (teI d C W (.fstr ps)) := by
  refine PE_imp (pe_joined h) fun sg H Q h => ?_
  obtain ⟨F, io, e, M, rl, h⟩ := h
  simp only [ev] at h
  refine parts_imp ps Str.empty F io e M sg H _ rl ((h.bind (fun _ _ _ (z : Str) (y : Str) => y = z)).mono fun y H1 m => ?_)
  obtain ⟨F1, io1, M1, z, x1, s1, c1, q1, h1⟩ := m
  subst q1
  exact h1.ok s1 c1 (by simp only [RV, Rep])
/-! ### a text's signs -/
theorem wk_sgn {Rel : Hp → List Addr → Hp → Prop} (z : Str) : Wk d Rel [] (signsD z) (Its z) := by
  have hl : (signsD z).length = z.cps.size := by simp [signsD]
  refine ⟨fun i F1 io1 H M hi k s c g => ?_, fun F1 io1 H M k s c g => ?_, fun i y v F1 io1 H M H' hy k s c g w => ?_⟩
  · rw [hl] at hi; exact hi
  · rw [hl]; exact Nat.le_refl _
  · obtain ⟨rfl, ch, e1, rfl⟩ := w
    refine ⟨F1, Ex.refl _ _ _, s, c, ?_⟩
    unfold signsD at hy
    rw [List.getElem?_map] at hy
    obtain ⟨j, h1, rfl⟩ := Option.map_eq_some_iff.mp hy
    rw [Array.getElem?_toList, e1] at h1
    cases h1
    simp only [Rep]
theorem i_sgn {a : P} {tg e : Expr} {RelOf : Hp → List Addr → Hp → Hp → List Addr → Hp → Prop} (h : PE X e (teI d C W a)) : PI X tg e (tiG d C W RelOf (.sgn a)) := by
  refine PI_imp (pi_str h) fun sg H R h => ?_
  obtain ⟨F, io, en, M, rl, h⟩ := h
  simp only [evS] at h
  refine ⟨F, io, en, M, rl, (h.bind (RV d)).mono fun v H1 m => ?_⟩
  obtain ⟨F1, io1, M1, x, x1, s1, c1, q1, h1⟩ := m
  cases x with
  | str z =>
    rw [rep_str q1]
    exact ⟨z, rfl, (show Sat d W sg F1 io1 H1 (.ok ([], signsD z) M1) (RSG d RelOf) R from h1).ok s1 c1 (wk_sgn z)⟩
  | _ => exact (show False from h1).elim
end
/-! ### replace once: the model asks whether the two texts are one object, so a token must be out -/
section
variable {prog : Program} {w : World} {A : Around} {E : Value → Shared → Prop} {s : Shared} {x y z : Str} {t u v q : Tok} {Q : Value → Shared → Prop}
theorem gives_rep1 (hu : u ≠ 0) (hv : v ≠ 0) (huv : u ≠ v) (hyz : (y == z) = false) (hy : (y.length == 0) = false) (hl : Builtin.Str.tooLong (x.length + (Builtin.Str.occurrences x y 0 x.length 1).length * z.length) = false) :
    Gives (Builtin.«str.replace» ⟨[.str x t, .str y u, .str z v, .int 1 q], []⟩) (if (Builtin.Str.occurrences x y 0 x.length 1).isEmpty = true then .val (.str x t) else .str (Builtin.Str.glued z (Builtin.Str.partsBetween x (Builtin.Str.occurrences x y 0 x.length 1) y.length))) := by
  show Gives (do
    let limit ← Builtin.Str.countLimit "str.replace" (some (.int 1 q)) (x.length + 1)
    if ((Builtin.Str.occurrences x y 0 x.length limit).isEmpty || (y.length == 0 && z.length == 0)) = true then (do rule "str.replace.nothing"; ret (.str x t)) else
          (do let same ← isSame (.str y u) (.str z v)
              if same = true then (do rule "str.replace.old-is-new"; ret (.str x t)) else
              if Builtin.Str.tooLong (x.length + (Builtin.Str.occurrences x y 0 x.length limit).length * z.length) = true then unsupported "str.replace:memory" else
              retStr (Builtin.Str.glued z (Builtin.Str.partsBetween x (Builtin.Str.occurrences x y 0 x.length limit) y.length)))) _
  rw [countLimit_int "str.replace" 1 q (x.length + 1) (by decide)]
  show Gives (if ((Builtin.Str.occurrences x y 0 x.length 1).isEmpty || (y.length == 0 && z.length == 0)) = true then (do rule "str.replace.nothing"; ret (.str x t)) else
          (do let same ← isSame (.str y u) (.str z v)
              if same = true then (do rule "str.replace.old-is-new"; ret (.str x t)) else
              if Builtin.Str.tooLong (x.length + (Builtin.Str.occurrences x y 0 x.length 1).length * z.length) = true then unsupported "str.replace:memory" else
              retStr (Builtin.Str.glued z (Builtin.Str.partsBetween x (Builtin.Str.occurrences x y 0 x.length 1) y.length)))) _
  rw [hy, Bool.false_and, Bool.or_false]
  cases hc : (Builtin.Str.occurrences x y 0 x.length 1).isEmpty
  · rw [PySem.isSame_str_other y z u v (by simp [hu, hv]) (by simp [huv]) hyz, hl]
    exact .of_eq rfl
  · exact .rule (.of_eq rfl)
theorem call_rep1 (hu : u ≠ 0) (hv : v ≠ 0) (huv : u ≠ v) (hyz : (y == z) = false) (hy : (y.length == 0) = false) (hb : x.length + z.length ≤ sizeLine) (hb2 : (rep1S x y z).length ≤ sizeLine)
    (hq : ∀ t' k, Q (.str (rep1S x y z) t') { s with toks := k }) : wpAny (model prog w) A (call (.builtin "str.replace") [.str x t, .str y u, .str z v, .int 1 q]) Q E s := by
  have hl : Builtin.Str.tooLong (x.length + (Builtin.Str.occurrences x y 0 x.length 1).length * z.length) = false := by
    have h1 := StrLaws.occ_length_le x y 0 x.length 1
    have h2 : (Builtin.Str.occurrences x y 0 x.length 1).length * z.length ≤ 1 * z.length := Nat.mul_le_mul_right _ h1
    unfold Builtin.Str.tooLong
    exact decide_eq_false (by omega)
  refine call_gives F.slot_str_replace (typeIs_str _ _ _) F.entry_str_replace (F.args_str_replace_4 _ _ _ _) (gives_rep1 hu hv huv hyz hy hl) ?_
  have hq' := hq
  unfold rep1S at hq' hb2
  cases hc : (Builtin.Str.occurrences x y 0 x.length 1).isEmpty
  · rw [hc] at hq' hb2
    simp only [Bool.false_eq_true, if_false] at hq' hb2 ⊢
    exact ⟨hb2, hq' _ _⟩
  · rw [hc] at hq'
    simp only [if_true] at hq' ⊢
    exact hq' t s.toks
end
section
variable {X : Cx} {d : Wd} {C : CallT} {W : WX} {pos apos px : Pos}
theorem pet_rep1 {i : Nat} {x : Str} {a b : Str} {j0 j1 j2 : Nat} {c0 c1 c2 : Pos} (hN : X.N[i]? = some x) (hv : Vis X.env.scope x) (hd : (x == ("__debug__" : Str)) = false) (hcd : (x == ("__classdict__" : Str)) = false) (hl : (apos.endLine == pos.line) = true) :
    PET X (.Call (.Attribute (.Name x px) "replace" apos) [.Constant (.str a) j0 c0, .Constant (.str b) j1 c1, .Constant (.int 1) j2 c2] [] pos) (teI d C W (.rep1 i a b)) := by
  intro pins s sg H Q h0 I h
  obtain ⟨F, io, e, M, rl, h⟩ := h
  simp only [ev] at h
  split at h
  · rename_i z he
    by_cases hz : a ≠ b ∧ (a.length == 0) = false ∧ z.length + b.length ≤ lim ∧ (rep1S z a b).length ≤ lim
    · rw [if_pos hz] at h
      obtain ⟨hab, ha, hz1, hz2⟩ := hz
      rcases rl.val i _ he with ⟨_, _, q⟩ | ⟨v, hs, rv⟩
      · cases q
      · rw [rep_str rv] at hs
        refine wpAny_Call_method_late (base_of rfl) rfl hl rfl (raw_name hN hv I hs (fun u r => ?_) hd hcd)
        obtain ⟨t, rfl⟩ := r
        refine ⟨"str", _, PySem.F.plainAttrs_str, PySem.F.slot_str_replace, PySem.F.type_str_replace, typeIs_str _ _ _, (fun _ e => nomatch e), Calls.callWith_builtin rfl (Calls.evalArgs_plain ?_)⟩
        show wpAny _ _ (spliced ((false, eval (.Constant (.str a) j0 c0) X.env) :: backTo pos (starEach [.Constant (.str b) j1 c1, .Constant (.int 1) j2 c2] X.env))) _ _ s
        refine Calls.spliced_cons (Calls.Constant_str ?_)
        show wpAny _ _ (spliced ((false, eval (.Constant (.str b) j1 c1) X.env) :: backTo pos (starEach [.Constant (.int 1) j2 c2] X.env))) _ _ _
        refine Calls.spliced_cons (Calls.Constant_str ?_)
        show wpAny _ _ (spliced ((false, eval (.Constant (.int 1) j2 c2) X.env) :: backTo pos (starEach [] X.env))) _ _ _
        refine Calls.spliced_cons (wpAny_Constant_int (Calls.spliced_nil ?_))
        refine call_rep1 (show s.toks ≠ 0 by omega) (show s.toks + 1 ≠ 0 by omega) (show s.toks ≠ s.toks + 1 by omega) (beq_eq_false_iff_ne.mpr hab) ha (by rw [← lim_eq]; exact hz1) (by rw [← lim_eq]; exact hz2) fun t' k => ?_
        exact ⟨.str (rep1S z a b), H, I.tok k, ⟨t', rfl⟩, Sat.ok (R := RV d) h rl.sub rl.cl (by simp only [RV, Rep])⟩
    · rw [if_neg hz] at h; exact h.elim
  · exact h.elim
theorem PET_of {e : Expr} {t : TE} (h : PE X e t) : PET X e t := fun pins s sg H Q _ I q => h.run pins s sg H Q I q
theorem PET_imp {e : Expr} {t t' : TE} (h : PET X e t) (k : ∀ sg H Q, t' sg H Q → t sg H Q) : PET X e t' := fun pins s sg H Q h0 I q => h pins s sg H Q h0 I (k sg H Q q)
theorem PAT_imp {es : List Expr} {t t' : TA} (h : PAT X es t) (k : ∀ sg H Q, t' sg H Q → t sg H Q) : PAT X es t' := fun pos pins s sg H Q h0 I q => h pos pins s sg H Q h0 I (k sg H Q q)
/-- a op b, a token out -/
theorem pet_op {op : Operator} {r : R2} {a b : Expr} {ta tb : TE} (ho : OpR X (binaryOp op) r) (ha : PET X a ta) (hb : PE X b tb) : PET X (.BinOp a op b pos) (tOp r ta tb) := by
  intro pins s sg H Q h0 I h
  refine wpAny_BinOp (thn (ha pins s sg H _ h0 I h) fun v s1 ⟨x, H1, I1, r1, q1⟩ => ?_)
  exact thn (hb.run pins s1 sg H1 _ I1 q1) fun u s2 ⟨y, H2, I2, r2, q2⟩ => ho pins s2 sg H2 x y v u Q I2 r1 r2 q2
theorem st_bin {op : Operator} {o : BOp} {a b : P} {ea eb : Expr} (ho : OpR X (binaryOp op) (rOf d (binD o))) (ha : PET X ea (teI d C W a)) (hb : PE X eb (teI d C W b)) : PET X (.BinOp ea op eb pos) (teI d C W (.bin o a b)) :=
  PET_imp (pet_op ho ha hb) (bin_imp (g := fun x y M => oR (binD o x y) M) (fun e M => by simp only [ev]) fun F io H M sg x y v u Q s c h1 h2 h => rOf_of s c h1 h2 h)
/-- a text ahead: behind it a token is out -/
theorem pa_first {c : Str} {j : Nat} {cpos : Pos} {es : List Expr} {ta : TA} (hr : PAT X es ta) : PA X (.Constant (.str c) j cpos :: es) (tCons (tC (.str c)) ta) := by
  refine ⟨fun pos pins s sg H Q I h => ?_⟩
  show wpAny _ _ (spliced ((false, eval (.Constant (.str c) j cpos) X.env) :: backTo pos (starEach es X.env))) _ _ s
  refine Calls.spliced_cons (Calls.Constant_str ?_)
  exact thn (hr pos pins { s with toks := s.toks + 1 } sg H _ (by show 1 ≤ s.toks + 1; omega) (I.tok _) h) fun us s2 ⟨xs, H2, I2, r2, q2⟩ => ⟨V.str c :: xs, H2, I2, .cons ⟨_, rfl⟩ r2, q2⟩
theorem cons_imp {p : P} {ps : List P} (hs : p.isStar = false) : ∀ sg H Q, taI d C W (p :: ps) sg H Q → tCons (teI d C W p) (taI d C W ps) sg H Q := by
  intro sg H Q h
  obtain ⟨F, io, e, M, rl, h⟩ := h
  rw [evs_cons hs] at h
  refine ⟨F, io, e, M, rl, (h.bind (RV d)).mono fun v H1 m => ?_⟩
  obtain ⟨F1, io1, M1, x, x1, s1, c1, q1, h1⟩ := m
  refine ⟨F1, io1, e, M1, rl.ex x1 s1 c1, (h1.bind (RVs d)).mono fun vs H2 m2 => ?_⟩
  obtain ⟨F2, io2, M2, l, x2, s2, c2, q2, h2⟩ := m2
  exact h2.ok s2 c2 (Reps.cons (Rep.mono x2.sub x2.pre _ _ q1) q2)
theorem at_nil : PAT X [] (taI d C W []) := PAT_imp pat_nil fun sg H Q h => by
  obtain ⟨F, io, e, M, rl, h⟩ := h
  simp only [evs] at h
  exact h.ok rl.sub rl.cl Reps.nil
theorem at_cons {p : P} {ps : List P} {e : Expr} {es : List Expr} (hs : p.isStar = false) (hn : nst e = true) (ha : PET X e (teI d C W p)) (hr : PAT X es (taI d C W ps)) : PAT X (e :: es) (taI d C W (p :: ps)) :=
  PAT_imp (pat_cons ha hr (star_ns hn)) (cons_imp hs)
theorem a_first {c : Str} {j : Nat} {cpos : Pos} {ps : List P} {es : List Expr} (hr : PAT X es (taI d C W ps)) : PA X (.Constant (.str c) j cpos :: es) (taI d C W (.cst (.str c) :: ps)) := by
  refine PA_imp (pa_first hr) fun sg H Q h => ?_
  obtain ⟨F, io, e, M, rl, h⟩ := h
  rw [evs_cons rfl] at h
  have h : Sat d W sg F io H ((evs d.T C ps e M).bind fun l M2 => .ok (D.str c :: l) M2) (RVs d) Q := h
  refine ⟨F, io, e, M, rl, (h.bind (RVs d)).mono fun vs H2 m2 => ?_⟩
  obtain ⟨F2, io2, M2, l, x2, s2, c2, q2, h2⟩ := m2
  exact h2.ok s2 c2 (Reps.cons (by simp only [Rep]) q2)
end
end Rb

/-! RbNew: a new list as a cell. Own work. -/
namespace Rb
open PySem PySem.Spec PyProof.Rows L2
section
variable {X : Cx} {d : Wd} {C : CallT} {W : WX} {pos px : Pos} {x : Str}
/-- a list just made becomes a cell -/
theorem ex_newc {F H F1 H1 : Hp} {io io1 : List Addr} {M1 : Sto} {l : List D} {vs : List V} {a : Addr} (x1 : Ex F io H F1 io1 H1) (s1 : Sub F1 H1) (c1 : Cels d F1 io1 H1 M1) (n1 : H a = none) (e1 : H1 a = some (.lst vs)) (n2 : F1 a = none) (n3 : a ∉ io1) (r : Reps d F1 io1 l vs) :
    Ex F io H F1 (io1 ++ [a]) H1 ∧ Cels d F1 (io1 ++ [a]) H1 (M1 ++ [.lst l]) := by
  have pr := Pre.app io1 [a]
  refine ⟨⟨x1.sub, x1.pre.trans pr, x1.frz, fun b hb => ?_, x1.keep, x1.there, x1.od⟩, ⟨by simp [c1.len], ?_, fun b hb => ?_, fun k c' e => ?_⟩⟩
  · rcases List.mem_append.mp hb with q | q
    · exact x1.new b q
    · have : b = a := by simpa using q
      subst this; exact .inr n1
  · rw [List.nodup_append]
    refine ⟨c1.nd, by simp, fun b hb b2 hb2 => ?_⟩
    have : b2 = a := by simpa using hb2
    subst this; intro q; subst q; exact n3 hb
  · rcases List.mem_append.mp hb with q | q
    · exact c1.out b q
    · have : b = a := by simpa using q
      subst this; exact n2
  · by_cases hr : k < M1.length
    · rw [List.getElem?_append_left hr] at e
      obtain ⟨b, k1, k2⟩ := c1.cel k c' e
      refine ⟨b, by rw [List.getElem?_append_left (by rw [c1.len]; exact hr)]; exact k1, ?_⟩
      cases c' with
      | lst l => obtain ⟨us, g1, g2⟩ := k2; exact ⟨us, g1, Reps.mono (Sub.refl _) pr _ _ g2⟩
      | obj c fs => obtain ⟨dx, vfs, g1, g2, g3, g4⟩ := k2; exact ⟨dx, vfs, g1, g2, g3, Reps.mono (Sub.refl _) pr _ _ g4⟩
      | dct kvs => obtain ⟨vkv, g1, g2, g3⟩ := k2; exact ⟨vkv, g1, g2, Reps.mono (Sub.refl _) pr _ _ g3⟩
    · have : k = M1.length := by
        rcases Nat.lt_or_ge k (M1 ++ [Cell.lst l]).length with q | q
        · simp at q; omega
        · rw [List.getElem?_eq_none q] at e; cases e
      subst this
      rw [List.getElem?_append_right (Nat.le_refl _)] at e
      simp at e; subst e
      exact ⟨a, by rw [← c1.len, List.getElem?_append_right (Nat.le_refl _)]; simp, ⟨vs, e1, Reps.mono (Sub.refl _) pr _ _ r⟩⟩
theorem s_newc {p : P} {ee : Expr} (h : PE X ee (tfI d C W p)) : PE X ee (teI d C W (.newc p)) := by
  refine PE_imp h fun sg H Q h => ?_
  obtain ⟨F, io, e, M, rl, h⟩ := h
  simp only [ev] at h
  refine ⟨F, io, e, M, rl, ?_⟩
  cases q : ev d.T C p e M with
  | stuck => rw [q] at h; exact h
  | exc c x M' => rw [q] at h; exact h
  | ok x M' =>
    rw [q] at h
    cases x with
    | lst l =>
      refine ⟨l, rfl, fun F' io' H' a vs x1 s1 c1 n1 e1 n2 n3 r => ?_⟩
      obtain ⟨x2, c2⟩ := ex_newc x1 s1 c1 n1 e1 n2 n3 r
      refine h F' (io' ++ [a]) H' (.ref a) x2 s1 c2 ?_
      simp only [Rep]
      exact ⟨a, rfl, by rw [← c1.len, List.getElem?_append_right (Nat.le_refl _)]; simp⟩
    | _ => exact False.elim h
end
end Rb

/-! RbDct: dictionaries by texts. Own work. -/
namespace Rb
open PySem PySem.Spec PyProof.Rows L2
/-! ### the two lists of entries -/
section
variable {d : Wd} {F : Hp} {io : List Addr}
theorem putK_ne {p : Key × V} {r : List (Key × V)} {k : Key} {v : V} (h : ¬ p.1 = k) : putK (p :: r) k v = p :: putK r k v := by
  unfold putK
  rw [List.any_cons, decide_eq_false h, Bool.false_or]
  split
  · rw [List.map_cons, if_neg h]
  · rfl
theorem map_id_of {r : List (Key × V)} {k : Key} {v : V} (h : ∀ q ∈ r, ¬ q.1 = k) : (r.map fun kv => if kv.1 = k then (kv.1, v) else kv) = r := by
  conv => rhs; rw [← List.map_id r]
  exact List.map_congr_left fun q hq => if_neg (h q hq)
theorem putF_keys (f : Str) (x : D) : ∀ kvs : List (Str × D), (∀ g, g ∈ (putF f x kvs).map (·.1) ↔ g = f ∨ g ∈ kvs.map (·.1))
  | [], g => by simp [putF]
  | (h, y) :: kvs, g => by
    unfold putF
    by_cases e : f = h
    · rw [if_pos e]; subst e; simp
    · rw [if_neg e]
      simp only [List.map_cons, List.mem_cons, putF_keys f x kvs g]
      constructor
      · rintro (q | q | q)
        · exact .inr (.inl q)
        · exact .inl q
        · exact .inr (.inr q)
      · rintro (q | q | q)
        · exact .inr (.inl q)
        · exact .inl q
        · exact .inr (.inr q)
theorem putF_nodup (f : Str) (x : D) : ∀ {kvs : List (Str × D)}, (kvs.map (·.1)).Nodup → ((putF f x kvs).map (·.1)).Nodup
  | [], _ => by simp [putF]
  | (h, y) :: kvs, n => by
    simp only [List.map_cons, List.nodup_cons] at n
    unfold putF
    by_cases e : f = h
    · rw [if_pos e]; simp only [List.map_cons, List.nodup_cons]; exact n
    · rw [if_neg e]
      simp only [List.map_cons, List.nodup_cons]
      refine ⟨fun q => ?_, putF_nodup f x n.2⟩
      rcases (putF_keys f x kvs h).mp q with q | q
      · exact e q.symm
      · exact n.1 q
theorem dct_put : ∀ {kvs : List (Str × D)} {vkv : List (Key × V)}, vkv.map (·.1) = kvs.map (fun p => Sum.inr p.1) → (kvs.map (·.1)).Nodup → Reps d F io (kvs.map (·.2)) (vkv.map (·.2)) → ∀ (f : Str) {x : D} {v : V}, Rep d F io x v →
    (putK vkv (Sum.inr f : Key) v).map (·.1) = (putF f x kvs).map (fun p => Sum.inr p.1) ∧ Reps d F io ((putF f x kvs).map (·.2)) ((putK vkv (Sum.inr f : Key) v).map (·.2))
  | [], vkv, hk, _, hr, f, x, v, rx => by
    have : vkv = [] := by simpa using hk
    subst this
    exact ⟨rfl, Reps.cons rx Reps.nil⟩
  | (g, y) :: kvs, vkv, hk, hn, hr, f, x, v, rx => by
    cases vkv with
    | nil => simp at hk
    | cons p vkv =>
      simp only [List.map_cons, List.cons.injEq] at hk
      simp only [List.map_cons, List.nodup_cons] at hn
      simp only [List.map_cons, Reps] at hr
      obtain ⟨u, r, e, h1, h2⟩ := hr
      simp only [List.cons.injEq] at e
      obtain ⟨e1, e2⟩ := e
      subst e2
      by_cases h : f = g
      · subst h
        have hno : ∀ q ∈ vkv, ¬ q.1 = (Sum.inr f : Key) := fun q hq z => by
          have : (Sum.inr f : Key) ∈ vkv.map (·.1) := List.mem_map.mpr ⟨q, hq, z⟩
          rw [hk.2] at this
          obtain ⟨w, hw, ew⟩ := List.mem_map.mp this
          exact hn.1 (List.mem_map.mpr ⟨w, hw, Sum.inr.inj ew⟩)
        have e3 : putK (p :: vkv) (Sum.inr f : Key) v = (p.1, v) :: vkv := by
          unfold putK
          rw [List.any_cons, decide_eq_true hk.1, Bool.true_or, if_pos rfl, List.map_cons, if_pos hk.1, map_id_of hno]
        have e4 : putF f x ((f, y) :: kvs) = (f, x) :: kvs := by simp [putF]
        rw [e3, e4]
        simp only [List.map_cons]
        exact ⟨by rw [hk.1, hk.2], Reps.cons rx h2⟩
      · have hp : ¬ p.1 = (Sum.inr f : Key) := fun q => by rw [hk.1] at q; exact h (Sum.inr.inj q).symm
        have e4 : putF f x ((g, y) :: kvs) = (g, y) :: putF f x kvs := by simp [putF, h]
        rw [putK_ne hp, e4]
        obtain ⟨a1, a2⟩ := dct_put hk.2 hn.2 h2 f rx
        simp only [List.map_cons]
        exact ⟨by rw [hk.1, a1], Reps.cons (by rw [e1]; exact h1) a2⟩
end
section
variable {X : Cx} {d : Wd} {C : CallT} {W : WX} {pos px : Pos} {x : Str}
/-- an object just made becomes a cell -/
theorem ex_cellD {F H F1 H1 : Hp} {io io1 : List Addr} {M1 : Sto} {c : Cell} {a : Addr} (x1 : Ex F io H F1 io1 H1) (c1 : Cels d F1 io1 H1 M1) (n1 : H a = none) (n2 : F1 a = none) (n3 : a ∉ io1) (hc : CellR d F1 (io1 ++ [a]) H1 a c) :
    Ex F io H F1 (io1 ++ [a]) H1 ∧ Cels d F1 (io1 ++ [a]) H1 (M1 ++ [c]) := by
  have pr := Pre.app io1 [a]
  refine ⟨⟨x1.sub, x1.pre.trans pr, x1.frz, fun b hb => ?_, x1.keep, x1.there, x1.od⟩, ⟨by simp [c1.len], ?_, fun b hb => ?_, fun k c' e => ?_⟩⟩
  · rcases List.mem_append.mp hb with q | q
    · exact x1.new b q
    · have : b = a := by simpa using q
      subst this; exact .inr n1
  · rw [List.nodup_append]
    refine ⟨c1.nd, by simp, fun b hb b2 hb2 => ?_⟩
    have : b2 = a := by simpa using hb2
    subst this; intro q; subst q; exact n3 hb
  · rcases List.mem_append.mp hb with q | q
    · exact c1.out b q
    · have : b = a := by simpa using q
      subst this; exact n2
  · by_cases hr : k < M1.length
    · rw [List.getElem?_append_left hr] at e
      obtain ⟨b, k1, k2⟩ := c1.cel k c' e
      refine ⟨b, by rw [List.getElem?_append_left (by rw [c1.len]; exact hr)]; exact k1, ?_⟩
      cases c' with
      | lst l => obtain ⟨us, g1, g2⟩ := k2; exact ⟨us, g1, Reps.mono (Sub.refl _) pr _ _ g2⟩
      | obj c fs => obtain ⟨dx, vfs, g1, g2, g3, g4⟩ := k2; exact ⟨dx, vfs, g1, g2, g3, Reps.mono (Sub.refl _) pr _ _ g4⟩
      | dct kvs => obtain ⟨vkv, g1, g2, g3⟩ := k2; exact ⟨vkv, g1, g2, Reps.mono (Sub.refl _) pr _ _ g3⟩
    · have : k = M1.length := by
        rcases Nat.lt_or_ge k (M1 ++ [c]).length with q | q
        · simp at q; omega
        · rw [List.getElem?_eq_none q] at e; cases e
      subst this
      rw [List.getElem?_append_right (Nat.le_refl _)] at e
      simp at e; subst e
      exact ⟨a, by rw [← c1.len, List.getElem?_append_right (Nat.le_refl _)]; simp, hc⟩
/-- {} -/
theorem s_newd : PE X (.Dict [] [] pos) (teI d C W .newd) := by
  refine PE_imp pe_dnewK fun sg H Q h => ?_
  obtain ⟨F, io, e, M, rl, h⟩ := h
  simp only [ev] at h
  intro p hp
  obtain ⟨x2, s2, c2⟩ := ex_own (o := .dK []) rl.sub rl.cl hp
  obtain ⟨x3, c3⟩ := ex_cellD (c := .dct []) x2 c2 hp (rl.sub.none hp) (fun z => rl.cl.has z hp) ⟨[], upd_same, ⟨rfl, List.nodup_nil⟩, Reps.nil⟩
  refine h F (io ++ [p]) _ (.ref p) x3 s2 c3 ?_
  simp only [RV, Rep]
  exact ⟨p, rfl, by rw [← rl.cl.len, List.getElem?_append_right (Nat.le_refl _)]; simp⟩
/-- what a dictionary holds, at an address -/
theorem cel_dct {F H : Hp} {io : List Addr} {M : Sto} {r : Nat} {kvs : List (Str × D)} {v : V} (c : Cels d F io H M) (hv : Rep d F io (.cel r) v) (hm : M[r]? = some (.dct kvs)) :
    ∃ a vkv, v = .ref a ∧ io[r]? = some a ∧ H a = some (.dK vkv) ∧ vkv.map (·.1) = kvs.map (fun p => Sum.inr p.1) ∧ (kvs.map (·.1)).Nodup ∧ Reps d F io (kvs.map (·.2)) (vkv.map (·.2)) := by
  obtain ⟨a, rfl, k1⟩ := rep_cel hv
  obtain ⟨a', k2, vkv, e1, ⟨e2, e3⟩, e4⟩ := c.cel r _ hm
  rw [k1] at k2; cases k2
  exact ⟨a, vkv, rfl, k1, e1, e2, e3, e4⟩
theorem nosl_of {e : Expr} (h : nsl e = true) : NoSl e := fun o i => by cases e <;> first | (cases h; done) | rfl
/-- o[k] -/
theorem s_dget {o k : P} {eo ek : Expr} (hu : X.A.units + 1 < cLine) (hn : NoSl ek) (ho : PE X eo (teI d C W o)) (hk : PE X ek (teI d C W k)) : PE X (.Subscript eo ek pos) (teI d C W (.dget o k)) := by
  refine PE_imp (pe_dget hu ho hk hn) fun sg H Q h => ?_
  obtain ⟨F, io, e, M, rl, h⟩ := h
  simp only [ev] at h
  refine ⟨F, io, e, M, rl, (h.bind (RV d)).mono fun v H1 m => ?_⟩
  obtain ⟨F1, io1, M1, x, x1, s1, c1, q1, h1⟩ := m
  refine ⟨F1, io1, e, M1, rl.ex x1 s1 c1, (h1.bind (RV d)).mono fun u H2 m2 => ?_⟩
  obtain ⟨F2, io2, M2, y, x2, s2, c2, q2, h2⟩ := m2
  have q1 := Rep.mono x2.sub x2.pre _ _ q1
  cases x with
  | cel r =>
    cases y with
    | str f =>
      simp only at h2
      cases hm : M2[r]? with
      | none => rw [hm] at h2; exact h2.elim
      | some cl =>
        rw [hm] at h2
        cases cl with
        | dct kvs =>
          obtain ⟨z, e1, h2⟩ := Sat.oR h2
          obtain ⟨a, vkv, rfl, k1, k2, k3, _, k4⟩ := cel_dct c2 q1 hm
          rw [rep_str q2]
          rcases dct_look k3 k4 f with ⟨l1, _⟩ | ⟨y, w, l1, l2, l3⟩
          · rw [l1] at e1; cases e1
          · rw [l1] at e1; cases e1
            refine ⟨a, w, rfl, ?_, h2.ok s2 c2 l3⟩
            have := DGet.k (k := (Sum.inr f : Key)) k2
            rw [l2] at this
            exact this
        | _ => exact (show False from h2).elim
    | _ => exact (show False from h2).elim
  | _ => exact (show False from h2).elim
/-- o[k] = p -/
theorem s_dput {o k p : P} {eo ek ee : Expr} {spos : Pos} (hu : X.A.units + 1 < cLine) (hs : swapsWith ee (some (.Subscript eo ek spos)) pos.line X.env = pure false)
    (h : PE X ee (teI d C W p)) (ho : PE X eo (teI d C W o)) (hk : PE X ek (teI d C W k)) : PS X (.Assign [.Subscript eo ek spos] ee pos) (tsI d C W (.dput o k p)) := by
  refine PS_imp (ps_dput hu ho hk h hs) fun De sg H h => ?_
  obtain ⟨Fb, iob, Hb, F, io, e, M, s, h⟩ := h
  simp only [st] at h
  refine ⟨F, io, e, M, s.rl, (SatO.bind (RV d) s h).mono fun v H1 m => ?_⟩
  obtain ⟨F1, io1, M1, y, s1, x1, q1, hh⟩ := m
  refine ⟨F1, io1, e, M1, s1.rl, (SatO.bind (RV d) s1 hh).mono fun u H2 m2 => ?_⟩
  obtain ⟨F2, io2, M2, c, s2, x2, q2, hh2⟩ := m2
  refine ⟨F2, io2, e, M2, s2.rl, (SatO.bind (RV d) s2 hh2).mono fun w H3 m3 => ?_⟩
  obtain ⟨F3, io3, M3, j, s3, x3, q3, hh3⟩ := m3
  cases c with
  | cel r =>
    cases j with
    | str f =>
      simp only at hh3
      cases hm : M3[r]? with
      | none => rw [hm] at hh3; exact hh3.elim
      | some cl =>
        rw [hm] at hh3
        cases cl with
        | dct kvs =>
          simp only at hh3
          by_cases hz : kvs.length < 1000
          · rw [if_pos hz] at hh3
            have q2 := Rep.mono x3.sub x3.pre _ _ q2
            have ry := Rep.mono (x2.sub.trans x3.sub) (x2.pre.trans x3.pre) _ _ q1
            obtain ⟨a, vkv, rfl, k1, k2, k3, k5, k4⟩ := cel_dct s3.rl.cl q2 hm
            rw [rep_str q3]
            obtain ⟨p1, p2⟩ := dct_put k3 k5 k4 f ry
            have hlen : vkv.length < sizeLine := by
              have := congrArg List.length k3
              simp only [List.length_map] at this
              rw [this, ← lim_eq]
              exact Nat.lt_of_lt_of_le hz (by decide)
            exact ⟨a, _, rfl, DPut.k (k := (Sum.inr f : Key)) k2 hlen, hh3 F3 io3 sg _ (s3.cell k1 hm (c := .dct (putF f y kvs)) ⟨_, upd_same, ⟨p1, putF_nodup f y k5⟩, p2⟩ (fun cc dx fs q => by rw [k2] at q; cases q) (fun b q => by rw [k2] at q; cases q)) (Sub.refl _) (Pre.refl _)⟩
          · rw [if_neg hz] at hh3; exact hh3.elim
        | _ => exact (show False from hh3).elim
    | _ => exact (show False from hh3).elim
  | _ => exact (show False from hh3).elim
end
end Rb

/-! RbSta: a static method's call upon its class. Own work. -/
namespace Rb
open PySem PySem.Spec PyProof.Rows
open L2 hiding XE Takes CX passes_call takes_of MkP PMk ps_raise mk_of ps_try_as HdsOk ps_try_many pmk_own passAt St
open L2N
/-- C.m is a static method: its record at p, its def at g -/
structure StF (K : PySem.W.Frag) (C : Addr) (m : Str) (g : Addr) : Prop where
  ex : ∃ (mc : Value) (p : Addr) (rest : List Value), PySem.W.readsIn K C mc = true ∧ PySem.W.findCls K (.ref C) mc m = some (.get (.builtin "staticmethod.__get__") (.ref p) .none (.ref C)) ∧ PySem.W.recIn K p "staticmethod" = some (.ref g :: rest)
  ga : PySem.W.specialIn K (.ref C) "__getattribute__" = some (some (.builtin "type.__getattribute__"))
theorem getsta_ok {X : Cx} {pins : List (Addr × Obj)} {sg : L2.St} {H : Hp} {s : Shared} {C g : Addr} {m : Str} {A : Around} {E : Value → Shared → Prop} {pl : Sem Bool} {Q : Value × List Value → Shared → Prop} (I : Inv X pins sg H s) (f : StF X.K C m g)
    (h : ∀ s', Inv X pins sg H s' → Q (.ref g, []) s') : wpAny (model X.prog X.w) A (getMethod (.ref C) m pl) Q E s := by
  obtain ⟨mc, p, rest, h1, h2, h3⟩ := f.ex
  refine PySem.W.method_cls I.kIn f.ga (PySem.W.cls_bind I.kIn h1 h2 ?_)
  exact wpAny_call (PySem.W.sm_get (s := { s with toks := s.toks + 1 }) I.kIn h3 (PySem.W.handed_on rfl (h _ (I.tok _))))
section
variable {X : Cx} {d : Wd} {n : Nat} {W : WX} {pos px apos : Pos} {x : Str}
/-- C.f(e, ..) -/
theorem s_stat {c f : Nat} {fd : FD} {e1 : Expr} {ps : List P} {es : List Expr} (G : Gd d X n) (hf : d.T.fn f = some fd) (FF : FnF d f fd) (sf : StF d.K (d.ca c) (Str.ofString fd.name) (d.fa f)) (tk : Takes X W) (hg : Gl X x) (hm : d.mg x = some (.ref (d.ca c))) (hd : (x == ("__debug__" : Str)) = false)
    (hn : nsts (e1 :: es) = true) (hl : (apos.endLine == pos.line) = true) (hz : (e1 :: es).length < 30) (ha : PA X (e1 :: es) (taI d (run d.T n) W ps)) :
    PE X (.Call (.Attribute (.Name x px) (Str.ofString fd.name) apos) (e1 :: es) [] pos) (teI d (run d.T n) W (.call f ps)) := by
  obtain ⟨pl, ht⟩ := meth_form (o := .Name x px) (m := Str.ofString fd.name) (env := X.env) rfl hn hl hz
  have sf : StF X.K (d.ca c) (Str.ofString fd.name) (d.fa f) := by rw [G.K]; exact sf
  have hn' : nst e1 = true ∧ nsts es = true := by unfold nsts at hn ⊢; rw [List.all_cons, Bool.and_eq_true] at hn; exact hn
  refine ⟨fun pins s sg H Q I q => ?_⟩
  obtain ⟨F, io, e, M, rl, q⟩ := q
  simp only [ev] at q
  refine PySem.W.methodCall_KW (pl := pl) (ld_glob I hg (by rw [G.mg]; exact hm) ?_ hd) ht
  refine getsta_ok I sf fun s1 I1 => ?_
  refine PySem.W.callWith_K (first := []) (h₀ := X.base) I.ok.mod.kin (by rw [G.K]; exact FF.keep) (thn (ha.run pos pins s1 sg H _ I1 ⟨F, io, e, M, rl, q.bind (RVs d)⟩) fun us s2 ⟨vs, H1, I2, r, z⟩ => ⟨I2.kIn, ?_⟩) (star_ns hn'.1) (star_nsts hn'.2)
  obtain ⟨F1, io1, M1, l, x1, s1', c1, q1, h1⟩ := z
  exact run_fnS (us := us) (vs := vs) (G.fns f fd hf) (G.room.mono (by omega)) (by rw [G.K]; exact FF.bind) (passAt tk sg) I2 r (sp_of rfl s1' c1 q1 h1)
end
end Rb

/-! RbMatch: a text's syntax tree against the small language's, as a test that runs. Own work. -/
namespace Rb
open PySem PySem.Spec PyProof.Rows L2
/-- a body's names: slots, the scope that runs, a block's own scope -/
structure SC where
  N : List Str
  sc : Scope
  fc : Option Scope
  rp : Bool
def isDbg (x : Str) : Bool := x == ("__debug__" : Str) || x == ("__classdict__" : Str)
def visB (sc : Scope) (x : Str) : Bool := match sc.names.lookup x with | some .local => true | some .cell => true | some .free => true | _ => false
def locB (sc : Scope) (x : Str) : Bool := match sc.names.lookup x with | some .local => true | some .cell => true | _ => false
def glB (sc : Scope) (x : Str) : Bool := match sc.names.lookup x with | some .globalImplicit => true | _ => false
def nmB (s : SC) (i : Nat) (x : Str) : Bool := decide (s.N[i]? = some x) && visB s.sc x && !isDbg x
def tgB (s : SC) (i : Nat) (x : Str) : Bool := decide (s.N[i]? = some x) && locB s.sc x && (match s.fc with | none => true | some c => decide (c.names.lookup x = some .cell) || decide (s.sc.names.lookup x = some .local))
def tgsB (s : SC) : List Nat → List Str → Bool
  | [], [] => true
  | i :: is, x :: xs => tgB s i x && tgsB s is xs
  | _, _ => false
def mTg (s : SC) : Tgt → Expr → Bool
  | .nm i, .Name x _ => tgB s i x
  | .tup is, .Tuple es _ _ => match nmsOf es with | some xs => tgsB s is xs | none => false
  | _, _ => false
/-- a block's scope -/
def SC.blk (s : SC) (scope : Scope) : SC := ⟨s.N, relS scope s.sc, some scope, false⟩
def ownOf (N : List Str) (ix : List Nat) : List (Str × Nat) := ix.filterMap fun i => (N[i]?).map fun x => (x, i)
def mCst : D → Expr → Bool
  | .non, .Constant .none _ _ => true
  | .bl b, .Constant (.bool c) _ _ => b == c
  | .int i, .Constant (.int j) _ _ => decide (i = j)
  | .str x, .Constant (.str y) _ _ => decide (x = y)
  | _, _ => false
def mBin : BOp → Operator → Bool
  | .add, .Add => true | .sub, .Sub => true | .mul, .Mult => true | .fdv, .FloorDiv => true | .mod, .Mod => true | .pow, .Pow => true
  | _, _ => false
def mCmp : COp → CmpOp → Bool
  | .eq, .Eq => true | .ne, .NotEq => true | .lt, .Lt => true | .le, .LtE => true | .gt, .Gt => true | .ge, .GtE => true | .eqp, .Eq => true
  | _, _ => false
def mTy (T : Tb) (s : SC) : Ty → Expr → Bool
  | .int, .Name x _ => decide (x = "int") && glB s.sc x
  | .bool, .Name x _ => decide (x = "bool") && glB s.sc x
  | .str, .Name x _ => decide (x = "str") && glB s.sc x
  | .tuple, .Name x _ => decide (x = "tuple") && glB s.sc x
  | .list, .Name x _ => decide (x = "list") && glB s.sc x
  | .cls c, .Name x _ => decide (x = Str.ofString (T.cname c)) && glB s.sc x && (T.init c).isSome && !isDbg x
  | _, _ => false
def nlc : Expr → Bool
  | .ListComp _ _ _ _ => false | .SetComp _ _ _ _ => false | .DictComp _ _ _ _ _ => false | _ => true
def nset : Expr → Bool
  | .Set _ _ _ => false | _ => true
def fnB (T : Tb) (s : SC) (f : Nat) (x : Str) : Bool := match T.fn f with | some fd => decide (x = Str.ofString fd.name) && T.isGl f && glB s.sc x && !isDbg x | none => false
def mnB (T : Tb) (m : Nat) (x : Str) : Bool := match T.fn m with | some fd => decide (x = Str.ofString fd.name) | none => false
def kwB (T : Tb) (f : Nat) (kws : List Keyword) (tl : Bool) : Bool := match T.fn f with | some fd => decide (kws.map (·.arg) = (if tl then (fd.ps.map Str.ofString).tail else fd.ps.map Str.ofString).map some) | none => false
def clB (T : Tb) (s : SC) (c : Nat) (x : Str) : Bool := decide (x = Str.ofString (T.cname c)) && glB s.sc x && !isDbg x && (match T.init c with | some f => (T.fn f).isSome | none => false)
/-- what is called: a def by its name; a static method upon its class -/
def mFn (T : Tb) (s : SC) (f : Nat) (ps : Pos) (k : Nat) : Expr → Bool
  | .Name x _ => fnB T s f x
  | .Attribute (.Name x _) m ap => (match T.stt f with
    | some c => clB T s c x && mnB T f m && (ap.endLine == ps.line) && decide (k < 30) && decide (0 < k)
    | none => false)
  | _ => false
/-- x.replace(a, b, 1) + z -/
def mRep (s : SC) : P → Expr → Bool
  | .rep1 i a b, .Call (.Attribute (.Name x _) f ap) [.Constant (.str a') _ _, .Constant (.str b') _ _, .Constant (.int k) _ _] [] ps => decide (f = "replace") && nmB s i x && decide (a = a') && decide (b = b') && decide (k = 1) && (ap.endLine == ps.line)
  | _, _ => false
def mRepB (s : SC) : P → Expr → Bool
  | .bin .add p (.cst (.str z)), .BinOp ea .Add (.Constant (.str z') _ _) _ => mRep s p ea && decide (z = z')
  | _, _ => false
/-- items behind a written text -/
def mAT (f : P → Expr → Bool) (s : SC) : List P → List Expr → Bool
  | [], [] => true
  | p :: ps, e :: es => !p.isStar && nst e && (mRepB s p e || f p e) && mAT f s ps es
  | _, _ => false
def mLst1 (f : P → Expr → Bool) (s : SC) : List P → List Expr → Bool
  | .cst (.str c) :: ps, .Constant (.str c') _ _ :: es => decide (c = c') && mAT f s ps es
  | _, _ => false
/-- an f-string's part -/
def mJ1 (f : P → Expr → Bool) : P → Expr → Bool
  | .cst (.str z), .Constant (.str z') _ _ => decide (z = z')
  | p, .FormattedValue e cv none _ => decide (cv = -1) && f p e
  | _, _ => false
def mJ (f : P → Expr → Bool) : List P → List Expr → Bool
  | [], [] => true
  | p :: ps, e :: es => mJ1 f p e && mJ f ps es
  | _, _ => false
mutual
/-- a value -/
def mE (T : Tb) : Nat → SC → P → Expr → Bool
  | 0, _, _, _ => false
  | n + 1, s, p, e => match p, e with
    | .nm i, .Name x _ => nmB s i x
    | .cst d, e => mCst d e
    | .glo g, .Name x _ => decide (x = Str.ofString (T.gname g)) && glB s.sc x && !isDbg x
    | .bin o a b, .BinOp ea op eb _ => mBin o op && mE T n s a ea && mE T n s b eb
    | .cmp o a b, .Compare ea [op] [eb] _ => match o, op with
      | .isin, .In => mE T n s a ea && mO T n s b eb && !behindInMarks op eb
      | .notin, .NotIn => mE T n s a ea && mO T n s b eb && !behindInMarks op eb
      | o, op => mCmp o op && mE T n s a ea && mE T n s b eb && !behindInMarks op eb
    | .chn o1 o2 a b c, .Compare ea [op1, op2] [eb, ec] _ => mCmp o1 op1 && mCmp o2 op2 && mE T n s a ea && mE T n s b eb && mE T n s c ec && !lastMarks [op1, op2] [eb, ec]
    | .isn ng a, .Compare ea [op] [.Constant .none _ _] _ => decide (op = isOp ng) && mE T n s a ea
    | .isb ng a b, .Compare ea [op] [.Constant (.bool c) _ _] _ => decide (op = isOp ng) && b == c && mE T n s a ea
    | .and_ a b, .BoolOp .And (ea :: eb :: es) ps => mE T n s a ea && (match es with | [] => mE T n s b eb | _ => mE T n s b (.BoolOp .And (eb :: es) ps))
    | .or_ a b, .BoolOp .Or (ea :: eb :: es) ps => mE T n s a ea && (match es with | [] => mE T n s b eb | _ => mE T n s b (.BoolOp .Or (eb :: es) ps))
    | .not_ a, .UnaryOp .Not ea _ => mE T n s a ea
    | .neg a, .UnaryOp .USub ea _ => mE T n s a ea
    | .ite c a b, .IfExp ec ea eb _ => mT T n s c ec && mE T n s a ea && mE T n s b eb
    | .call f args, .Call fx es [] ps => mFn T s f ps es.length fx && nsts es && mA T n s args es
    | .callk f args, .Call (.Name x _) [] kws _ => fnB T s f x && T.kw f && kwB T f kws false && mK T n s args kws
    | .new c args, .Call (.Name x _) es [] _ => clB T s c x && nsts es && !es.isEmpty && mA T n s args es
    | .newk c args, .Call (.Name x _) [] kws _ => clB T s c x && (match T.init c with | some f => T.kw f && kwB T f kws true | none => false) && mK T n s args kws
    | .newo c args, .Call (.Name x _) es [] _ => clB T s c x && nsts es && mA T n s args es
    | .meth c o m args, .Call (.Attribute eo f ap) es [] ps => mnB T m f && T.meth c m && nsup eo && nsts es && (ap.endLine == ps.line) && decide (es.length < 30) && mE T n s o eo && mA T n s args es
    | .prop c o m, .Attribute eo f _ => mnB T m f && T.prp c m && nsup eo && mE T n s o eo
    | .att c o f, .Attribute eo g _ => decide (f = g) && (T.init c).isSome && decide (f ∈ T.flds c) && nsup eo && mE T n s o eo
    | .len a, .Call (.Name x _) [ea] [] _ => decide (x = "len") && glB s.sc x && nst ea && mO T n s a ea
    | .tupl a, .Call (.Name x _) [ea] [] _ => decide (x = "tuple") && glB s.sc x && nst ea && mQ T n s a ea
    | .sum a, .Call (.Name x _) [ea] [] _ => decide (x = "sum") && glB s.sc x && nst ea && mQ T n s a ea
    | .all a, .Call (.Name x _) [ea] [] _ => decide (x = "all") && glB s.sc x && nst ea && mQ T n s a ea
    | .any a, .Call (.Name x _) [ea] [] _ => decide (x = "any") && glB s.sc x && nst ea && mQ T n s a ea
    | .mins a, .Call (.Name x _) [ea] [] _ => decide (x = "min") && glB s.sc x && nst ea && mQ T n s a ea
    | .min2 a b, .Call (.Name x _) [ea, eb] [] _ => decide (x = "min") && glB s.sc x && nst ea && nst eb && mE T n s a ea && mE T n s b eb
    | .max2 a b, .Call (.Name x _) [ea, eb] [] _ => decide (x = "max") && glB s.sc x && nst ea && nst eb && mE T n s a ea && mE T n s b eb
    | .gcd a b, .Call (.Name x _) [ea, eb] [] _ => decide (x = "gcd") && decide (T.gname 1000 = "gcd") && glB s.sc x && nst ea && nst eb && mE T n s a ea && mE T n s b eb
    | .int_ a, .Call (.Name x _) [ea] [] _ => decide (x = "int") && glB s.sc x && nst ea && mE T n s a ea
    | .abs a, .Call (.Name x _) [ea] [] _ => decide (x = "abs") && glB s.sc x && nst ea && mE T n s a ea
    | .str_ a, .Call (.Name x _) [ea] [] _ => decide (x = "str") && glB s.sc x && nst ea && mE T n s a ea
    | .repr a, .Call (.Name x _) [ea] [] _ => decide (x = "repr") && s.rp && glB s.sc x && nst ea && mE T n s a ea
    | .trng a, .Call (.Name x _) [.Call (.Name y _) [ea] [] _] [] _ => decide (x = "tuple") && decide (y = "range") && glB s.sc x && glB s.sc y && nst ea && mE T n s a ea
    | .isi a [t], .Call (.Name x _) [ea, ec] [] _ => decide (x = "isinstance") && glB s.sc x && nst ea && nst ec && mE T n s a ea && mTy T s t ec
    | .isi a [t, t2], .Call (.Name x _) [ea, .Tuple [ec, ec2] _ _] [] _ => decide (x = "isinstance") && glB s.sc x && nst ea && nst ec && nst ec2 && mE T n s a ea && mTy T s t ec && mTy T s t2 ec2
    | .ix o i, .Subscript eo ei _ => nsl ei && mO T n s o eo && mE T n s i ei
    | .dget o k, .Subscript eo ek _ => nsl ek && mE T n s o eo && mE T n s k ek
    | .newd, .Dict [] [] _ => true
    | .slf o a, .Subscript eo (.Slice (some ea) none none _) _ => mO T n s o eo && mE T n s a ea
    | .slt o a, .Subscript eo (.Slice none (some ea) none _) _ => mO T n s o eo && mE T n s a ea
    | .rev o, .Subscript eo (.Slice none none (some (.UnaryOp .USub (.Constant (.int i) _ _) _)) _) _ => decide (i = 1) && mE T n s o eo
    | .join a b, .Call (.Attribute eo f ap) [eb] [] ps => decide (f = "join") && nsup eo && nst eb && (ap.endLine == ps.line) && mE T n s a eo && mQ T n s b eb
    | .part a b, .Call (.Attribute eo f ap) [eb] [] ps => decide (f = "partition") && nsup eo && nst eb && (ap.endLine == ps.line) && mE T n s a eo && mE T n s b eb
    | .fstr l, .JoinedStr (e1 :: e2 :: es) _ => mJ (mE T n s) l (e1 :: e2 :: es)
    | .tup l, .Tuple es _ _ => mA T n s l es
    | .newc p, e => mF T n s p e
    | p, e => mF T n s p e
/-- a fresh list -/
def mF (T : Tb) : Nat → SC → P → Expr → Bool
  | 0, _, _, _ => false
  | n + 1, s, p, e => match p, e with
    | .lst l, .List es _ => mA T n s l es || mLst1 (mE T n s) s l es
    | .list a, .Call (.Name x _) [ea] [] _ => decide (x = "list") && glB s.sc x && nst ea && mQ T n s a ea
    | .lrng a, .Call (.Name x _) [.Call (.Name y _) [ea] [] _] [] _ => decide (x = "list") && decide (y = "range") && glB s.sc x && glB s.sc y && nst ea && mE T n s a ea
    | .cat a b, .BinOp ea .Add eb _ => mQ T n s a ea && mQ T n s b eb
    | .srt a, .Call (.Name x _) [ea] [] _ => decide (x = "sorted") && glB s.sc x && nst ea && mQ T n s a ea
    | .comp x t src c, .ListComp elt [⟨tg, iter, ifs, 0⟩] scope _ => mS T n s src tg iter && blkC s.N s.sc scope (ownOf s.N t.ix) && decide ((ownOf s.N t.ix).map (·.2) = t.ix) && mTg (s.blk scope) t tg && nset iter && mE T n (s.blk scope) x elt &&
        (match c, ifs with | none, [] => true | some q, [eq] => mT T n (s.blk scope) q eq | _, _ => false)
    | .comp2 x t src t2 (.seq a), .ListComp elt [⟨tg, iter, [], 0⟩, ⟨tg1, iter1, [], 0⟩] scope _ => mS T n s src tg iter && blkC s.N s.sc scope (ownOf s.N (t.ix ++ t2.ix)) && decide ((ownOf s.N (t.ix ++ t2.ix)).map (·.2) = t.ix ++ t2.ix) && mTg (s.blk scope) t tg && mTg (s.blk scope) t2 tg1 &&
        nset iter && nset iter1 && !a.isBor && mE T n (s.blk scope) a iter1 && mE T n (s.blk scope) x elt
    | .split a b, .Call (.Attribute eo f ap) [eb] [] ps => decide (f = "split") && nsup eo && nst eb && (ap.endLine == ps.line) && mE T n s a eo && mE T n s b eb
    | _, _ => false
/-- a fresh list by an operator, too -/
def mG (T : Tb) : Nat → SC → P → Expr → Bool
  | 0, _, _, _ => false
  | n + 1, s, p, e => match p, e with
    | .bin .add a b, .BinOp ea .Add eb _ => mE T n s a ea && mE T n s b eb
    | .bin .mul a b, .BinOp ea .Mult eb _ => mE T n s a ea && mE T n s b eb
    | p, e => mF T n s p e
/-- a sequence that is read -/
def mQ (T : Tb) : Nat → SC → P → Expr → Bool
  | 0, _, _, _ => false
  | n + 1, s, p, e => match p, e with
    | .bor i, .Name x _ => nmB s i x
    | .bor _, _ => false
    | p, e => mE T n s p e
/-- what an index is asked of -/
def mO (T : Tb) : Nat → SC → P → Expr → Bool
  | 0, _, _, _ => false
  | n + 1, s, p, e => match p, e with
    | .bor i, .Name x _ => nmB s i x
    | .bor _, _ => false
    | p, e => mE T n s p e
def mA (T : Tb) : Nat → SC → List P → List Expr → Bool
  | 0, _, _, _ => false
  | n + 1, s, ps, es => match ps, es with
    | [], [] => true
    | .star a :: ps, .Starred ea _ :: es => !a.isBor && mE T n s a ea && mA T n s ps es
    | p :: ps, e :: es => !p.isStar && nst e && mE T n s p e && mA T n s ps es
    | _, _ => false
def mK (T : Tb) : Nat → SC → List P → List Keyword → Bool
  | 0, _, _, _ => false
  | n + 1, s, ps, ks => match ps, ks with
    | [], [] => true
    | p :: ps, ⟨_, e, _⟩ :: ks => !p.isStar && mE T n s p e && mK T n s ps ks
    | _, _ => false
/-- a source, its target a tuple where that is asked -/
def mS (T : Tb) : Nat → SC → Src → Expr → Expr → Bool
  | 0, _, _, _, _ => false
  | n + 1, s, src, tg, e => match src, tg, e with
    | .rg1 a, _, .Call (.Name x _) [ea] [] _ => decide (x = "range") && glB s.sc x && nst ea && mE T n s a ea
    | .rg2 a b, _, .Call (.Name x _) [ea, eb] [] _ => decide (x = "range") && glB s.sc x && nst ea && nst eb && mE T n s a ea && mE T n s b eb
    | .enm a, .Tuple _ _ _, .Call (.Name x _) [ea] [] _ => decide (x = "enumerate") && glB s.sc x && nst ea && mQ T n s a ea
    | .zp a b, .Tuple _ _ _, .Call (.Name x _) [ea, eb] [] _ => decide (x = "zip") && glB s.sc x && nst ea && nst eb && mQ T n s a ea && mQ T n s b eb
    | .sgn a, _, e => mE T n s a e
    | .seq a, _, e => mQ T n s a e
    | _, _, _ => false
/-- a test -/
def mT (T : Tb) : Nat → SC → P → Expr → Bool
  | 0, _, _, _ => false
  | n + 1, s, p, e => match p, e with
    | .cmp o a b, .Compare ea [op] [eb] _ => match o, op with
      | .isin, .In => mE T n s a ea && mO T n s b eb && !behindInMarks op eb
      | .notin, .NotIn => mE T n s a ea && mO T n s b eb && !behindInMarks op eb
      | o, op => mCmp o op && mE T n s a ea && mE T n s b eb && !behindInMarks op eb
    | .chn o1 o2 a b c, .Compare ea [op1, op2] [eb, ec] _ => mCmp o1 op1 && mCmp o2 op2 && mE T n s a ea && mE T n s b eb && mE T n s c ec && !lastMarks [op1, op2] [eb, ec]
    | .isn ng a, .Compare ea [op] [.Constant .none _ _] _ => decide (op = isOp ng) && mE T n s a ea
    | .isb ng a b, .Compare ea [op] [.Constant (.bool c) _ _] _ => decide (op = isOp ng) && b == c && mE T n s a ea
    | .and_ a b, .BoolOp .And (ea :: eb :: es) ps => mT T n s a ea && (match es with | [] => mT T n s b eb | _ => mT T n s b (.BoolOp .And (eb :: es) ps))
    | .or_ a b, .BoolOp .Or (ea :: eb :: es) ps => mT T n s a ea && (match es with | [] => mT T n s b eb | _ => mT T n s b (.BoolOp .Or (eb :: es) ps))
    | .not_ a, .UnaryOp .Not ea _ => mT T n s a ea
    | p, .Name x q => mE T n s p (.Name x q)
    | p, .Call f as ks q => mE T n s p (.Call f as ks q)
    | p, .Attribute o f q => mE T n s p (.Attribute o f q)
    | p, .Subscript o i q => mE T n s p (.Subscript o i q)
    | p, .Constant c k q => mE T n s p (.Constant c k q)
    | _, _ => false
end
end Rb

/-! RbMain: what matches is as the small language says: expressions. Own work. -/
namespace Rb
open PySem PySem.Spec PyProof.Rows
open L2 hiding XE Takes CX passes_call takes_of MkP PMk ps_raise mk_of ps_try_as HdsOk ps_try_many pmk_own passAt St
open L2N
/-- what isinstance tells of a class's errors -/
structure XkF (d : Wd) (c : Nat) : Prop where
  own : ∀ h, d.T.isE h = true → PySem.W.kitOne d.K (.ref (d.ca c)) (.ref (d.ca h)) = some (decide (c = h ∨ d.T.base c = some h))
  blt : ∀ n ∈ xnL, PySem.W.kitOne d.K (.ref (d.ca c)) (.type n) = some false ∧ d.mg (Str.ofString n) = none
  ask : ExcK d.K (d.ca c)
/-- what the written part says of the tables -/
structure TbF (d : Wd) : Prop where
  fnF : ∀ f fd, d.T.fn f = some fd → FnF d f fd
  fnG : ∀ f fd, d.T.fn f = some fd → d.T.isGl f = true → d.mg (Str.ofString fd.name) = some (.ref (d.fa f))
  clF : ∀ c, (d.T.init c).isSome = true → ClF d c
  meth : ∀ c m fd, d.T.fn m = some fd → d.T.meth c m = true → Cls d.K (d.ca c) ∧ Meth d.K (d.ca c) (Str.ofString fd.name) (d.fa m)
  stt : ∀ c m fd, d.T.fn m = some fd → d.T.stt m = some c → StF d.K (d.ca c) (Str.ofString fd.name) (d.fa m)
  prp : ∀ c m fd, d.T.fn m = some fd → d.T.prp c m = true → Cls d.K (d.ca c) ∧ ∃ pa, PropOf d.K (d.ca c) (Str.ofString fd.name) pa (d.fa m)
  glo : ∀ g D0, d.T.glo g = some D0 → ∃ u v, d.mg (Str.ofString (d.T.gname g)) = some u ∧ RelV v u ∧ ∀ F io, Rep d F io D0 v
  eqf : ∀ c f, d.T.eqf c = some f → EqF d c f
  blt : ∀ x ∈ blt, d.mg x = none
  gcd : d.T.gname 1000 = "gcd" → d.mg "gcd" = some (.builtin "math.gcd")
  tys : ∀ n t, (n, t) ∈ ([("int", Ty.int), ("bool", Ty.bool), ("str", Ty.str), ("tuple", Ty.tuple), ("list", Ty.list)] : List (String × Ty)) → IsF d t (.type n)
  cls : ∀ c, (d.T.init c).isSome = true → IsF d (.cls c) (.ref (d.ca c))
  er : ∀ c f, d.T.efld c = some f → ErF d c f
  xk : d.T.xk = true → ∀ c f, d.T.efld c = some f → XkF d c
  exc : ∀ c, d.T.isE c = true → d.mg (Str.ofString (d.T.cname c)) = some (.ref (d.ca c)) ∧ ∀ c2 f, d.T.efld c2 = some f → PySem.W.exmOne d.K (.ref (d.ca c2)) (.ref (d.ca c)) = some (decide (c2 = c ∨ d.T.base c2 = some c))
/-- a context of a body or of a block -/
structure Gx (d : Wd) (n : Nat) (s : SC) (X : Cx) : Prop extends Gd d X n where
  sc : X.env.scope = s.sc
  nN : X.N = s.N
  nd : X.N.Nodup
  fn : match s.fc with | none => ∀ x, X.fn x = true | some c => X.fn = fun x => c.names.lookup x == some .cell
  gd : s.rp = true → X.A.guards = some []
section
variable {X : Cx} {d : Wd} {n : Nat} {s : SC} {W : WX} {x : Str} {i : Nat}
theorem Gx.hu (G : Gx d n s X) : X.A.units + 70 < cLine := by have := G.room.un; omega
theorem visB_of {sc : Scope} (h : visB sc x = true) : Vis sc x := by
  unfold visB at h
  split at h
  · rename_i q; exact .inl q
  · rename_i q; exact .inr (.inl q)
  · rename_i q; exact .inr (.inr q)
  · cases h
theorem locB_of {sc : Scope} (h : locB sc x = true) : Loc sc x := by
  unfold locB at h
  split at h
  · rename_i q; exact .inl q
  · rename_i q; exact .inr q
  · cases h
theorem Gx.gl (G : Gx d n s X) (h : glB s.sc x = true) : Gl X x := by
  unfold glB at h
  unfold Gl Env.kindOf
  rw [G.sc]
  split at h
  · assumption
  · cases h
theorem dbg_of (h : (!isDbg x) = true) : (x == ("__debug__" : Str)) = false ∧ (x == ("__classdict__" : Str)) = false := by
  unfold isDbg at h
  rw [Bool.not_eq_true', Bool.or_eq_false_iff] at h
  exact h
theorem Gx.nm (G : Gx d n s X) (h : nmB s i x = true) : X.N[i]? = some x ∧ Vis X.env.scope x ∧ (x == ("__debug__" : Str)) = false ∧ (x == ("__classdict__" : Str)) = false := by
  unfold nmB at h
  simp only [Bool.and_eq_true, decide_eq_true_eq] at h
  obtain ⟨⟨h1, h2⟩, h3⟩ := h
  exact ⟨by rw [G.nN]; exact h1, by rw [G.sc]; exact visB_of h2, dbg_of h3⟩
theorem Gx.tg (G : Gx d n s X) (h : tgB s i x = true) : NmOk X i x := by
  unfold tgB at h
  simp only [Bool.and_eq_true, decide_eq_true_eq] at h
  obtain ⟨⟨h1, h2⟩, h3⟩ := h
  refine ⟨by rw [G.nN]; exact h1, by rw [G.sc]; exact locB_of h2, ?_⟩
  have f := G.fn
  cases q : s.fc with
  | none => rw [q] at f; exact .inl (f x)
  | some c =>
    rw [q] at f h3
    simp only [Bool.or_eq_true, decide_eq_true_eq] at h3
    rcases h3 with h3 | h3
    · exact .inl (by rw [f]; simp [h3])
    · exact .inr (by rw [G.sc]; exact h3)
theorem tgsB_of (G : Gx d n s X) : ∀ {is : List Nat} {xs : List Str}, tgsB s is xs = true → (∀ p ∈ is.zip xs, NmOk X p.1 p.2) ∧ is.length = xs.length
  | [], [], _ => ⟨fun p hp => by simp at hp, rfl⟩
  | i :: is, x :: xs, h => by
    simp only [tgsB, Bool.and_eq_true] at h
    obtain ⟨h1, h2⟩ := h
    obtain ⟨a, b⟩ := tgsB_of G h2
    refine ⟨fun p hp => ?_, by simp [b]⟩
    rw [List.zip_cons_cons] at hp
    rcases List.mem_cons.mp hp with e | hp
    · subst e; exact G.tg h1
    · exact a p hp
  | [], _ :: _, h => by simp [tgsB] at h
  | _ :: _, [], h => by simp [tgsB] at h
theorem mTg_of (G : Gx d n s X) {t : Tgt} {tg : Expr} (h : mTg s t tg = true) : PG X tg (tgI d t) := by
  unfold mTg at h
  split at h
  · exact g_nm G.nd (G.tg h)
  · split at h
    · rename_i xs hx
      obtain ⟨a, b⟩ := tgsB_of G h
      exact g_tup G.calm G.K G.nd hx a b
    · cases h
  · cases h
/-- a block's context -/
theorem Gx.blk {scope : Scope} (G : Gx d n s X) (s0 : Shared) (H : Hp) (Ca : Addr) (cl : List (Str × Addr)) (fp : List Addr) : Gx d n (s.blk scope) (X.blk s0 H scope (compEnvC scope cl Ca X.env) fp) where
  K := G.K
  mg := G.mg
  calm := G.calm
  room := G.room
  fns := G.fns
  sc := by
    show relabel scope X.env = relS scope s.sc
    rw [← G.sc]; rfl
  nN := G.nN
  nd := G.nd
  fn := rfl
  gd := fun z => Bool.noConfusion (show false = true from z)
theorem takesB {Y : Cx} : Takes Y W0 := fun _ _ x => by
  obtain ⟨_, _, _, _, _, _, _, _, _, _, _, _, _, _, _, _, z⟩ := x
  exact z.elim
theorem mCst_of {D0 : D} {e : Expr} {C : CallT} (h : mCst D0 e = true) : PE X e (teI d C W (.cst D0)) := by
  unfold mCst at h
  split at h
  · exact s_cst pe_non fun F io => by simp only [Rep]
  · rename_i b c _ _
    have : b = c := by simpa using h
    subst this
    exact s_cst pe_bl fun F io => by simp only [Rep]
  · rename_i a b _ _
    have : a = b := by simpa using h
    subst this
    exact s_cst pe_int fun F io => by simp only [Rep]
  · rename_i a b _ _
    have : a = b := by simpa using h
    subst this
    exact s_cst pe_str fun F io => by simp only [Rep]
  · cases h
theorem mBin_of (G : Gx d n s X) {o : BOp} {op : Operator} (h : mBin o op = true) : OpR X (binaryOp op) (rOf d (binD o)) := by
  cases o <;> cases op <;> first | (cases h; done) | exact op_addD G.K | exact op_subD | exact op_mulD G.K | exact op_fdvD | exact op_modD | exact op_powD
theorem mCmp_of (G : Gx d n s X) (TF : TbF d) {o : COp} {op : CmpOp} (h : mCmp o op = true) : CmpOk X d (run d.T n) W op o ∧ o.plain = true := by
  cases o <;> cases op <;> first | (cases h; done) | exact ⟨cmp_eq G.toGd (by have := G.hu; omega) TF.eqf, rfl⟩ | exact ⟨cmp_ne G.K (by have := G.hu; omega), rfl⟩ | exact ⟨cmp_eqp G.K (by have := G.hu; omega), rfl⟩ | exact ⟨cmp_lt, rfl⟩ | exact ⟨cmp_le, rfl⟩ | exact ⟨cmp_gt, rfl⟩ | exact ⟨cmp_ge, rfl⟩
theorem Gx.bmg (G : Gx d n s X) (TF : TbF d) {x : Str} (h : x ∈ blt) : X.mg x = none := by rw [G.mg]; exact TF.blt x h
theorem mTy_of (G : Gx d n s X) (TF : TbF d) {t : Ty} {e : Expr} (h : mTy d.T s t e = true) : ∃ c u, ClE X e c u ∧ IsF d t u ∧ nst e = true := by
  unfold mTy at h
  split at h
  · simp only [Bool.and_eq_true, decide_eq_true_eq] at h
    obtain ⟨rfl, h⟩ := h
    exact ⟨_, _, ⟨pe_bltn (v := .ty "int") (u := .type "int") (G.gl h) (G.bmg TF (by decide)) PyProof.Rows.boot_int rfl, .ty _⟩, TF.tys "int" _ (by simp), rfl⟩
  · simp only [Bool.and_eq_true, decide_eq_true_eq] at h
    obtain ⟨rfl, h⟩ := h
    exact ⟨_, _, ⟨pe_bltn (v := .ty "bool") (u := .type "bool") (G.gl h) (G.bmg TF (by decide)) (by decide +kernel) rfl, .ty _⟩, TF.tys "bool" _ (by simp), rfl⟩
  · simp only [Bool.and_eq_true, decide_eq_true_eq] at h
    obtain ⟨rfl, h⟩ := h
    exact ⟨_, _, ⟨pe_bltn (v := .ty "str") (u := .type "str") (G.gl h) (G.bmg TF (by decide)) PyProof.Rows.boot_str rfl, .ty _⟩, TF.tys "str" _ (by simp), rfl⟩
  · simp only [Bool.and_eq_true, decide_eq_true_eq] at h
    obtain ⟨rfl, h⟩ := h
    exact ⟨_, _, ⟨pe_bltn (v := .ty "tuple") (u := .type "tuple") (G.gl h) (G.bmg TF (by decide)) PyProof.Rows.boot_tuple rfl, .ty _⟩, TF.tys "tuple" _ (by simp), rfl⟩
  · simp only [Bool.and_eq_true, decide_eq_true_eq] at h
    obtain ⟨rfl, h⟩ := h
    exact ⟨_, _, ⟨pe_bltn (v := .ty "list") (u := .type "list") (G.gl h) (G.bmg TF (by decide)) PyProof.Rows.boot_list rfl, .ty _⟩, TF.tys "list" _ (by simp), rfl⟩
  · rename_i c x _
    simp only [Bool.and_eq_true, decide_eq_true_eq] at h
    obtain ⟨⟨⟨rfl, h⟩, hc⟩, hd⟩ := h
    exact ⟨_, _, ⟨pe_glob (v := .ref (d.ca c)) (G.gl h) (by rw [G.mg]; exact (TF.clF c hc).mg) rfl (dbg_of hd).1, .own _⟩, TF.cls c hc, rfl⟩
  · cases h
theorem PT_of_PW {e : Expr} {t : TT} (h : PW X e t) : PT X e t := ⟨fun pins s sg H Q I q => h.run (eval e X.env) pins s sg H Q I q⟩
end
end Rb

/-! RbHot: defs that a clause's suite may call (tests of classes, plain ==, returns), and a clause that returns such a call. Own work. -/
namespace Rb
open PySem PySem.Spec PyProof.Rows
open L2 hiding XE Takes CX passes_call takes_of MkP PMk ps_raise mk_of ps_try_as HdsOk ps_try_many pmk_own passAt St
open L2N
/-- what such a body's value is made of -/
def hE (T : Tb) : Nat → SC → P → Expr → Bool
  | 0, _, _, _ => false
  | n + 1, s, p, e => match p, e with
    | .nm i, .Name x _ => nmB s i x
    | .cst d, e => mCst d e
    | .cmp .eqp a b, .Compare ea [.Eq] [eb] _ => hE T n s a ea && hE T n s b eb && !behindInMarks .Eq eb
    | .isn ng a, .Compare ea [op] [.Constant .none _ _] _ => decide (op = isOp ng) && hE T n s a ea
    | .and_ a b, .BoolOp .And (ea :: eb :: es) ps => hE T n s a ea && (match es with | [] => hE T n s b eb | _ => hE T n s b (.BoolOp .And (eb :: es) ps))
    | .or_ a b, .BoolOp .Or (ea :: eb :: es) ps => hE T n s a ea && (match es with | [] => hE T n s b eb | _ => hE T n s b (.BoolOp .Or (eb :: es) ps))
    | .isi a [t], .Call (.Name x _) [ea, ec] [] _ => decide (x = "isinstance") && glB s.sc x && nst ea && nst ec && hE T n s a ea && mTy T s t ec
    | _, _ => false
/-- its tests -/
def hT (T : Tb) : Nat → SC → P → Expr → Bool
  | 0, _, _, _ => false
  | n + 1, s, p, e => match p, e with
    | .isn ng a, .Compare ea [op] [.Constant .none _ _] _ => decide (op = isOp ng) && hE T n s a ea
    | .or_ a b, .BoolOp .Or [ea, eb] _ => hT T n s a ea && hT T n s b eb
    | p, .Call f as ks q => hE T n s p (.Call f as ks q)
    | _, _ => false
mutual
def hSt (T : Tb) : Nat → SC → S → Stmt → Bool
  | 0, _, _, _ => false
  | n + 1, s, p, stm => match p, stm with
    | .ife c a b, .If ec sa sb _ => hT T n s c ec && hBk T n s a sa && hBk T n s b sb
    | .ret p, .Return (some e) _ => hE T n s p e
    | .bad, _ => true
    | _, _ => false
def hBk (T : Tb) : Nat → SC → List S → List Stmt → Bool
  | 0, _, _, _ => false
  | n + 1, s, b, sts => match b, sts with
    | [], [] => true
    | p :: b, stm :: rest => hSt T n s p stm && hBk T n s b rest
    | _, _ => false
end
/-- the context of such a body -/
structure Gh (d : Wd) (s : SC) (X : Cx) : Prop where
  K : X.K = d.K
  mg : X.mg = d.mg
  un : X.A.units + 70 < cLine
  sc : X.env.scope = s.sc
  nN : X.N = s.N
section
variable {X : Cx} {d : Wd} {s : SC} {W : WX} {C : CallT} {x : Str} {i n k : Nat}
theorem Gh.gl (G : Gh d s X) (h : glB s.sc x = true) : Gl X x := by
  unfold glB at h
  unfold Gl Env.kindOf
  rw [G.sc]
  split at h
  · assumption
  · cases h
theorem Gh.nm (G : Gh d s X) (h : nmB s i x = true) : X.N[i]? = some x ∧ Vis X.env.scope x ∧ (x == ("__debug__" : Str)) = false ∧ (x == ("__classdict__" : Str)) = false := by
  unfold nmB at h
  simp only [Bool.and_eq_true, decide_eq_true_eq] at h
  obtain ⟨⟨h1, h2⟩, h3⟩ := h
  exact ⟨by rw [G.nN]; exact h1, by rw [G.sc]; exact visB_of h2, dbg_of h3⟩
theorem Gh.bmg (G : Gh d s X) (TF : TbF d) {x : Str} (h : x ∈ blt) : X.mg x = none := by rw [G.mg]; exact TF.blt x h
theorem hTy_of (G : Gh d s X) (TF : TbF d) {t : Ty} {e : Expr} (h : mTy d.T s t e = true) : ∃ c u, ClE X e c u ∧ IsF d t u := by
  unfold mTy at h
  split at h
  · simp only [Bool.and_eq_true, decide_eq_true_eq] at h
    obtain ⟨rfl, h⟩ := h
    exact ⟨_, _, ⟨pe_bltn (v := .ty "int") (u := .type "int") (G.gl h) (G.bmg TF (by decide)) PyProof.Rows.boot_int rfl, .ty _⟩, TF.tys "int" _ (by simp)⟩
  · simp only [Bool.and_eq_true, decide_eq_true_eq] at h
    obtain ⟨rfl, h⟩ := h
    exact ⟨_, _, ⟨pe_bltn (v := .ty "bool") (u := .type "bool") (G.gl h) (G.bmg TF (by decide)) (by decide +kernel) rfl, .ty _⟩, TF.tys "bool" _ (by simp)⟩
  · simp only [Bool.and_eq_true, decide_eq_true_eq] at h
    obtain ⟨rfl, h⟩ := h
    exact ⟨_, _, ⟨pe_bltn (v := .ty "str") (u := .type "str") (G.gl h) (G.bmg TF (by decide)) PyProof.Rows.boot_str rfl, .ty _⟩, TF.tys "str" _ (by simp)⟩
  · simp only [Bool.and_eq_true, decide_eq_true_eq] at h
    obtain ⟨rfl, h⟩ := h
    exact ⟨_, _, ⟨pe_bltn (v := .ty "tuple") (u := .type "tuple") (G.gl h) (G.bmg TF (by decide)) PyProof.Rows.boot_tuple rfl, .ty _⟩, TF.tys "tuple" _ (by simp)⟩
  · simp only [Bool.and_eq_true, decide_eq_true_eq] at h
    obtain ⟨rfl, h⟩ := h
    exact ⟨_, _, ⟨pe_bltn (v := .ty "list") (u := .type "list") (G.gl h) (G.bmg TF (by decide)) PyProof.Rows.boot_list rfl, .ty _⟩, TF.tys "list" _ (by simp)⟩
  · rename_i c x _
    simp only [Bool.and_eq_true, decide_eq_true_eq] at h
    obtain ⟨⟨⟨rfl, h⟩, hc⟩, hd⟩ := h
    exact ⟨_, _, ⟨pe_glob (v := .ref (d.ca c)) (G.gl h) (by rw [G.mg]; exact (TF.clF c hc).mg) rfl (dbg_of hd).1, .own _⟩, TF.cls c hc⟩
  · cases h
theorem hE_of (TF : TbF d) (G : Gh d s X) : ∀ (k : Nat) (p : P) (e : Expr), hE d.T k s p e = true → PE X e (teI d C W p)
  | 0, _, _, h => by simp only [hE] at h; cases h
  | k + 1, p, e, h => by
    have I := hE_of TF G k
    simp only [hE] at h
    split at h
    · obtain ⟨h1, h2, h3, h4⟩ := G.nm h
      exact s_nm h1 h2 h3 h4
    · exact mCst_of h
    · simp only [Bool.and_eq_true, Bool.not_eq_true'] at h
      obtain ⟨⟨h1, h2⟩, h3⟩ := h
      exact s_cmp rfl (cmp_eqp G.K (by have := G.un; omega)) (I _ _ h1) (I _ _ h2) h3
    · simp only [Bool.and_eq_true, decide_eq_true_eq] at h
      obtain ⟨rfl, h2⟩ := h
      exact s_isn (I _ _ h2)
    · simp only [Bool.and_eq_true] at h
      obtain ⟨h1, h2⟩ := h
      refine s_and (I _ _ h1) ?_
      split at h2
      · exact s_one (I _ _ h2)
      · exact I _ _ h2
    · simp only [Bool.and_eq_true] at h
      obtain ⟨h1, h2⟩ := h
      refine s_or (I _ _ h1) ?_
      split at h2
      · exact s_one (I _ _ h2)
      · exact I _ _ h2
    · simp only [Bool.and_eq_true, decide_eq_true_eq] at h
      obtain ⟨⟨⟨⟨⟨rfl, h2⟩, h3⟩, h4⟩, h5⟩, h6⟩ := h
      obtain ⟨c, u, hc, hf⟩ := hTy_of G TF h6
      exact s_isi1 G.K TF.clF (G.gl h2) (G.bmg TF (by decide)) h3 h4 (I _ _ h5) hc hf
    · cases h
theorem hT_of (TF : TbF d) (G : Gh d s X) : ∀ (k : Nat) (p : P) (e : Expr), hT d.T k s p e = true → PT X e (ttI d C W p)
  | 0, _, _, h => by simp only [hT] at h; cases h
  | k + 1, p, e, h => by
    have I := hT_of TF G k
    simp only [hT] at h
    split at h
    · simp only [Bool.and_eq_true, decide_eq_true_eq] at h
      obtain ⟨rfl, h2⟩ := h
      exact t_isn (hE_of TF G k _ _ h2)
    · simp only [Bool.and_eq_true] at h
      obtain ⟨h1, h2⟩ := h
      exact PT_of_PW (w_or (I _ _ h1) (w_or1 (I _ _ h2)))
    · exact t_val (hE_of TF G k _ _ h) (fun _ => rfl)
    · cases h
theorem h_bad {stm : Stmt} : PS X stm (tsI d C W .bad) := ⟨fun _ _ _ _ _ _ h => by
  obtain ⟨_, _, _, _, _, _, _, _, q⟩ := h
  exact (show False from q).elim⟩
structure HOkk (d : Wd) (C : CallT) (W : WX) (s : SC) (X : Cx) (k : Nat) : Prop where
  A : ∀ (p : S) (stm : Stmt), hSt d.T k s p stm = true → PS X stm (tsI d C W p)
  B : ∀ (b : List S) (sts : List Stmt), hBk d.T k s b sts = true → PSs X sts (tbI d C W b)
theorem hOk (TF : TbF d) (G : Gh d s X) : ∀ k, HOkk d C W s X k
  | 0 => ⟨fun _ _ h => (by simp only [hSt] at h; cases h), fun _ _ h => (by simp only [hBk] at h; cases h)⟩
  | k + 1 => by
    have J := hOk TF G k
    refine ⟨fun p stm h => ?_, fun b sts h => ?_⟩
    · simp only [hSt] at h
      split at h
      · simp only [Bool.and_eq_true] at h
        exact s_ife (hT_of TF G k _ _ h.1.1) (J.B _ _ h.1.2) (J.B _ _ h.2)
      · exact s_ret (hE_of TF G k _ _ h)
      · exact h_bad
      · cases h
    · simp only [hBk] at h
      split at h
      · exact b_nil
      · simp only [Bool.and_eq_true] at h
        exact b_cons (J.A _ _ h.1) (J.B _ _ h.2)
      · cases h
end
/-! ### a clause that returns a call -/
/-- what such a clause gives: a hot def's call, of the error's field and a number -/
def tsH (d : Wd) (n i : Nat) (f : Str) (g : Nat) (z : Int) (a : Addr) (cls : Value) (dd : Option Addr) : TS := fun De sg H => ∃ c, (cls = .ref (d.ca c) ∧ d.T.efld c = some f) ∧
  tSeq (tRet (tCallS (spI d n g) (fun _ _ _ _ => False) (tCons (tFld d i f a cls dd c) (tCons (tC (.int z)) tNil)))) tNext De sg H
section
variable {X : Cx} {d : Wd} {W : WX} {pos pos' rp np vp ap cp xp : Pos} {x n x2 : Str} {i h ck m : Nat} {f : Str}
theorem blk_call {C : CallT} {e1 : Env} {M1 : Sto} {c g : Nat} {v : D} {z : Int} (F0 : Out → Prop) (hs : ¬ F0 .stuck) (h : F0 (match blk d.T C [.ret (.call g [.exat i f, .cst (.int z)])] (List.set e1 i (.val (.exn c v))) M1 with | .ret x M2 => .ret x M2 | _ => .stuck)) :
    i < e1.length ∧ d.T.efld c = some f ∧ F0 (match C g [v, .int z] M1 with | .ok w M2 => .ret w M2 | _ => .stuck) := by
  by_cases hi : i < e1.length
  · have q : (List.set e1 i (Slot.val (.exn c v)))[i]? = some (.val (.exn c v)) := List.getElem?_set_self hi
    simp only [blk, st, ev, evs, Res.bind, q] at h
    by_cases hf : d.T.efld c = some f
    · rw [if_pos hf] at h
      refine ⟨hi, hf, ?_⟩
      dsimp only [ofR] at h
      cases hr : C g [v, .int z] M1 with
      | ok w M2 => rw [hr] at h; exact h
      | exc c2 w M2 => rw [hr] at h; exact absurd h hs
      | stuck => rw [hr] at h; exact absurd h hs
    · rw [if_neg hf] at h
      exact absurd h hs
  · have q : (List.set e1 i (Slot.val (.exn c v)))[i]? = none := by rw [List.getElem?_eq_none]; rw [List.length_set]; omega
    simp only [blk, st, ev, evs, Res.bind, q] at h
    exact absurd h hs
theorem s_tryH {b : List S} {body : List Stmt} {g : Nat} {fd : FD} {z : Int} (hs : X.stack = X.env :: X.outer) (hfr : X.env.frame = some X.env.locals) (hK : X.K = d.K) (hmg : X.mg = d.mg) (hnd : X.N.Nodup) (tk : Takes X W)
    (er : ∀ c f, d.T.efld c = some f → ErF d c f) (hN : X.N[i]? = some n) (hln : X.env.kindOf n = some .local) (hv : Vis X.env.scope n) (h1 : (n == ("__debug__" : Str)) = false) (h2 : (n == ("__classdict__" : Str)) = false)
    (hg : Gl X x) (hdb : (x == ("__debug__" : Str)) = false) (hm : d.mg x = some (.ref (d.ca h))) (hx : ∀ c f, d.T.efld c = some f → PySem.W.exmOne d.K (.ref (d.ca c)) (.ref (d.ca h)) = some (decide (c = h ∨ d.T.base c = some h)))
    (hb : ∀ (W' : WX) (pn : List (Addr × Obj)) (xe : Value → Shared → Prop), Takes (X.tr pn xe) W' → PassesOwn (model X.prog X.w) X.A X.env xe → PSs (X.tr pn xe) body (tbI d (run d.T m) W' b))
    (rm : Room (2 * m + 1) X.A) (FF : FnF d g fd) (hg2 : Gl X x2) (hdb2 : (x2 == ("__debug__" : Str)) = false) (hm2 : d.mg x2 = some (.ref (d.fa g)))
    (Fh : L2H.FnH X.prog X.w X.K X.mg X.base (L2N.CX X.prog X.w) (2 * m) (d.fa g) (d.fdt g) (fd.ps.map Str.ofString) (spI d m g)) :
    PS X (.Try body [.ExceptHandler (some (.Name x np)) (some n) [.Return (some (.Call (.Name x2 xp) [.Attribute (.Name n vp) f ap, .Constant (.int z) ck cp] [] pos2)) rp] pos'] [] [] pos) (tsI d (run d.T m) W (.try_ b [(h, some i, [.ret (.call g [.exat i f, .cst (.int z)])])])) := by
  have su : ∀ (a : Addr) (oe : Obj) (cls : Value) (dd : Option Addr) (pn : List (Addr × Obj)), Zn cls dd oe → (∃ vs, oe.data = .fields vs) → PSs (X.suite a ((a, oe) :: pn)) [.Return (some (.Call (.Name x2 xp) [.Attribute (.Name n vp) f ap, .Constant (.int z) ck cp] [] pos2)) rp] (tsH d m i f g z a cls dd) := by
    intro a oe cls dd pn hz hfv
    refine pss_ex fun c => pss_and fun hc => pss_cons (ps_ret ?_) pss_nil
    have P1 := pe_fld (a := a) (vp := vp) (ap := ap) hK er hN hv h1 h2 hz.zc hfv (pn := pn) hc.2
    have hot : L2H.HotC (X.suite a ((a, oe) :: pn)) := by
      obtain ⟨vs, hvs⟩ := hfv
      exact ⟨(a, oe), ⟨rfl, vs, hvs, hz.2.2 vs hvs⟩, List.mem_cons_self⟩
    exact L2H.pe_callH (X := X.suite a ((a, oe) :: pn)) (E := fun _ _ _ _ => False) Fh ⟨by have := rm.dp; show X.A.depth + 3 * (2 * m) + 5 < _; omega, by have := rm.un; show X.A.units + 16 * (2 * m) + 200 < _; omega⟩ hot hg2 (by show X.mg x2 = _; rw [hmg]; exact hm2) (by show PySem.W.keepIn X.K _ = true; rw [hK]; exact FF.keep) (by show Binds X.K _ _ _; rw [hK]; exact FF.bind)
      (fun σ pins H s e s' I zz => by obtain ⟨_, _, _, _, _, _, _, _, _, _, _, _, zz⟩ := zz; exact zz.elim) (pa_cons P1 (pa_cons pe_int pa_nil)) hdb2
  refine PS_imp (ps_try_as (tb := fun W' => tbI d (run d.T m) W' b) (ts := tsH d m i f g z) (Wout := W) (c := .ref (d.ca h)) hs hfr hnd hN hln ⟨hg, hdb, .inl (by rw [hmg]; exact hm)⟩ tk hb su) fun De sg H q => ?_
  obtain ⟨Fb, iob, Hb, F, io, e, M, s, q⟩ := q
  refine ⟨Fb, iob, Hb, F, io, e, M, s, ?_⟩
  simp only [st] at q
  cases hbk : blk d.T (run d.T m) b e M with
  | next e1 M1 => rw [hbk] at q; exact q
  | brk e1 M1 => rw [hbk] at q; exact q
  | cnt e1 M1 => rw [hbk] at q; exact q
  | ret v M1 => rw [hbk] at q; exact q
  | stuck => rw [hbk] at q; exact q
  | exc c v e1 M1 =>
    rw [hbk] at q
    have q : SatO d W Fb iob Hb F io De (hand d.T (run d.T m) [(h, some i, [.ret (.call g [.exat i f, .cst (.int z)])])] c v e1 M1) := q
    intro F1 io1 sg1 H1 cls dd s1 sub pre ex
    obtain ⟨rfl, f0, a0, v0, hf0, rfl, hF, hrep⟩ := ex
    rw [hK]
    refine ⟨decide (c = h ∨ d.T.base c = some h), hx c f0 hf0, fun hb => fun a hna => ?_, fun hb => ?_⟩
    · have hb := of_decide_eq_true hb
      simp only [hand] at q
      rw [if_pos hb] at q
      obtain ⟨hi, hf, q2⟩ := blk_call (SatO d W Fb iob Hb F io De) (fun z => z) q
      have : f0 = f := by rw [hf] at hf0; cases hf0; rfl
      subst this
      have hl : i < sg1.length := by rw [← s1.rl.len]; exact hi
      refine ⟨c, ⟨rfl, hf⟩, ?_⟩
      show tFld d i f0 a (.ref (d.ca c)) (some a0) c (sg1.set i (some (.ref a))) H1 _
      refine ⟨.ref a, List.getElem?_set_self hl, rfl, rfl, a0, [(f0, v0)], v0, rfl, s1.rl.sub _ _ hF, by simp [List.lookup], ?_⟩
      show spI d m g [v0, .int z] H1 _ _
      refine ⟨F1, io1, [v, .int z], M1, s1.rl.sub, s1.rl.cl, Reps.cons hrep (Reps.cons (by simp only [Rep]) Reps.nil), ?_⟩
      cases hr : run d.T m g [v, .int z] M1 with
      | ok w M2 =>
        rw [hr] at q2
        intro F' io' H' u x1 s2 c2 r2
        exact q2 F' io' H' u (s1.ex.trans x1) s2 c2 r2
      | exc _ _ _ => rw [hr] at q2; exact q2.elim
      | stuck => rw [hr] at q2; exact q2.elim
    · have hb := of_decide_eq_false hb
      simp only [hand] at q
      rw [if_neg hb] at q
      exact q F1 io1 sg1 H1 _ _ s1 sub pre ⟨rfl, f0, a0, v0, hf0, rfl, hF, hrep⟩
end
end Rb

/-! RbHotK: a clause whose suite asks for the caught error's class, walks over the answers and returns a call. Own work. -/
namespace Rb
open PySem PySem.Spec PyProof.Rows
open L2 hiding XE Takes CX passes_call takes_of MkP PMk ps_raise mk_of ps_try_as HdsOk ps_try_many pmk_own passAt St
open L2N
/-! ### isinstance of the caught error -/
def rIsX (K : PySem.W.Frag) (D a : Addr) (dd : Option Addr) : List V → Hp → VK → Prop := fun xs H Q => ∃ (c : V) (cv : Value) (b : Bool), xs = [.ref a, c] ∧ (∀ u, RelV c u → u = cv) ∧ PySem.W.kitOne K (.ref D) cv = some b ∧ (∃ d0 fs, dd = some d0 ∧ H d0 = some (.xd fs)) ∧ Q (.bl b) H
theorem call_isX {X : Cx} {a D : Addr} {oe : Obj} {dd : Option Addr} {pn : List (Addr × Obj)} (C : ExcK X.K D) (hz : Zc (.ref D) dd oe) (hf : ∃ vs, oe.data = .fields vs) : CallR (X.suite a ((a, oe) :: pn)) (.builtin "isinstance") (rIsX X.K D a dd) := by
  intro pins s σ H xs us Q I r h
  obtain ⟨c, cv, b, rfl, hcv, e, ⟨d0, fs, hd0, hH⟩, q⟩ := h
  cases r with
  | cons rx rr =>
    cases rr with
    | cons rt rr =>
      cases rr
      cases rx
      have ec := hcv _ rt
      subst ec
      subst hd0
      obtain ⟨hget, _⟩ := I.pin (a, oe) (List.mem_append.mpr (.inl List.mem_cons_self))
      obtain ⟨vs, hv⟩ := hf
      have hx : ObjOk X.prog X.w H s.heap d0 (.xd fs) := I.hok d0 _ hH
      obtain ⟨mA, hns, hr⟩ := hx
      obtain ⟨od, ho, hl⟩ := lookIn_ns hns
      have J : PySem.W.InstAt s.heap a oe D (some od) := ⟨hget, hz.1, by unfold PySem.W.notCls; rw [hv] <;> rfl, by rw [hz.2]; exact ho⟩
      exact PySem.W.kia_one (kitx_err C) I.kIn J e (fun z => nomatch z) fun tk => ⟨.bl b, H, I.kept (t' := tk) fun _ _ z => z, rfl, q⟩
/-- .. at its name -/
def tIX (i : Nat) (a : Addr) (dd : Option Addr) (b : Bool) : TE := fun sg H Q => sg[i]? = some (some (.ref a)) ∧ (∃ d0 fs, dd = some d0 ∧ H d0 = some (.xd fs)) ∧ Q (.bl b) H
theorem pe_isX {X : Cx} {a D : Addr} {oe : Obj} {dd : Option Addr} {pn : List (Addr × Obj)} {n q : Str} {i : Nat} {ec : Expr} {cv : V} {u : Value} {b : Bool} {p1 p2 p3 : Pos} (hq : q = "isinstance") (C : ExcK X.K D) (hz : Zc (.ref D) dd oe) (hf : ∃ vs, oe.data = .fields vs)
    (hg : Gl X q) (hm : X.mg q = none) (hN : X.N[i]? = some n) (hv : Vis X.env.scope n) (h1 : (n == ("__debug__" : Str)) = false) (h2 : (n == ("__classdict__" : Str)) = false) (hn2 : nst ec = true)
    (hc : PE (X.suite a ((a, oe) :: pn)) ec (tC cv)) (hu : ∀ w, RelV cv w → w = u) (hk : PySem.W.kitOne X.K (.ref D) u = some b) :
    PE (X.suite a ((a, oe) :: pn)) (.Call (.Name q p1) [.Name n p2, ec] [] p3) (tIX i a dd b) := by
  subst hq
  refine PE_imp (pe_callB (X := X.suite a ((a, oe) :: pn)) (call_isX C hz hf) hg hm (by decide +kernel) (a_two (pe_var (X := X.suite a ((a, oe) :: pn)) hN hv h1 h2) hc rfl hn2) (by decide) (by decide) (star_ns rfl) (star_nsts (by simp [nsts, hn2]))) fun sg H Q h => ?_
  obtain ⟨e1, e2, q⟩ := h
  exact ⟨.ref a, e1, cv, u, b, rfl, hu, hk, e2, q⟩
/-! ### the suite's text -/
/-- by slots: the error, its number's name, the value, the list, the counter; the def called; the classes -/
structure KS where
  i : Nat
  kd : Nat
  vl : Nat
  ow : Nat
  kk : Nat
  g : Nat
  cs : List Nat
def cnB (T : Tb) (s : SC) (x : Str) (h : Nat) : Bool := decide (x = Str.ofString (T.cname h)) && glB s.sc x && !isDbg x && T.isE h
def bnB (s : SC) (x : Str) (n : String) : Bool := decide (x = Str.ofString n) && glB s.sc x
def isB1 (s : SC) (q : Str) : Bool := decide (q = "isinstance") && glB s.sc q
def kSu (T : Tb) (s : SC) (q : KS) : List Stmt → Bool
  | [.Assign [.Name o1 op] (.List [.Call (.Name q1 _) [.Name n1 _, .Name c1 _] [] _, .Call (.Name q2 _) [.Name n2 _, .Name c2 _] [] _, .Call (.Name q3 _) [.Name n3 _, .Name c3 _] [] _, .Call (.Name q4 _) [.Name n4 _, .Name c4 _] [] _] _) _,
      .For (.Name k1 _) (.Call (.Name r1 _) [.Constant (.int z4) _ _] [] _) [.If (.Compare (.Subscript (.Name o2 _) (.Name k2 _) _) [.NotEq] [.Compare (.Name k3 k3p) [.Eq] [.Name d1 d1p] k3q] _) [.Return (some (.Constant (.bool b1) _ _)) _] [] _] [] _,
      .If (.BoolOp .Or [.Call (.Name q5 _) [.Name n5 _, .Name v1 _] [] _, .Call (.Name q6 _) [.Name n6 _, .Name v2 _] [] _, .Call (.Name q7 _) [.Name n7 _, .Name v3 _] [] _] _) [.Return (some (.Constant (.bool b2) _ _)) _] [] _,
      .Return (some (.Call (.Name x2 _) [.IfExp (.Compare (.Name d2 _) [.Eq] [.Constant (.int z3) z3k z3p] _) (.Attribute (.Name n8 _) f1 _) (.Attribute (.Name n9 _) f2 _) _, .Name w1 _] [] _)) _] =>
    (isB1 s q1 && isB1 s q2 && isB1 s q3 && isB1 s q4 && isB1 s q5 && isB1 s q6 && isB1 s q7)
    && (nmB s q.i n1 && nmB s q.i n2 && nmB s q.i n3 && nmB s q.i n4 && nmB s q.i n5 && nmB s q.i n6 && nmB s q.i n7 && nmB s q.i n8 && nmB s q.i n9)
    && (match q.cs with | [h1, h2, h3, h4] => cnB T s c1 h1 && cnB T s c2 h2 && cnB T s c3 h3 && cnB T s c4 h4 | _ => false)
    && (bnB s v1 "ValueError" && bnB s v2 "LookupError" && bnB s v3 "ArithmeticError")
    && (tgB s q.ow o1 && tgB s q.kk k1 && nmB s q.ow o2 && nmB s q.kk k2 && nmB s q.kk k3 && nmB s q.kd d1 && nmB s q.kd d2 && nmB s q.vl w1)
    && (decide (r1 = "range") && glB s.sc r1 && decide (z4 = 4) && decide (z3 = 3) && !b1 && !b2 && decide (f1 = "word") && decide (f2 = "at"))
    && (!behindInMarks .NotEq (.Compare (.Name k3 k3p) [.Eq] [.Name d1 d1p] k3q) && !behindInMarks .Eq (.Name d1 d1p) && !behindInMarks .Eq (.Constant (.int z3) z3k z3p))
    && (fnB T s q.g x2 && T.hot q.g)
    && decide (q.i ≠ q.ow ∧ q.i ≠ q.kk ∧ q.i ≠ q.kd ∧ q.i ≠ q.vl ∧ q.ow ≠ q.kk ∧ q.ow ≠ q.kd ∧ q.ow ≠ q.vl ∧ q.kk ≠ q.kd ∧ q.kk ≠ q.vl)
  | _ => false
/-! ### what stands through the suite -/
/-- few names known -/
def eFew (L : Nat) (l : List (Nat × D)) : Env := (List.range L).map fun j => match l.lookup j with | some x => .val x | none => .un
theorem eFew_at {L : Nat} {l : List (Nat × D)} {j : Nat} {x : Slot} (h : (eFew L l)[j]? = some x) : (∃ y, x = .val y ∧ l.lookup j = some y) ∨ x = .un := by
  unfold eFew at h
  rw [List.getElem?_map] at h
  obtain ⟨k, h1, h2⟩ := Option.map_eq_some_iff.mp h
  rcases Nat.lt_or_ge j L with q | q
  · rw [List.getElem?_range q] at h1
    cases h1
    cases hl : l.lookup j with
    | none => rw [hl] at h2; exact .inr h2.symm
    | some y => rw [hl] at h2; exact .inl ⟨y, h2.symm, rfl⟩
  · rw [List.getElem?_eq_none (by simpa using q)] at h1; cases h1
theorem eFew_get {L : Nat} {l : List (Nat × D)} {j : Nat} {x : D} (hj : j < L) (h : l.lookup j = some x) : (eFew L l)[j]? = some (.val x) := by
  unfold eFew
  rw [List.getElem?_map, List.getElem?_range hj]
  simp [h]
theorem rl_few {d : Wd} {F : Hp} {io : List Addr} {sg : L2.St} {H : Hp} {M : Sto} {L : Nat} {l : List (Nat × D)} (s : Sub F H) (c : Cels d F io H M) (hL : L = sg.length) (h : ∀ j x, l.lookup j = some x → ∃ v, sg[j]? = some (some v) ∧ Rep d F io x v) : Rl d F io sg H (eFew L l) M where
  sub := s
  cl := c
  len := by unfold eFew; rw [List.length_map, List.length_range, hL]
  val := fun j x q => by
    rcases eFew_at q with ⟨y, h1, h2⟩ | h1
    · cases h1; exact .inr (h j _ h2)
    · cases h1
  own := fun j l q => by
    rcases eFew_at q with ⟨y, h1, h2⟩ | h1
    · cases h1
    · cases h1
  dis := fun j k l m a q => by
    rcases eFew_at q with ⟨y, h1, h2⟩ | h1
    · cases h1
    · cases h1
structure Kst (d : Wd) (Fb : Hp) (iob : List Addr) (Hb F1 : Hp) (io1 : List Addr) (M : Sto) (N0 : Nat) (q : KS) (a p : Addr) (x : Int) (u : V) (bs : List V) (sg : L2.St) (H : Hp) : Prop where
  ex : ∃ F io, Ex Fb iob Hb F io H ∧ Sub F H ∧ Cels d F io H M ∧ Sub F1 F ∧ Pre io1 io ∧ F p = some (.lst bs)
  len : sg.length = N0
  i : sg[q.i]? = some (some (.ref a))
  kd : sg[q.kd]? = some (some (.int x))
  vl : sg[q.vl]? = some (some u)
  ow : sg[q.ow]? = some (some (.ref p))
def fldO (d : Wd) (i : Nat) (w f : Str) (a : Addr) (cls : Value) (dd : Option Addr) (c : Nat) : TE := if f = w then tFld d i w a cls dd c else fun _ _ _ => False
abbrev pcK (q : KS) : P := .cmp .ne (.ix (.nm q.ow) (.nm q.kk)) (.cmp .eqp (.nm q.kk) (.nm q.kd))
abbrev pdK (q : KS) : P := .cmp .eqp (.nm q.kd) (.cst (.int 3))
abbrev bcK (T : Tb) (c h : Nat) : Bool := decide (c = h ∨ T.base c = some h)
/-- the transformer of such a suite -/
def tsK (d : Wd) (m : Nat) (q : KS) (a : Addr) (cls : Value) (dd : Option Addr) : TS := fun De sg H => ∃ c, ∃ f, (cls = .ref (d.ca c) ∧ d.T.efld c = some f ∧ d.T.xk = true) ∧ ∃ h1 h2 h3 h4, q.cs = [h1, h2, h3, h4] ∧
  tSeq (tAsg (tLst (tCons (tIX q.i a dd (bcK d.T c h1)) (tCons (tIX q.i a dd (bcK d.T c h2)) (tCons (tIX q.i a dd (bcK d.T c h3)) (tCons (tIX q.i a dd (bcK d.T c h4)) tNil))))) (gName q.ow))
    (tSeq (tFor (iRng1 (tCons (tC (.int 4)) tNil)) (gName q.kk) (tSeq (tIfS (ttI d (run d.T m) W0 (pcK q)) (tSeq (tRet (tC (.bl false))) tNext) tNext) tNext))
      (tSeq (tIfS (tOr (tB (tIX q.i a dd false)) (tOr (tB (tIX q.i a dd false)) (tB (tIX q.i a dd false)))) (tSeq (tRet (tC (.bl false))) tNext) tNext)
        (tSeq (tRet (tCallS (spI d m q.g) (fun _ _ _ _ => False) (tCons (tIf (ttI d (run d.T m) W0 (pdK q)) (fldO d q.i "word" f a cls dd c) (fldO d q.i "at" f a cls dd c)) (tCons (tVar q.vl) tNil)))) tNext))) De sg H
theorem pe_no {X : Cx} {e : Expr} : PE X e (fun _ _ _ => False) := ⟨fun _ _ _ _ _ _ h => h.elim⟩
theorem bltV {n : String} (h : n ∈ xnL) : bootBuiltins (Str.ofString n) = some (.type n) ∧ Str.ofString n ≠ "__name__" ∧ (Str.ofString n == ("__debug__" : Str)) = false := by
  simp only [xnL, List.mem_cons, List.not_mem_nil, or_false] at h
  rcases h with rfl | rfl | rfl <;> decide +kernel
section
variable {X : Cx} {d : Wd} {m : Nat} {s : SC} {q : KS}
theorem kSu_of (TF : TbF d) (G : Gx d m s X) (hfc : s.fc = none) {fd : FD} (FF : FnF d q.g fd) (hfd : d.T.fn q.g = some fd) (Fh : L2H.FnH X.prog X.w X.K X.mg X.base (L2N.CX X.prog X.w) (2 * m) (d.fa q.g) (d.fdt q.g) (fd.ps.map Str.ofString) (spI d m q.g))
    (hgl : ∀ x, fnB d.T s q.g x = true → d.mg x = some (.ref (d.fa q.g)) ∧ glB s.sc x = true ∧ (x == ("__debug__" : Str)) = false) {su : List Stmt} (k : kSu d.T s q su = true)
    {a : Addr} {oe : Obj} {cls : Value} {dd : Option Addr} {pn : List (Addr × Obj)} (hz : Zn cls dd oe) (hfv : ∃ vs, oe.data = .fields vs) : PSs (X.suite a ((a, oe) :: pn)) su (tsK d m q a cls dd) := by
  unfold kSu at k
  split at k
  case h_2 => cases k
  simp only [Bool.and_eq_true, decide_eq_true_eq, Bool.not_eq_true', bnB, isB1] at k
  obtain ⟨⟨⟨⟨⟨⟨⟨⟨⟨⟨⟨⟨⟨⟨⟨i1, j1⟩, i2, j2⟩, i3, j3⟩, i4, j4⟩, i5, j5⟩, i6, j6⟩, i7, j7⟩, ⟨⟨⟨⟨⟨⟨⟨⟨n1, n2⟩, n3⟩, n4⟩, n5⟩, n6⟩, n7⟩, n8⟩, n9⟩⟩, kc⟩, ⟨⟨v1, w1⟩, v2, w2⟩, v3, w3⟩, ⟨⟨⟨⟨⟨⟨⟨t1, t2⟩, t3⟩, t4⟩, t5⟩, t6⟩, t7⟩, t8⟩⟩, ⟨⟨⟨⟨⟨⟨⟨r1, r2⟩, r3⟩, r4⟩, r5⟩, r6⟩, r7⟩, r8⟩⟩, ⟨b1, b2⟩, b3⟩, c1, c2⟩, _⟩ := k
  subst r3 r4 r5 r6 r7 r8 r1
  refine pss_ex fun c => pss_ex fun f => pss_and fun hc => ?_
  obtain ⟨rfl, hf, hk⟩ := hc
  have XK := TF.xk hk c f hf
  have hcs : ∃ h1 h2 h3 h4, q.cs = [h1, h2, h3, h4] := by
    split at kc
    · rename_i h1 h2 h3 h4 e
      exact ⟨h1, h2, h3, h4, e⟩
    · cases kc
  refine pss_ex fun h1 => pss_ex fun h2 => pss_ex fun h3 => pss_ex fun h4 => pss_and fun e => ?_
  rw [e] at kc
  simp only [Bool.and_eq_true, cnB, decide_eq_true_eq] at kc
  obtain ⟨⟨⟨⟨⟨⟨a1, a2⟩, a3⟩, a4⟩, ⟨⟨⟨d1, d2⟩, d3⟩, d4⟩⟩, ⟨⟨⟨e1, e2⟩, e3⟩, e4⟩⟩, ⟨⟨⟨f1, f2⟩, f3⟩, f4⟩⟩ := kc
  have ask : ExcK X.K (d.ca c) := by rw [G.K]; exact XK.ask
  have isx : ∀ {q0 n0 c0 : Str} {h : Nat} {p1 p2 p3 p4 : Pos}, q0 = "isinstance" → glB s.sc q0 = true → nmB s q.i n0 = true → c0 = Str.ofString (d.T.cname h) → glB s.sc c0 = true → (!isDbg c0) = true → d.T.isE h = true →
      PE (X.suite a ((a, oe) :: pn)) (.Call (.Name q0 p1) [.Name n0 p2, .Name c0 p3] [] p4) (tIX q.i a dd (bcK d.T c h)) := by
    intro q0 n0 c0 h p1 p2 p3 p4 hq0 g0 hn hc0 gc hd hE
    obtain ⟨x1, x2, x3, x4⟩ := G.nm hn
    obtain ⟨y1, _⟩ := TF.exc h hE
    exact pe_isX hq0 ask hz.zc hfv (G.gl g0) (by rw [hq0]; exact G.bmg TF (by decide)) x1 x2 x3 x4 rfl (pe_glob (X := X.suite a ((a, oe) :: pn)) (v := .ref (d.ca h)) (G.gl gc) (by show X.mg c0 = _; rw [G.mg, hc0]; exact y1) rfl (dbg_of hd).1) (fun w r => r) (by rw [G.K]; exact XK.own h hE)
  have isb : ∀ {q0 n0 c0 : Str} {n : String} {p1 p2 p3 p4 : Pos}, q0 = "isinstance" → glB s.sc q0 = true → nmB s q.i n0 = true → c0 = Str.ofString n → glB s.sc c0 = true → n ∈ xnL →
      PE (X.suite a ((a, oe) :: pn)) (.Call (.Name q0 p1) [.Name n0 p2, .Name c0 p3] [] p4) (tIX q.i a dd false) := by
    intro q0 n0 c0 n p1 p2 p3 p4 hq0 g0 hn hc0 gc hn3
    obtain ⟨x1, x2, x3, x4⟩ := G.nm hn
    obtain ⟨y1, y2⟩ := XK.blt n hn3
    obtain ⟨z1, z2, z3⟩ := bltV hn3
    subst hc0
    exact pe_isX hq0 ask hz.zc hfv (G.gl g0) (by rw [hq0]; exact G.bmg TF (by decide)) x1 x2 x3 x4 rfl (pe_bltn (X := X.suite a ((a, oe) :: pn)) (v := .ty n) (u := .type n) (G.gl gc) (by show X.mg _ = _; rw [G.mg]; exact y2) z1 rfl z2 z3) (fun w r => r) (by rw [G.K]; exact y1)
  have snm : ∀ {j : Nat} {x : Str} {p : Pos}, nmB s j x = true → PE (X.suite a ((a, oe) :: pn)) (.Name x p) (teI d (run d.T m) W0 (.nm j)) := fun {j x p} h => by
    obtain ⟨x1, x2, x3, x4⟩ := G.nm h
    exact s_nm (X := X.suite a ((a, oe) :: pn)) x1 x2 x3 x4
  have hu : (X.suite a ((a, oe) :: pn)).A.units + 64 < cLine := by have := G.hu; show X.A.units + 64 < _; omega
  have hK : (X.suite a ((a, oe) :: pn)).K = d.K := G.K
  have hot : L2H.HotC (X.suite a ((a, oe) :: pn)) := by
    obtain ⟨vs, hvs⟩ := hfv
    exact ⟨(a, oe), ⟨rfl, vs, hvs, hz.2.2 vs hvs⟩, List.mem_cons_self⟩
  have fno : ∀ x, X.fn x = true := by
    have := G.fn
    rw [hfc] at this
    exact this
  have loc : ∀ {j : Nat} {x : Str}, tgB s j x = true → X.N[j]? = some x ∧ Loc X.env.scope x := fun {j x} h => by
    obtain ⟨y1, y2, _⟩ := G.tg h
    exact ⟨y1, y2⟩
  obtain ⟨o1, o2⟩ := loc t1
  obtain ⟨o3, o4⟩ := loc t2
  have rm := G.room
  obtain ⟨g1, g2, g3⟩ := hgl _ c1
  have fld : ∀ {w : Str} {n0 : Str} {p1 p2 : Pos}, nmB s q.i n0 = true → PE (X.suite a ((a, oe) :: pn)) (.Attribute (.Name n0 p1) w p2) (fldO d q.i w f a (.ref (d.ca c)) dd c) := by
    intro w n0 p1 p2 hn
    unfold fldO
    by_cases hw : f = w
    · rw [if_pos hw]
      subst hw
      obtain ⟨x1, x2, x3, x4⟩ := G.nm hn
      exact pe_fld G.K TF.er x1 x2 x3 x4 hz.zc hfv hf
    · rw [if_neg hw]; exact pe_no
  refine pss_cons (ps_set (X := X.suite a ((a, oe) :: pn)) G.nd o1 o2 (pe_lst (pa_cons (isx i1 j1 n1 a1 a2 a3 a4) (pa_cons (isx i2 j2 n2 d1 d2 d3 d4) (pa_cons (isx i3 j3 n3 e1 e2 e3 e4) (pa_cons (isx i4 j4 n4 f1 f2 f3 f4) pa_nil))))) rfl (.inl (fno _)))
    (pss_cons (L2H.ps_forH PassesOwn.never hot (L2H.pi_range1H (X := X.suite a ((a, oe) :: pn)) (G.gl r2) (G.bmg TF (by decide)) (pa_cons pe_int pa_nil)) (pg_name (X := X.suite a ((a, oe) :: pn)) G.nd o3 o4 (.inl (fno _)))
      (pss_cons (ps_if (t_cmp rfl (cmp_ne hK hu) (s_ix hK rfl (o_val rfl (snm t3)) (snm t4)) (s_cmp rfl (cmp_eqp hK hu) (snm t5) (snm t6) b2) b1) (pss_cons (ps_ret pe_bl) pss_nil) pss_nil) pss_nil))
    (pss_cons (ps_if (PT_of_PW (pw_or (pt_val (isb i5 j5 n5 v1 w1 (by simp [xnL]))) (pw_or (pt_val (isb i6 j6 n6 v2 w2 (by simp [xnL]))) (pw_or1 (pt_val (isb i7 j7 n7 v3 w3 (by simp [xnL]))))))) (pss_cons (ps_ret pe_bl) pss_nil) pss_nil)
    (pss_cons (ps_ret (L2H.pe_callH (X := X.suite a ((a, oe) :: pn)) (E := fun _ _ _ _ => False) Fh ⟨by have := rm.dp; show X.A.depth + 3 * (2 * m) + 5 < _; omega, by have := rm.un; show X.A.units + 16 * (2 * m) + 200 < _; omega⟩ hot (G.gl g2) (by show X.mg _ = _; rw [G.mg]; exact g1) (by show PySem.W.keepIn X.K _ = true; rw [G.K]; exact FF.keep) (by show Binds X.K _ _ _; rw [G.K]; exact FF.bind)
      (fun σ pins H s e s' I zz => by obtain ⟨_, _, _, _, _, _, _, _, _, _, _, _, zz⟩ := zz; exact zz.elim)
      (pa_cons (pe_ifExp (t_cmp rfl (cmp_eqp hK hu) (snm t7) (s_cst pe_int fun F io => by simp only [Rep]) b3) (fld n8) (fld n9)) (pa_cons (by obtain ⟨x1, x2, x3, x4⟩ := G.nm t8; exact pe_var (X := X.suite a ((a, oe) :: pn)) x1 x2 x3 x4) pa_nil)) g3)) pss_nil)))
end
/-! ### what the small language says gives the suite its wish -/
theorem blk_xsu {d : Wd} {C : CallT} {e1 : Env} {M1 : Sto} {c : Nat} {v : D} {q : KS} (F0 : Out → Prop) (hs : ¬ F0 .stuck) (h : F0 (match blk d.T C [.xsu q.i q.kd q.vl q.ow q.kk q.g q.cs] (List.set e1 q.i (.val (.exn c v))) M1 with | .ret x M2 => .ret x M2 | _ => .stuck)) :
    ∃ x w, (q.i < e1.length ∧ q.ow < e1.length ∧ q.kk < e1.length) ∧ (List.set e1 q.i (Slot.val (.exn c v)))[q.kd]? = some (.val (.int x)) ∧ (List.set e1 q.i (Slot.val (.exn c v)))[q.vl]? = some (.val w) ∧ xsuOk d.T c x w q.cs = true ∧ F0 (match C q.g [v, w] M1 with | .ok r M2 => .ret r M2 | _ => .stuck) := by
  by_cases hi : q.i < e1.length
  · have g : (List.set e1 q.i (Slot.val (.exn c v)))[q.i]? = some (.val (.exn c v)) := List.getElem?_set_self hi
    simp only [blk, st, g] at h
    cases hk : (List.set e1 q.i (Slot.val (.exn c v)))[q.kd]? with
    | none => rw [hk] at h; exact absurd h hs
    | some sk =>
      cases hv : (List.set e1 q.i (Slot.val (.exn c v)))[q.vl]? with
      | none => rw [hk, hv] at h; cases sk with
        | val y => cases y <;> exact absurd h hs
        | _ => exact absurd h hs
      | some sv =>
        rw [hk, hv] at h
        cases sk with
        | val y =>
          cases y with
          | int x =>
            cases sv with
            | val w =>
              dsimp only at h
              by_cases ho : xsuOk d.T c x w q.cs = true ∧ q.ow < (List.set e1 q.i (Slot.val (.exn c v))).length ∧ q.kk < (List.set e1 q.i (Slot.val (.exn c v))).length
              · rw [if_pos ho] at h
                rw [List.length_set] at ho
                refine ⟨x, w, ⟨hi, ho.2⟩, rfl, rfl, ho.1, ?_⟩
                cases hr : C q.g [v, w] M1 with
                | ok r M2 => rw [hr] at h; exact h
                | exc _ _ _ => rw [hr] at h; exact absurd h hs
                | stuck => rw [hr] at h; exact absurd h hs
              · rw [if_neg ho] at h; exact absurd h hs
            | _ => exact absurd h hs
          | _ => exact absurd h hs
        | _ => exact absurd h hs
  · have g : (List.set e1 q.i (Slot.val (.exn c v)))[q.i]? = none := by rw [List.getElem?_eq_none]; rw [List.length_set]; omega
    simp only [blk, st, g] at h
    exact absurd h hs
def KS.apart (q : KS) : Prop := q.i ≠ q.ow ∧ q.i ≠ q.kk ∧ q.i ≠ q.kd ∧ q.i ≠ q.vl ∧ q.ow ≠ q.kk ∧ q.ow ≠ q.kd ∧ q.ow ≠ q.vl ∧ q.kk ≠ q.kd ∧ q.kk ≠ q.vl
theorem ev_pc {T : Tb} {C : CallT} {q : KS} {e : Env} {M : Sto} {x : Int} {i : Nat} (hi : i < 4) (h1 : e[q.ow]? = some (.val (.lst [.bl (decide (x = 0)), .bl (decide (x = 1)), .bl (decide (x = 2)), .bl (decide (x = 3))]))) (h2 : e[q.kk]? = some (.val (.int i))) (h3 : e[q.kd]? = some (.val (.int x))) : ev T C (pcK q) e M = .ok (.bl false) M := by
  have a0 : ev T C (.nm q.ow) e M = .ok (.lst [.bl (decide (x = 0)), .bl (decide (x = 1)), .bl (decide (x = 2)), .bl (decide (x = 3))]) M := by simp only [ev, h1]
  have a1 : ev T C (.nm q.kk) e M = .ok (.int i) M := by simp only [ev, h2]
  have a2 : ev T C (.nm q.kd) e M = .ok (.int x) M := by simp only [ev, h3]
  have ix : ixD (.lst [.bl (decide (x = 0)), .bl (decide (x = 1)), .bl (decide (x = 2)), .bl (decide (x = 3))]) (.int i) M = some (.bl (decide (x = i))) := by
    have : i = 0 ∨ i = 1 ∨ i = 2 ∨ i = 3 := by omega
    rcases this with rfl | rfl | rfl | rfl <;> rfl
  have e1 : ev T C (.ix (.nm q.ow) (.nm q.kk)) e M = .ok (.bl (decide (x = i))) M := by
    simp only [ev, opOf, a0, a1, Res.bind, ix, oR] at a0 a1 ⊢
    simp [a0, a1, ix, Res.bind, oR]
  have e2 : ev T C (.cmp .eqp (.nm q.kk) (.nm q.kd)) e M = .ok (.bl (decide ((i : Int) = x))) M := by
    have c : cmpD T C .eqp (.int i) (.int x) M = .ok (.bl (decide ((i : Int) = x))) M := by
      have : eqO (.int i) (.int x) = some (decide ((i : Int) = x)) := by
        simp [eqO, D.py, SeqAt.shaped, PyData.canLay0, PyData.depth, PyData.eqv]
        rfl
      simp only [cmpD, this, Option.map_some, oR]
    have z : ev T C (.cmp .eqp (.nm q.kk) (.nm q.kd)) e M = (ev T C (.nm q.kk) e M).bind fun y M2 => (ev T C (.nm q.kd) e M2).bind fun z M3 => cmpD T C .eqp y z M3 := by simp only [ev]
    rw [z, a1]
    show (ev T C (.nm q.kd) e M).bind _ = _
    rw [a2]
    exact c
  have c : cmpD T C .ne (.bl (decide (x = i))) (.bl (decide ((i : Int) = x))) M = .ok (.bl false) M := by
    have e : decide (x = (i : Int)) = decide ((i : Int) = x) := by simp [eq_comm]
    rw [e]
    cases decide ((i : Int) = x) <;> rfl
  have z : ev T C (pcK q) e M = (ev T C (.ix (.nm q.ow) (.nm q.kk)) e M).bind fun y M2 => (ev T C (.cmp .eqp (.nm q.kk) (.nm q.kd)) e M2).bind fun z M3 => cmpD T C .ne y z M3 := by unfold pcK; simp only [ev]
  rw [z, e1]
  show (ev T C (.cmp .eqp (.nm q.kk) (.nm q.kd)) e M).bind _ = _
  rw [e2]
  exact c
theorem ev_pd {T : Tb} {C : CallT} {q : KS} {e : Env} {M : Sto} {x : Int} (h3 : e[q.kd]? = some (.val (.int x))) : ev T C (pdK q) e M = .ok (.bl (decide (x = 3))) M := by
  have a2 : ev T C (.nm q.kd) e M = .ok (.int x) M := by simp only [ev, h3]
  have c : cmpD T C .eqp (.int x) (.int 3) M = .ok (.bl (decide (x = 3))) M := by
    have : eqO (.int x) (.int 3) = some (decide (x = 3)) := by
      simp [eqO, D.py, SeqAt.shaped, PyData.canLay0, PyData.depth, PyData.eqv]
      rfl
    simp only [cmpD, this, Option.map_some, oR]
  have z : ev T C (pdK q) e M = (ev T C (.nm q.kd) e M).bind fun y M2 => (ev T C (.cst (.int 3)) e M2).bind fun z M3 => cmpD T C .eqp y z M3 := by unfold pdK; simp only [ev]
  have z3 : ev T C (.cst (.int 3)) e M = .ok (.int 3) M := by simp only [ev]
  rw [z, a2]
  simp only [Res.bind, z3]
  exact c
theorem tsK_ok {d : Wd} {m : Nat} {q : KS} {W : WX} {Fb F F1 : Hp} {iob io io1 : List Addr} {Hb H1 : Hp} {sg1 : L2.St} {e1 : Env} {M1 : Sto} {De De' : Ends} {c : Nat} {v : D} {v0 : V} {a a0 : Addr} {f0 : Str} (hrt : De'.rt = De.rt) (s1 : Stt d Fb iob Hb F1 io1 sg1 H1 e1 M1)
    (ap : q.apart) (hl : q.ow < e1.length ∧ q.kk < e1.length) (hf0 : d.T.efld c = some f0) (hF : F1 a0 = some (.xd [(f0, v0)])) (hrep : Rep d F1 io1 v v0) {x : Int} {w : D} (hi : q.i < e1.length) (hkd : (List.set e1 q.i (Slot.val (.exn c v)))[q.kd]? = some (.val (.int x))) (hvl : (List.set e1 q.i (Slot.val (.exn c v)))[q.vl]? = some (.val w))
    (ok : xsuOk d.T c x w q.cs = true) (q2 : SatO d W Fb iob Hb F io De (match run d.T m q.g [v, w] M1 with | .ok r M2 => .ret r M2 | _ => .stuck)) : tsK d m q a (.ref (d.ca c)) (some a0) De' (sg1.set q.i (some (.ref a))) H1 := by
  obtain ⟨p1, p2, p3, p4, p5, p6, p7, p8, p9⟩ := ap
  unfold xsuOk at ok
  simp only [Bool.and_eq_true, decide_eq_true_eq] at ok
  obtain ⟨⟨⟨k1, k2⟩, k3⟩, ⟨k4, k5⟩, k6⟩ := ok
  rw [hf0] at k6
  have k6 : f0 = if x = 3 then Str.ofString "word" else Str.ofString "at" := Option.some.inj k6
  have hL : sg1.length = e1.length := s1.rl.len.symm
  rw [List.getElem?_set_ne p3] at hkd
  rw [List.getElem?_set_ne p4] at hvl
  have ekd : sg1[q.kd]? = some (some (.int x)) := by
    rcases s1.rl.val _ _ hkd with ⟨_, _, h⟩ | ⟨u, h1, h2⟩
    · cases h
    · rw [h1]
      simp only [Rep] at h2
      rw [h2]
  obtain ⟨u, evl, hw⟩ : ∃ u, sg1[q.vl]? = some (some u) ∧ Rep d F1 io1 w u := by
    rcases s1.rl.val _ _ hvl with ⟨_, _, h⟩ | h
    · subst h; cases k4
    · exact h
  obtain ⟨h1, h2, h3, h4, hcs⟩ : ∃ h1 h2 h3 h4, q.cs = [h1, h2, h3, h4] := by
    match hq : q.cs, k2 with
    | [h1, h2, h3, h4], _ => exact ⟨h1, h2, h3, h4, rfl⟩
  rw [hcs] at k5
  simp only [List.map_cons, List.map_nil, List.cons.injEq, and_true] at k5
  obtain ⟨b1, b2, b3, b4⟩ := k5
  have hd : ∃ d0 fs, some a0 = some d0 ∧ H1 d0 = some (.xd fs) := ⟨a0, _, rfl, s1.rl.sub _ _ hF⟩
  have ei : (sg1.set q.i (some (.ref a)))[q.i]? = some (some (.ref a)) := List.getElem?_set_self (by rw [hL]; exact hi)
  refine ⟨c, f0, ⟨rfl, hf0, k1⟩, h1, h2, h3, h4, hcs, ?_⟩
  refine ⟨ei, hd, ei, hd, ei, hd, ei, hd, by show 4 ≤ sizeLine; rw [← lim_eq]; decide, fun p hp => ?_⟩
  -- the list made
  obtain ⟨x2, s2, c2⟩ := ex_new (o := .lst [.bl (bcK d.T c h1), .bl (bcK d.T c h2), .bl (bcK d.T c h3), .bl (bcK d.T c h4)]) s1.rl.sub s1.rl.cl hp
  have hbs : ([.bl (bcK d.T c h1), .bl (bcK d.T c h2), .bl (bcK d.T c h3), .bl (bcK d.T c h4)] : List V) = [.bl (decide (x = 0)), .bl (decide (x = 1)), .bl (decide (x = 2)), .bl (decide (x = 3))] := by
    unfold bcK
    rw [b1, b2, b3, b4]
  have K0 : Kst d Fb iob Hb F1 io1 M1 sg1.length q a p x u [.bl (decide (x = 0)), .bl (decide (x = 1)), .bl (decide (x = 2)), .bl (decide (x = 3))] ((sg1.set q.i (some (.ref a))).set q.ow (some (.ref p))) (upd H1 p (.lst [.bl (bcK d.T c h1), .bl (bcK d.T c h2), .bl (bcK d.T c h3), .bl (bcK d.T c h4)])) := {
    ex := ⟨_, io1, s1.ex.trans x2, s2, c2, x2.sub, Pre.refl _, by rw [upd_same, hbs]⟩
    len := by rw [List.length_set, List.length_set]
    i := by rw [List.getElem?_set_ne (Ne.symm p1)]; exact ei
    kd := by rw [List.getElem?_set_ne p6, List.getElem?_set_ne p3]; exact ekd
    vl := by rw [List.getElem?_set_ne p7, List.getElem?_set_ne p4]; exact evl
    ow := List.getElem?_set_self (by rw [List.length_set, hL]; exact hl.1) }
  have bsR : ∀ F io, Reps d F io [.bl (decide (x = 0)), .bl (decide (x = 1)), .bl (decide (x = 2)), .bl (decide (x = 3))] [.bl (decide (x = 0)), .bl (decide (x = 1)), .bl (decide (x = 2)), .bl (decide (x = 3))] := fun F io =>
    Reps.cons (by simp only [Rep]) (Reps.cons (by simp only [Rep]) (Reps.cons (by simp only [Rep]) (Reps.cons (by simp only [Rep]) Reps.nil)))
  -- the walk over it
  refine ⟨4, rfl, by decide, by decide, fun i mm sg H => mm = 4 - i ∧ i ≤ 4 ∧ Kst d Fb iob Hb F1 io1 M1 sg1.length q a p x u [.bl (decide (x = 0)), .bl (decide (x = 1)), .bl (decide (x = 2)), .bl (decide (x = 3))] sg H, ⟨4, rfl, Nat.zero_le _, K0⟩, ?_⟩
  rintro i mm sg H ⟨rfl, hle, K⟩
  by_cases hlt : i < 4
  · right
    refine ⟨hlt, fun sg' H' => Kst d Fb iob Hb F1 io1 M1 sg1.length q a p x u [.bl (decide (x = 0)), .bl (decide (x = 1)), .bl (decide (x = 2)), .bl (decide (x = 3))] sg' H', fun sg' H' k => ⟨4 - (i + 1), by omega, rfl, hlt, k⟩, fun xv H' y => ?_⟩
    obtain ⟨rfl, rfl⟩ := y
    obtain ⟨F2, io2, ex2, sub2, cl2, sb2, pr2, hp2⟩ := K.ex
    have z0 : (0 : Int) + (i : Int) = i := by omega
    rw [z0]
    refine ⟨F2, io2, eFew sg1.length [(q.ow, .lst [.bl (decide (x = 0)), .bl (decide (x = 1)), .bl (decide (x = 2)), .bl (decide (x = 3))]), (q.kk, .int i), (q.kd, .int x)], M1, rl_few sub2 cl2 (by rw [List.length_set, K.len]) (fun j y hy => ?_), ?_⟩
    · simp only [List.lookup] at hy
      split at hy
      · rename_i hj
        have hj : j = q.ow := by simpa using hj
        cases hy
        exact ⟨.ref p, by rw [hj, List.getElem?_set_ne (Ne.symm p5)]; exact K.ow, by simp only [Rep]; exact ⟨p, _, rfl, hp2, bsR _ _⟩⟩
      · split at hy
        · rename_i hj
          have hj : j = q.kk := by simpa using hj
          cases hy
          exact ⟨.int i, by rw [hj]; exact List.getElem?_set_self (by rw [K.len, hL]; exact hl.2), by simp only [Rep]⟩
        · split at hy
          · rename_i hj
            have hj : j = q.kd := by simpa using hj
            cases hy
            exact ⟨.int x, by rw [hj, List.getElem?_set_ne p8]; exact K.kd, by simp only [Rep]⟩
          · cases hy
    · have e := ev_pc (T := d.T) (C := run d.T m) (M := M1) (q := q) (e := eFew sg1.length [(q.ow, .lst [.bl (decide (x = 0)), .bl (decide (x = 1)), .bl (decide (x = 2)), .bl (decide (x = 3))]), (q.kk, .int i), (q.kd, .int x)]) (x := x) hlt
        (eFew_get (by rw [hL]; exact hl.1) (by simp [List.lookup]))
        (eFew_get (by rw [hL]; exact hl.2) (by simp [List.lookup, Ne.symm p5, beq_eq_false_iff_ne.mpr (Ne.symm p5)]))
        (eFew_get (by
          have := (List.getElem?_eq_some_iff.mp ekd).1
          exact this) (by simp [List.lookup, beq_eq_false_iff_ne.mpr (Ne.symm p6), beq_eq_false_iff_ne.mpr (Ne.symm p8)]))
      rw [e]
      intro F3 io3 H3 b x3 s3 c3 hb
      have hb : false = b := hb
      subst hb
      show Kst d Fb iob Hb F1 io1 M1 sg1.length q a p x u _ (sg.set q.kk (some (.int i))) H3
      exact ⟨⟨F3, io3, ex2.trans x3, s3, c3, sb2.trans x3.sub, pr2.trans x3.pre, x3.sub _ _ hp2⟩, by rw [List.length_set, K.len], by rw [List.getElem?_set_ne (Ne.symm p2)]; exact K.i, by rw [List.getElem?_set_ne p8]; exact K.kd, by rw [List.getElem?_set_ne p9]; exact K.vl, by rw [List.getElem?_set_ne (Ne.symm p5)]; exact K.ow⟩
  · left
    refine ⟨by show 4 ≤ i; omega, ?_⟩
    obtain ⟨F2, io2, ex2, sub2, cl2, sb2, pr2, hp2⟩ := K.ex
    have hd2 : ∃ d0 fs, some a0 = some d0 ∧ H d0 = some (.xd fs) := ⟨a0, _, rfl, sub2 _ _ (sb2 _ _ hF)⟩
    refine ⟨K.i, hd2, false, rfl, ?_⟩
    show (if false = true then _ else _)
    rw [if_neg Bool.false_ne_true]
    refine ⟨K.i, hd2, false, rfl, ?_⟩
    show (if false = true then _ else _)
    rw [if_neg Bool.false_ne_true]
    refine ⟨K.i, hd2, false, rfl, ?_⟩
    show (if false = true then _ else _)
    rw [if_neg Bool.false_ne_true]
    -- what is returned
    refine ⟨F2, io2, eFew sg1.length [(q.kd, .int x)], M1, rl_few sub2 cl2 K.len.symm (fun j y hy => ?_), ?_⟩
    · simp only [List.lookup] at hy
      split at hy
      · rename_i hj
        have hj : j = q.kd := by simpa using hj
        cases hy
        exact ⟨.int x, by rw [hj]; exact K.kd, by simp only [Rep]⟩
      · cases hy
    · have e := ev_pd (T := d.T) (C := run d.T m) (M := M1) (q := q) (e := eFew sg1.length [(q.kd, .int x)]) (x := x) (eFew_get (List.getElem?_eq_some_iff.mp ekd).1 (by simp [List.lookup]))
      rw [e]
      intro F3 io3 H3 b x3 s3 c3 hb
      have hb : decide (x = 3) = b := hb
      subst hb
      have last : ∀ Q : Prop, True → True := fun _ h => h
      have fin3 : tVar q.vl sg H3 (fun y H4 => spI d m q.g (v0 :: [y]) H4 De'.rt fun _ _ _ => False) := by
        refine ⟨u, K.vl, F3, io3, [v, w], M1, s3, c3, Reps.cons (Rep.mono (sb2.trans x3.sub) (pr2.trans x3.pre) _ _ hrep) (Reps.cons (Rep.mono (sb2.trans x3.sub) (pr2.trans x3.pre) _ _ hw) Reps.nil), ?_⟩
        rw [hrt]
        cases hr : run d.T m q.g [v, w] M1 with
        | ok r M2 =>
          rw [hr] at q2
          intro F' io' H' y x4 s4 c4 r4
          exact q2 F' io' H' y ((ex2.trans x3).trans x4) s4 c4 r4
        | exc _ _ _ => rw [hr] at q2; exact q2.elim
        | stuck => rw [hr] at q2; exact q2.elim
      have hf3 : H3 a0 = some (.xd [(f0, v0)]) := s3 _ _ (x3.sub _ _ (sb2 _ _ hF))
      by_cases hx : x = 3
      · rw [if_pos hx] at k6
        rw [if_pos (decide_eq_true hx)]
        unfold fldO
        rw [if_pos k6]
        exact ⟨.ref a, K.i, rfl, rfl, a0, [(f0, v0)], v0, rfl, hf3, by rw [k6]; simp [List.lookup], fin3⟩
      · rw [if_neg hx] at k6
        rw [if_neg (by rw [decide_eq_false hx]; exact Bool.false_ne_true)]
        unfold fldO
        rw [if_pos k6]
        exact ⟨.ref a, K.i, rfl, rfl, a0, [(f0, v0)], v0, rfl, hf3, by rw [k6]; simp [List.lookup], fin3⟩
theorem kSu_ap {T : Tb} {s : SC} {q : KS} {su : List Stmt} (k : kSu T s q su = true) : q.apart ∧ (∃ s0 sr, su = s0 :: sr) ∧ ∃ x, fnB T s q.g x = true ∧ T.hot q.g = true := by
  unfold kSu at k
  split at k
  case h_2 => cases k
  simp only [Bool.and_eq_true, decide_eq_true_eq] at k
  exact ⟨k.2, ⟨_, _, rfl⟩, _, k.1.2.1, k.1.2.2⟩
theorem s_tryK {X : Cx} {d : Wd} {W : WX} {s : SC} {m h : Nat} {q : KS} {x n : Str} {pos pos' np : Pos} {b : List S} {body su : List Stmt} {fd : FD} (hs : X.stack = X.env :: X.outer) (hfr : X.env.frame = some X.env.locals) (tk : Takes X W) (TF : TbF d) (G : Gx d m s X) (hfc : s.fc = none)
    (hN : X.N[q.i]? = some n) (hln : X.env.kindOf n = some .local) (hg : Gl X x) (hdb : (x == ("__debug__" : Str)) = false) (hm : d.mg x = some (.ref (d.ca h))) (hx : ∀ c f, d.T.efld c = some f → PySem.W.exmOne d.K (.ref (d.ca c)) (.ref (d.ca h)) = some (decide (c = h ∨ d.T.base c = some h)))
    (hb : ∀ (W' : WX) (pn : List (Addr × Obj)) (xe : Value → Shared → Prop), Takes (X.tr pn xe) W' → PassesOwn (model X.prog X.w) X.A X.env xe → PSs (X.tr pn xe) body (tbI d (run d.T m) W' b))
    (FF : FnF d q.g fd) (hfd : d.T.fn q.g = some fd) (Fh : L2H.FnH X.prog X.w X.K X.mg X.base (L2N.CX X.prog X.w) (2 * m) (d.fa q.g) (d.fdt q.g) (fd.ps.map Str.ofString) (spI d m q.g))
    (hgl : ∀ x, fnB d.T s q.g x = true → d.mg x = some (.ref (d.fa q.g)) ∧ glB s.sc x = true ∧ (x == ("__debug__" : Str)) = false) (k : kSu d.T s q su = true) :
    PS X (.Try body [.ExceptHandler (some (.Name x np)) (some n) su pos'] [] [] pos) (tsI d (run d.T m) W (.try_ b [(h, some q.i, [.xsu q.i q.kd q.vl q.ow q.kk q.g q.cs])])) := by
  obtain ⟨ap, ⟨s0, sr, rfl⟩, _⟩ := kSu_ap k
  refine PS_imp (ps_try_as (tb := fun W' => tbI d (run d.T m) W' b) (ts := tsK d m q) (Wout := W) (c := .ref (d.ca h)) hs hfr G.nd hN hln ⟨hg, hdb, .inl (by rw [G.mg]; exact hm)⟩ tk hb (fun a oe cls dd pn hz hfv => kSu_of TF G hfc FF hfd Fh hgl k hz hfv)) fun De sg H q0 => ?_
  obtain ⟨Fb, iob, Hb, F, io, e, M, st0, q0⟩ := q0
  refine ⟨Fb, iob, Hb, F, io, e, M, st0, ?_⟩
  simp only [st] at q0
  cases hbk : blk d.T (run d.T m) b e M with
  | next e1 M1 => rw [hbk] at q0; exact q0
  | brk e1 M1 => rw [hbk] at q0; exact q0
  | cnt e1 M1 => rw [hbk] at q0; exact q0
  | ret v M1 => rw [hbk] at q0; exact q0
  | stuck => rw [hbk] at q0; exact q0
  | exc c v e1 M1 =>
    rw [hbk] at q0
    have q0 : SatO d W Fb iob Hb F io De (hand d.T (run d.T m) [(h, some q.i, [.xsu q.i q.kd q.vl q.ow q.kk q.g q.cs])] c v e1 M1) := q0
    intro F1 io1 sg1 H1 cls dd s1 sub pre ex
    obtain ⟨rfl, f0, a0, v0, hf0, rfl, hF, hrep⟩ := ex
    rw [G.K]
    refine ⟨decide (c = h ∨ d.T.base c = some h), hx c f0 hf0, fun hb => fun a hna => ?_, fun hb => ?_⟩
    · have hb := of_decide_eq_true hb
      simp only [hand] at q0
      rw [if_pos hb] at q0
      obtain ⟨x0, w, ⟨hi, hl⟩, hkd, hvl, ok, q2⟩ := blk_xsu (SatO d W Fb iob Hb F io De) (fun z => z) q0
      exact tsK_ok (De := De) rfl s1 ap hl hf0 hF hrep hi hkd hvl ok q2
    · have hb := of_decide_eq_false hb
      simp only [hand] at q0
      rw [if_neg hb] at q0
      exact q0 F1 io1 sg1 H1 _ _ s1 sub pre ⟨rfl, f0, a0, v0, hf0, rfl, hF, hrep⟩
end Rb

/-! RbMainE: what matches is as the small language says: expressions, all at once. Own work. -/
namespace Rb
open PySem PySem.Spec PyProof.Rows
open L2 hiding XE Takes CX passes_call takes_of MkP PMk ps_raise mk_of ps_try_as HdsOk ps_try_many pmk_own passAt St
open L2N
/-- all judgements at one depth of the match -/
structure MOk (d : Wd) (n k : Nat) : Prop where
  E : ∀ (X : Cx) (s : SC) (W : WX) (p : P) (e : Expr), Gx d n s X → Takes X W → mE d.T k s p e = true → PE X e (teI d (run d.T n) W p)
  F : ∀ (X : Cx) (s : SC) (W : WX) (p : P) (e : Expr), Gx d n s X → Takes X W → mF d.T k s p e = true → PE X e (tfI d (run d.T n) W p) ∧ ∀ e M x M', ev d.T (run d.T n) p e M = .ok x M' → ∃ l, x = .lst l
  Q : ∀ (X : Cx) (s : SC) (W : WX) (p : P) (e : Expr), Gx d n s X → Takes X W → mQ d.T k s p e = true → PE X e (tqI d (run d.T n) W p)
  QN : ∀ (X : Cx) (s : SC) (W : WX) (p : P) (e : Expr), Gx d n s X → Takes X W → p.isBor = false → mQ d.T k s p e = true → PE X e (teI d (run d.T n) W p)
  O : ∀ (X : Cx) (s : SC) (W : WX) (p : P) (e : Expr), Gx d n s X → Takes X W → mO d.T k s p e = true → PE X e (toI d (run d.T n) W p)
  A : ∀ (X : Cx) (s : SC) (W : WX) (p : List P) (e : List Expr), Gx d n s X → Takes X W → mA d.T k s p e = true → PA X e (taI d (run d.T n) W p)
  K : ∀ (X : Cx) (s : SC) (W : WX) (p : List P) (e : List Keyword), Gx d n s X → Takes X W → mK d.T k s p e = true → PK X e (taI d (run d.T n) W p)
  S : ∀ (X : Cx) (s : SC) (W : WX) (p : Src) (tg e : Expr), Gx d n s X → Takes X W → mS d.T k s p tg e = true → PI X tg e (tiI d (run d.T n) W p) ∧ (p.noBor = true → PI X tg e (tiN d (run d.T n) W p))
  T : ∀ (X : Cx) (s : SC) (W : WX) (p : P) (e : Expr), Gx d n s X → Takes X W → mT d.T k s p e = true → PT X e (ttI d (run d.T n) W p) ∧ ∀ op vs q, e = .BoolOp op vs q → PW X e (ttI d (run d.T n) W p)
theorem nset_of {e : Expr} (h : nset e = true) (env : PySem.Env) (v : Value) : foldedSetIterable e env v = pure v := by
  cases e <;> first | (cases h; done) | rfl
theorem mRepB_of {d : Wd} {X : Cx} {n : Nat} {s : SC} {C : CallT} {W : WX} {p : P} {e : Expr} (G : Gx d n s X) (h : mRepB s p e = true) : PET X e (teI d C W p) := by
  unfold mRepB at h
  split at h
  · rename_i p z ea z' _ _ _
    simp only [Bool.and_eq_true, decide_eq_true_eq] at h
    obtain ⟨h1, rfl⟩ := h
    unfold mRep at h1
    split at h1
    · simp only [Bool.and_eq_true, decide_eq_true_eq] at h1
      obtain ⟨⟨⟨⟨⟨rfl, h2⟩, rfl⟩, rfl⟩, rfl⟩, h3⟩ := h1
      obtain ⟨k1, k2, k3, k4⟩ := G.nm h2
      exact st_bin (op_addD G.K) (pet_rep1 k1 k2 k3 k4 h3) (s_cst pe_str fun F io => by simp only [Rep])
    · cases h1
  · cases h
theorem mAT_of {d : Wd} {X : Cx} {n : Nat} {s : SC} {C : CallT} {W : WX} {f : P → Expr → Bool} (G : Gx d n s X) (hf : ∀ p e, f p e = true → PE X e (teI d C W p)) : ∀ {ps : List P} {es : List Expr}, mAT f s ps es = true → PAT X es (taI d C W ps)
  | [], [], _ => at_nil
  | p :: ps, e :: es, h => by
    simp only [mAT, Bool.and_eq_true, Bool.or_eq_true, Bool.not_eq_true'] at h
    obtain ⟨⟨⟨h1, h2⟩, h3⟩, h4⟩ := h
    refine at_cons h1 h2 ?_ (mAT_of G hf h4)
    rcases h3 with h3 | h3
    · exact mRepB_of G h3
    · exact PET_of (hf p e h3)
  | [], _ :: _, h => by simp [mAT] at h
  | _ :: _, [], h => by simp [mAT] at h
theorem mLst1_of {d : Wd} {X : Cx} {n : Nat} {s : SC} {C : CallT} {W : WX} {f : P → Expr → Bool} (G : Gx d n s X) (hf : ∀ p e, f p e = true → PE X e (teI d C W p)) {ps : List P} {es : List Expr} (h : mLst1 f s ps es = true) : PA X es (taI d C W ps) := by
  unfold mLst1 at h
  split at h
  · simp only [Bool.and_eq_true, decide_eq_true_eq] at h
    obtain ⟨rfl, h⟩ := h
    exact a_first (mAT_of G hf h)
  · cases h
theorem mJ_of {d : Wd} {X : Cx} {C : CallT} {W : WX} {f : P → Expr → Bool} (hf : ∀ p e, f p e = true → PE X e (teI d C W p)) : ∀ {ps : List P} {es : List Expr}, mJ f ps es = true → PJ X es (ps.map (tPart d C W))
  | [], [], _ => .nil
  | p :: ps, e :: es, h => by
    simp only [mJ, Bool.and_eq_true] at h
    obtain ⟨h1, h2⟩ := h
    refine .cons ?_ (mJ_of hf h2)
    unfold mJ1 at h1
    split at h1
    · simp only [decide_eq_true_eq] at h1
      subst h1
      exact part_cst
    · simp only [Bool.and_eq_true, decide_eq_true_eq] at h1
      obtain ⟨rfl, h1⟩ := h1
      exact part_fmt (hf _ _ h1)
    · cases h1
  | [], _ :: _, h => by simp [mJ] at h
  | _ :: _, [], h => by simp [mJ] at h
section
variable {d : Wd} {n k : Nat} (TF : TbF d)
theorem mE_zero : MOk d n 0 := by
  constructor <;> intros <;> first
    | (rename_i h; simp only [mE] at h; cases h; done) | (rename_i h; simp only [mF] at h; cases h; done) | (rename_i h; simp only [mQ] at h; cases h; done) | (rename_i h; simp only [mO] at h; cases h; done)
    | (rename_i h; simp only [mA] at h; cases h; done) | (rename_i h; simp only [mK] at h; cases h; done) | (rename_i h; simp only [mS] at h; cases h; done) | (rename_i h; simp only [mT] at h; cases h; done)
theorem mQ_succ (I : MOk d n k) {X : Cx} {s : SC} {W : WX} {p : P} {e : Expr} (G : Gx d n s X) (tk : Takes X W) (h : mQ d.T (k + 1) s p e = true) : PE X e (tqI d (run d.T n) W p) := by
  simp only [mQ] at h
  split at h
  · obtain ⟨h1, h2, h3, h4⟩ := G.nm h
    exact q_bor h1 h2 h3 h4
  · cases h
  · rename_i hb _
    refine q_val ?_ (I.E X s W p e G tk h)
    cases p <;> first | rfl | exact absurd rfl (hb _)
theorem mQN_succ (I : MOk d n k) {X : Cx} {s : SC} {W : WX} {p : P} {e : Expr} (G : Gx d n s X) (tk : Takes X W) (hb : p.isBor = false) (h : mQ d.T (k + 1) s p e = true) : PE X e (teI d (run d.T n) W p) := by
  simp only [mQ] at h
  split at h
  · cases hb
  · cases h
  · exact I.E X s W p e G tk h
theorem mO_succ (I : MOk d n k) {X : Cx} {s : SC} {W : WX} {p : P} {e : Expr} (G : Gx d n s X) (tk : Takes X W) (h : mO d.T (k + 1) s p e = true) : PE X e (toI d (run d.T n) W p) := by
  simp only [mO] at h
  split at h
  · obtain ⟨h1, h2, h3, h4⟩ := G.nm h
    exact o_bor h1 h2 h3 h4
  · cases h
  · rename_i hb _
    refine o_val ?_ (I.E X s W p e G tk h)
    cases p <;> first | rfl | exact absurd rfl (hb _)
theorem mA_succ (I : MOk d n k) {X : Cx} {s : SC} {W : WX} {p : List P} {e : List Expr} (G : Gx d n s X) (tk : Takes X W) (h : mA d.T (k + 1) s p e = true) : PA X e (taI d (run d.T n) W p) := by
  simp only [mA] at h
  split at h
  · exact a_nil
  · simp only [Bool.and_eq_true, Bool.not_eq_true'] at h
    obtain ⟨⟨h1, h2⟩, h3⟩ := h
    exact a_star G.K h1 (I.E _ _ _ _ _ G tk h2) (I.A _ _ _ _ _ G tk h3)
  · simp only [Bool.and_eq_true, Bool.not_eq_true'] at h
    obtain ⟨⟨⟨h1, h2⟩, h3⟩, h4⟩ := h
    exact a_cons h1 h2 (I.E _ _ _ _ _ G tk h3) (I.A _ _ _ _ _ G tk h4)
  · cases h
theorem mK_succ (I : MOk d n k) {X : Cx} {s : SC} {W : WX} {p : List P} {e : List Keyword} (G : Gx d n s X) (tk : Takes X W) (h : mK d.T (k + 1) s p e = true) : PK X e (taI d (run d.T n) W p) := by
  simp only [mK] at h
  split at h
  · exact k_nil
  · simp only [Bool.and_eq_true, Bool.not_eq_true'] at h
    obtain ⟨⟨h1, h2⟩, h3⟩ := h
    exact k_cons h1 (I.E _ _ _ _ _ G tk h2) (I.K _ _ _ _ _ G tk h3)
  · cases h
theorem mS_succ (TF : TbF d) (I : MOk d n k) {X : Cx} {s : SC} {W : WX} {p : Src} {tg e : Expr} (G : Gx d n s X) (tk : Takes X W) (h : mS d.T (k + 1) s p tg e = true) : PI X tg e (tiI d (run d.T n) W p) ∧ (p.noBor = true → PI X tg e (tiN d (run d.T n) W p)) := by
  simp only [mS] at h
  split at h
  · simp only [Bool.and_eq_true, decide_eq_true_eq] at h
    obtain ⟨⟨⟨rfl, h2⟩, h3⟩, h4⟩ := h
    have a := I.E _ _ _ _ _ G tk h4
    exact ⟨i_rg1 (G.gl h2) (G.bmg TF (by decide)) h3 a, fun _ => i_rg1 (G.gl h2) (G.bmg TF (by decide)) h3 a⟩
  · simp only [Bool.and_eq_true, decide_eq_true_eq] at h
    obtain ⟨⟨⟨⟨⟨rfl, h2⟩, h3⟩, h4⟩, h5⟩, h6⟩ := h
    have a := I.E _ _ _ _ _ G tk h5
    have b := I.E _ _ _ _ _ G tk h6
    exact ⟨i_rg2 (G.gl h2) (G.bmg TF (by decide)) h3 h4 a b, fun _ => i_rg2 (G.gl h2) (G.bmg TF (by decide)) h3 h4 a b⟩
  · simp only [Bool.and_eq_true, decide_eq_true_eq] at h
    obtain ⟨⟨⟨rfl, h2⟩, h3⟩, h4⟩ := h
    exact ⟨i_enm (kE d) G.K (G.gl h2) (G.bmg TF (by decide)) h3 (I.Q _ _ _ _ _ G tk h4), fun hb => by
      simp only [Src.noBor, Bool.not_eq_true'] at hb
      exact i_enm (kN d) G.K (G.gl h2) (G.bmg TF (by decide)) h3 (q_valN hb (I.QN _ _ _ _ _ G tk hb h4))⟩
  · simp only [Bool.and_eq_true, decide_eq_true_eq] at h
    obtain ⟨⟨⟨⟨⟨rfl, h2⟩, h3⟩, h4⟩, h5⟩, h6⟩ := h
    exact ⟨i_zp (kE d) G.K (G.gl h2) (G.bmg TF (by decide)) h3 h4 (I.Q _ _ _ _ _ G tk h5) (I.Q _ _ _ _ _ G tk h6), fun hb => by
      simp only [Src.noBor, Bool.and_eq_true, Bool.not_eq_true'] at hb
      exact i_zp (kN d) G.K (G.gl h2) (G.bmg TF (by decide)) h3 h4 (q_valN hb.1 (I.QN _ _ _ _ _ G tk hb.1 h5)) (q_valN hb.2 (I.QN _ _ _ _ _ G tk hb.2 h6))⟩
  · exact ⟨i_sgn (I.E _ _ _ _ _ G tk h), fun _ => i_sgn (I.E _ _ _ _ _ G tk h)⟩
  · exact ⟨i_seq (kE d) G.K (I.Q _ _ _ _ _ G tk h), fun hb => by
      simp only [Src.noBor, Bool.not_eq_true'] at hb
      exact i_seq (kN d) G.K (q_valN hb (I.QN _ _ _ _ _ G tk hb h))⟩
  · cases h
theorem mF_succ (TF : TbF d) (I : MOk d n k) {X : Cx} {s : SC} {W : WX} {p : P} {e : Expr} (G : Gx d n s X) (tk : Takes X W) (h : mF d.T (k + 1) s p e = true) : PE X e (tfI d (run d.T n) W p) ∧ ∀ e M x M', ev d.T (run d.T n) p e M = .ok x M' → ∃ l, x = .lst l := by
  simp only [mF] at h
  split at h
  · rcases Bool.or_eq_true_iff.mp h with h | h
    · exact ⟨f_lst (I.A _ _ _ _ _ G tk h), z_lst⟩
    · exact ⟨f_lst (mLst1_of G (fun p e q => I.E _ _ _ _ _ G tk q) h), z_lst⟩
  · simp only [Bool.and_eq_true, decide_eq_true_eq] at h
    obtain ⟨⟨⟨rfl, h2⟩, h3⟩, h4⟩ := h
    exact ⟨f_list G.K (G.gl h2) (G.bmg TF (by decide)) h3 (I.Q _ _ _ _ _ G tk h4), z_list⟩
  · simp only [Bool.and_eq_true, decide_eq_true_eq] at h
    obtain ⟨⟨⟨⟨⟨rfl, rfl⟩, h2⟩, h3⟩, h4⟩, h5⟩ := h
    exact ⟨f_lrng G.calm (G.gl h2) (G.bmg TF (by decide)) (G.gl h3) (G.bmg TF (by decide)) h4 (I.E _ _ _ _ _ G tk h5), z_lrng⟩
  · simp only [Bool.and_eq_true] at h
    exact ⟨f_cat (I.Q _ _ _ _ _ G tk h.1) (I.Q _ _ _ _ _ G tk h.2), z_cat⟩
  · simp only [Bool.and_eq_true, decide_eq_true_eq] at h
    obtain ⟨⟨⟨rfl, h2⟩, h3⟩, h4⟩ := h
    exact ⟨f_srt (by have := G.hu; omega) G.K (G.gl h2) (G.bmg TF (by decide)) h3 (I.Q _ _ _ _ _ G tk h4), z_srt⟩
  · rename_i x t src c elt tg iter ifs scope pos
    simp only [Bool.and_eq_true, decide_eq_true_eq] at h
    obtain ⟨⟨⟨⟨⟨⟨h1, h2⟩, h3⟩, h4⟩, h5⟩, h6⟩, h7⟩ := h
    have gb := fun s0 H Ca cl fp => G.blk (scope := scope) s0 H Ca cl fp
    refine ⟨f_comp G.calm G.nd (I.S _ _ _ _ _ _ G tk h1).1 (blkOk_by (by rw [G.nN, G.sc]; exact h2)) h3 (fun s0 H Ca cl fp => mTg_of (gb s0 H Ca cl fp) h4) (fun s0 H Ca cl fp => pts_of ?_) (fun s0 H Ca cl fp => I.E _ _ _ _ _ (gb s0 H Ca cl fp) takesB h6) (fun v => nset_of h5 _ v), z_comp⟩
    split at h7
    · trivial
    · exact (I.T _ _ _ _ _ (gb s0 H Ca cl fp) takesB h7).1
    · cases h7
  · rename_i x t src t2 a elt tg iter tg1 iter1 scope pos
    simp only [Bool.and_eq_true, decide_eq_true_eq, Bool.not_eq_true'] at h
    obtain ⟨⟨⟨⟨⟨⟨⟨⟨⟨h1, h2⟩, h3⟩, h4⟩, h5⟩, h6⟩, h7⟩, h8⟩, h9⟩, h10⟩ := h
    have gb := fun s0 H Ca cl fp => G.blk (scope := scope) s0 H Ca cl fp
    exact ⟨f_comp2 G.calm G.nd (I.S _ _ _ _ _ _ G tk h1).1 (blkOk_by (by rw [G.nN, G.sc]; exact h2)) h3 (fun s0 H Ca cl fp => mTg_of (gb s0 H Ca cl fp) h4) (fun s0 H Ca cl fp => i_val (gb s0 H Ca cl fp).K h8 (I.E _ _ _ _ _ (gb s0 H Ca cl fp) takesB h9)) (fun s0 H Ca cl fp => mTg_of (gb s0 H Ca cl fp) h5)
      (fun s0 H Ca cl fp => I.E _ _ _ _ _ (gb s0 H Ca cl fp) takesB h10) (fun v => nset_of h6 _ v) (fun env v => nset_of h7 env v), z_comp2⟩
  · simp only [Bool.and_eq_true, decide_eq_true_eq] at h
    obtain ⟨⟨⟨⟨⟨rfl, h2⟩, h3⟩, h4⟩, h5⟩, h6⟩ := h
    exact ⟨f_split h2 h3 h4 (I.E _ _ _ _ _ G tk h5) (I.E _ _ _ _ _ G tk h6), z_split⟩
  · cases h
theorem mT_succ (TF : TbF d) (I : MOk d n k) {X : Cx} {s : SC} {W : WX} {p : P} {e : Expr} (G : Gx d n s X) (tk : Takes X W) (h : mT d.T (k + 1) s p e = true) : PT X e (ttI d (run d.T n) W p) ∧ ∀ op vs q, e = .BoolOp op vs q → PW X e (ttI d (run d.T n) W p) := by
  simp only [mT] at h
  split at h
  · refine ⟨?_, fun _ _ _ z => nomatch z⟩
    split at h
    · simp only [Bool.and_eq_true, Bool.not_eq_true'] at h
      obtain ⟨⟨h1, h2⟩, h3⟩ := h
      exact t_in (neg := false) G.K (by have := G.hu; omega) (I.E _ _ _ _ _ G tk h1) (I.O _ _ _ _ _ G tk h2) h3
    · simp only [Bool.and_eq_true, Bool.not_eq_true'] at h
      obtain ⟨⟨h1, h2⟩, h3⟩ := h
      exact t_in (neg := true) G.K (by have := G.hu; omega) (I.E _ _ _ _ _ G tk h1) (I.O _ _ _ _ _ G tk h2) h3
    · simp only [Bool.and_eq_true, Bool.not_eq_true'] at h
      obtain ⟨⟨⟨h1, h2⟩, h3⟩, h4⟩ := h
      obtain ⟨a, b⟩ := mCmp_of G TF h1
      exact t_cmp b a (I.E _ _ _ _ _ G tk h2) (I.E _ _ _ _ _ G tk h3) h4
  · refine ⟨?_, fun _ _ _ z => nomatch z⟩
    simp only [Bool.and_eq_true, Bool.not_eq_true'] at h
    obtain ⟨⟨⟨⟨⟨h1, h2⟩, h3⟩, h4⟩, h5⟩, h6⟩ := h
    exact t_chn (mCmp_of G TF h1).1 (mCmp_of G TF h2).1 (I.E _ _ _ _ _ G tk h3) (I.E _ _ _ _ _ G tk h4) (I.E _ _ _ _ _ G tk h5) h6
  · refine ⟨?_, fun _ _ _ z => nomatch z⟩
    simp only [Bool.and_eq_true, decide_eq_true_eq] at h
    obtain ⟨rfl, h2⟩ := h
    exact t_isn (I.E _ _ _ _ _ G tk h2)
  · refine ⟨?_, fun _ _ _ z => nomatch z⟩
    simp only [Bool.and_eq_true, decide_eq_true_eq, beq_iff_eq] at h
    obtain ⟨⟨rfl, rfl⟩, h2⟩ := h
    exact t_isb (I.E _ _ _ _ _ G tk h2)
  · rename_i a b ea eb es ps
    simp only [Bool.and_eq_true] at h
    obtain ⟨h1, h2⟩ := h
    have w : PW X (.BoolOp .And (ea :: eb :: es) ps) (ttI d (run d.T n) W (.and_ a b)) := by
      refine w_and (I.T _ _ _ _ _ G tk h1).1 ?_
      split at h2
      · exact w_and1 (I.T _ _ _ _ _ G tk h2).1
      · exact (I.T _ _ _ _ _ G tk h2).2 _ _ _ rfl
    exact ⟨PT_of_PW w, fun _ _ _ _ => w⟩
  · rename_i a b ea eb es ps
    simp only [Bool.and_eq_true] at h
    obtain ⟨h1, h2⟩ := h
    have w : PW X (.BoolOp .Or (ea :: eb :: es) ps) (ttI d (run d.T n) W (.or_ a b)) := by
      refine w_or (I.T _ _ _ _ _ G tk h1).1 ?_
      split at h2
      · exact w_or1 (I.T _ _ _ _ _ G tk h2).1
      · exact (I.T _ _ _ _ _ G tk h2).2 _ _ _ rfl
    exact ⟨PT_of_PW w, fun _ _ _ _ => w⟩
  · exact ⟨t_not (I.T _ _ _ _ _ G tk h).1, fun _ _ _ z => nomatch z⟩
  · exact ⟨t_val (I.E _ _ _ _ _ G tk h) (fun _ => rfl), fun _ _ _ z => nomatch z⟩
  · exact ⟨t_val (I.E _ _ _ _ _ G tk h) (fun _ => rfl), fun _ _ _ z => nomatch z⟩
  · exact ⟨t_val (I.E _ _ _ _ _ G tk h) (fun _ => rfl), fun _ _ _ z => nomatch z⟩
  · exact ⟨t_val (I.E _ _ _ _ _ G tk h) (fun _ => rfl), fun _ _ _ z => nomatch z⟩
  · exact ⟨t_val (I.E _ _ _ _ _ G tk h) (fun _ => rfl), fun _ _ _ z => nomatch z⟩
  · cases h
end
end Rb

/-! RbMainF: what matches is as the small language says: values; the induction. Own work. -/
namespace Rb
open PySem PySem.Spec PyProof.Rows
open L2 hiding XE Takes CX passes_call takes_of MkP PMk ps_raise mk_of ps_try_as HdsOk ps_try_many pmk_own passAt St
open L2N
section
variable {d : Wd} {n k : Nat} (TF : TbF d)
theorem mA_nil {T : Tb} {s : SC} {ps : List P} : ∀ {k : Nat}, mA T k s ps [] = true → ps = [] := by
  intro k h
  cases k with
  | zero => simp [mA] at h
  | succ k => cases ps with
    | nil => rfl
    | cons p ps => simp [mA] at h
theorem fnB_of (TF : TbF d) {s : SC} {f : Nat} {x : Str} (h : fnB d.T s f x = true) : ∃ fd, d.T.fn f = some fd ∧ x = Str.ofString fd.name ∧ d.mg x = some (.ref (d.fa f)) ∧ glB s.sc x = true ∧ (x == ("__debug__" : Str)) = false := by
  unfold fnB at h
  split at h
  · rename_i fd hf
    simp only [Bool.and_eq_true, decide_eq_true_eq] at h
    obtain ⟨⟨⟨rfl, h2⟩, h3⟩, h4⟩ := h
    exact ⟨fd, hf, rfl, TF.fnG f fd hf h2, h3, (dbg_of h4).1⟩
  · cases h
theorem mnB_of {T : Tb} {m : Nat} {x : Str} (h : mnB T m x = true) : ∃ fd, T.fn m = some fd ∧ x = Str.ofString fd.name := by
  unfold mnB at h
  split at h
  · exact ⟨_, by assumption, by simpa using h⟩
  · cases h
theorem kwB_of {T : Tb} {f : Nat} {kws : List Keyword} {tl : Bool} (h : kwB T f kws tl = true) : ∃ fd, T.fn f = some fd ∧ kws.map (·.arg) = (if tl then (fd.ps.map Str.ofString).tail else fd.ps.map Str.ofString).map some := by
  unfold kwB at h
  split at h
  · exact ⟨_, by assumption, by simpa using h⟩
  · cases h
theorem clB_of (TF : TbF d) {s : SC} {c : Nat} {x : Str} (h : clB d.T s c x = true) : ∃ f fd, d.T.init c = some f ∧ d.T.fn f = some fd ∧ d.mg x = some (.ref (d.ca c)) ∧ glB s.sc x = true ∧ (x == ("__debug__" : Str)) = false := by
  unfold clB at h
  simp only [Bool.and_eq_true, decide_eq_true_eq] at h
  obtain ⟨⟨⟨rfl, h2⟩, h3⟩, h4⟩ := h
  split at h4
  · rename_i f hf
    obtain ⟨fd, hfd⟩ := Option.isSome_iff_exists.mp h4
    exact ⟨f, fd, hf, hfd, (TF.clF c (by rw [hf]; rfl)).mg, h2, (dbg_of h3).1⟩
  · cases h4
theorem mE_succ (TF : TbF d) (I : MOk d n k) {X : Cx} {s : SC} {W : WX} {p : P} {e : Expr} (G : Gx d n s X) (tk : Takes X W) (h : mE d.T (k + 1) s p e = true) : PE X e (teI d (run d.T n) W p) := by
  have hu : X.A.units + 65 < cLine := by have := G.hu; omega
  simp only [mE] at h
  split at h
  · obtain ⟨h1, h2, h3, h4⟩ := G.nm h
    exact s_nm h1 h2 h3 h4
  · exact mCst_of h
  · simp only [Bool.and_eq_true, decide_eq_true_eq] at h
    obtain ⟨⟨rfl, h2⟩, h3⟩ := h
    rename_i g _
    cases hg : d.T.glo g with
    | none =>
      refine ⟨fun pins s0 sg H Q I q => ?_⟩
      obtain ⟨F, io, e, M, r, q⟩ := q
      simp only [ev] at q
      rw [hg] at q
      exact False.elim q
    | some D0 =>
      obtain ⟨u, v, a, b, c⟩ := TF.glo g D0 hg
      refine s_glo (G.gl h2) (by rw [G.mg]; exact a) b (dbg_of h3).1 fun D1 e => ?_
      rw [hg] at e
      cases e
      exact c
  · simp only [Bool.and_eq_true] at h
    exact s_bin (mBin_of G h.1.1) (I.E _ _ _ _ _ G tk h.1.2) (I.E _ _ _ _ _ G tk h.2)
  · split at h
    · simp only [Bool.and_eq_true, Bool.not_eq_true'] at h
      obtain ⟨⟨h1, h2⟩, h3⟩ := h
      exact s_in (neg := false) G.K hu (I.E _ _ _ _ _ G tk h1) (I.O _ _ _ _ _ G tk h2) h3
    · simp only [Bool.and_eq_true, Bool.not_eq_true'] at h
      obtain ⟨⟨h1, h2⟩, h3⟩ := h
      exact s_in (neg := true) G.K hu (I.E _ _ _ _ _ G tk h1) (I.O _ _ _ _ _ G tk h2) h3
    · simp only [Bool.and_eq_true, Bool.not_eq_true'] at h
      obtain ⟨⟨⟨h1, h2⟩, h3⟩, h4⟩ := h
      obtain ⟨a, b⟩ := mCmp_of G TF h1
      exact s_cmp b a (I.E _ _ _ _ _ G tk h2) (I.E _ _ _ _ _ G tk h3) h4
  · simp only [Bool.and_eq_true, Bool.not_eq_true'] at h
    obtain ⟨⟨⟨⟨⟨h1, h2⟩, h3⟩, h4⟩, h5⟩, h6⟩ := h
    exact s_chn (mCmp_of G TF h1).1 (mCmp_of G TF h2).1 (I.E _ _ _ _ _ G tk h3) (I.E _ _ _ _ _ G tk h4) (I.E _ _ _ _ _ G tk h5) h6
  · simp only [Bool.and_eq_true, decide_eq_true_eq] at h
    obtain ⟨rfl, h2⟩ := h
    exact s_isn (I.E _ _ _ _ _ G tk h2)
  · simp only [Bool.and_eq_true, decide_eq_true_eq, beq_iff_eq] at h
    obtain ⟨⟨rfl, rfl⟩, h2⟩ := h
    exact s_isb (I.E _ _ _ _ _ G tk h2)
  · simp only [Bool.and_eq_true] at h
    obtain ⟨h1, h2⟩ := h
    refine s_and (I.E _ _ _ _ _ G tk h1) ?_
    split at h2
    · exact s_one (I.E _ _ _ _ _ G tk h2)
    · exact I.E _ _ _ _ _ G tk h2
  · simp only [Bool.and_eq_true] at h
    obtain ⟨h1, h2⟩ := h
    refine s_or (I.E _ _ _ _ _ G tk h1) ?_
    split at h2
    · exact s_one (I.E _ _ _ _ _ G tk h2)
    · exact I.E _ _ _ _ _ G tk h2
  · exact s_not (I.E _ _ _ _ _ G tk h)
  · exact s_neg (I.E _ _ _ _ _ G tk h)
  · simp only [Bool.and_eq_true] at h
    exact s_ite (I.T _ _ _ _ _ G tk h.1.1).1 (I.E _ _ _ _ _ G tk h.1.2) (I.E _ _ _ _ _ G tk h.2)
  · simp only [Bool.and_eq_true] at h
    obtain ⟨⟨h1, h2⟩, h3⟩ := h
    rename_i _ args fx es _
    unfold mFn at h1
    split at h1
    · obtain ⟨fd, hf, rfl, hm, hg, hd⟩ := fnB_of TF h1
      cases es with
      | nil => rw [mA_nil h3]; exact s_call0 G.toGd hf (TF.fnF _ _ hf) tk (G.gl hg) hm hd
      | cons e es => exact s_call G.toGd hf (TF.fnF _ _ hf) tk (G.gl hg) hm hd h2 (I.A _ _ _ _ _ G tk h3)
    · split at h1
      · rename_i hst
        simp only [Bool.and_eq_true, decide_eq_true_eq] at h1
        obtain ⟨⟨⟨⟨a1, a2⟩, a3⟩, a4⟩, a5⟩ := h1
        obtain ⟨_, _, _, _, hm, hg, hd⟩ := clB_of TF a1
        obtain ⟨fd, hf, rfl⟩ := mnB_of a2
        cases es with
        | nil => cases a5
        | cons e es => exact s_stat G.toGd hf (TF.fnF _ _ hf) (TF.stt _ _ _ hf hst) tk (G.gl hg) hm hd h2 a3 a4 (I.A _ _ _ _ _ G tk h3)
      · cases h1
    · cases h1
  · simp only [Bool.and_eq_true] at h
    obtain ⟨⟨⟨h1, h2⟩, h3⟩, h4⟩ := h
    obtain ⟨fd, hf, rfl, hm, hg, hd⟩ := fnB_of TF h1
    obtain ⟨fd', hf', hk⟩ := kwB_of h3
    cases hf.symm.trans hf'
    exact s_callk G.toGd hf (TF.fnF _ _ hf) h2 tk (G.gl hg) hm hd hk (I.K _ _ _ _ _ G tk h4)
  · simp only [Bool.and_eq_true] at h
    obtain ⟨⟨⟨h1, h2⟩, h0⟩, h3⟩ := h
    obtain ⟨f, fd, hi, hf, hm, hg, hd⟩ := clB_of TF h1
    rename_i _ es _
    cases es with
    | nil => cases h0
    | cons e es => exact s_new G.toGd hi hf (TF.clF _ (by rw [hi]; rfl)) tk (G.gl hg) hm hd h2 (I.A _ _ _ _ _ G tk h3)
  · simp only [Bool.and_eq_true] at h
    obtain ⟨⟨h1, h2⟩, h3⟩ := h
    obtain ⟨f, fd, hi, hf, hm, hg, hd⟩ := clB_of TF h1
    rw [hi] at h2
    simp only [Bool.and_eq_true] at h2
    obtain ⟨fd', hf', hk⟩ := kwB_of h2.2
    cases hf.symm.trans hf'
    exact s_newk G.toGd hi hf (TF.clF _ (by rw [hi]; rfl)) h2.1 tk (G.gl hg) hm hd hk (I.K _ _ _ _ _ G tk h3)
  · simp only [Bool.and_eq_true] at h
    obtain ⟨⟨h1, h2⟩, h3⟩ := h
    obtain ⟨f, fd, hi, hf, hm, hg, hd⟩ := clB_of TF h1
    rename_i _ es _
    cases es with
    | nil => rw [mA_nil h3]; exact s_newo0 G.toGd hi hf (TF.clF _ (by rw [hi]; rfl)) tk (G.gl hg) hm hd
    | cons e es => exact s_newo G.toGd hi hf (TF.clF _ (by rw [hi]; rfl)) tk (G.gl hg) hm hd h2 (I.A _ _ _ _ _ G tk h3)
  · simp only [Bool.and_eq_true, decide_eq_true_eq] at h
    obtain ⟨⟨⟨⟨⟨⟨⟨h1, h2⟩, h3⟩, h4⟩, h5⟩, h6⟩, h7⟩, h8⟩ := h
    obtain ⟨fd, hf, rfl⟩ := mnB_of h1
    obtain ⟨hc, hm⟩ := TF.meth _ _ _ hf h2
    rename_i es _
    cases es with
    | nil => rw [mA_nil h8]; exact s_meth0 G.toGd hf (TF.fnF _ _ hf) hc hm tk h3 h5 (I.E _ _ _ _ _ G tk h7)
    | cons e es => exact s_meth G.toGd hf (TF.fnF _ _ hf) hc hm tk h3 h4 h5 h6 (I.E _ _ _ _ _ G tk h7) (I.A _ _ _ _ _ G tk h8)
  · simp only [Bool.and_eq_true] at h
    obtain ⟨⟨⟨h1, h2⟩, h3⟩, h4⟩ := h
    obtain ⟨fd, hf, rfl⟩ := mnB_of h1
    obtain ⟨hc, pa, hp⟩ := TF.prp _ _ _ hf h2
    exact s_prop G.toGd hf (TF.fnF _ _ hf) hc hp h3 (I.E _ _ _ _ _ G tk h4)
  · simp only [Bool.and_eq_true, decide_eq_true_eq] at h
    obtain ⟨⟨⟨⟨rfl, h2⟩, h3⟩, h4⟩, h5⟩ := h
    exact s_att G.K (TF.clF _ h2).cls ((TF.clF _ h2).att _ h3) h4 (I.E _ _ _ _ _ G tk h5)
  · simp only [Bool.and_eq_true, decide_eq_true_eq] at h
    obtain ⟨⟨⟨rfl, h2⟩, h3⟩, h4⟩ := h
    exact s_len G.K (G.gl h2) (G.bmg TF (by decide)) h3 (I.O _ _ _ _ _ G tk h4)
  · simp only [Bool.and_eq_true, decide_eq_true_eq] at h
    obtain ⟨⟨⟨rfl, h2⟩, h3⟩, h4⟩ := h
    exact s_tupl G.K (G.gl h2) (G.bmg TF (by decide)) h3 (I.Q _ _ _ _ _ G tk h4)
  · simp only [Bool.and_eq_true, decide_eq_true_eq] at h
    obtain ⟨⟨⟨rfl, h2⟩, h3⟩, h4⟩ := h
    exact s_sum G.calm G.K (G.gl h2) (G.bmg TF (by decide)) h3 (I.Q _ _ _ _ _ G tk h4)
  · simp only [Bool.and_eq_true, decide_eq_true_eq] at h
    obtain ⟨⟨⟨rfl, h2⟩, h3⟩, h4⟩ := h
    exact s_all G.calm (G.gl h2) (G.bmg TF (by decide)) h3 (I.Q _ _ _ _ _ G tk h4)
  · simp only [Bool.and_eq_true, decide_eq_true_eq] at h
    obtain ⟨⟨⟨rfl, h2⟩, h3⟩, h4⟩ := h
    exact s_any G.calm (G.gl h2) (G.bmg TF (by decide)) h3 (I.Q _ _ _ _ _ G tk h4)
  · simp only [Bool.and_eq_true, decide_eq_true_eq] at h
    obtain ⟨⟨⟨rfl, h2⟩, h3⟩, h4⟩ := h
    exact s_mins G.calm (G.gl h2) (G.bmg TF (by decide)) h3 (I.Q _ _ _ _ _ G tk h4)
  · simp only [Bool.and_eq_true, decide_eq_true_eq] at h
    obtain ⟨⟨⟨⟨⟨rfl, h2⟩, h3⟩, h4⟩, h5⟩, h6⟩ := h
    exact s_min2 G.calm (G.gl h2) (G.bmg TF (by decide)) h3 h4 (I.E _ _ _ _ _ G tk h5) (I.E _ _ _ _ _ G tk h6)
  · simp only [Bool.and_eq_true, decide_eq_true_eq] at h
    obtain ⟨⟨⟨⟨⟨rfl, h2⟩, h3⟩, h4⟩, h5⟩, h6⟩ := h
    exact s_max2 G.calm (G.gl h2) (G.bmg TF (by decide)) h3 h4 (I.E _ _ _ _ _ G tk h5) (I.E _ _ _ _ _ G tk h6)
  · simp only [Bool.and_eq_true, decide_eq_true_eq] at h
    obtain ⟨⟨⟨⟨⟨⟨rfl, h0⟩, h2⟩, h3⟩, h4⟩, h5⟩, h6⟩ := h
    exact s_gcd (G.gl h2) (by rw [G.mg]; exact TF.gcd h0) h3 h4 (I.E _ _ _ _ _ G tk h5) (I.E _ _ _ _ _ G tk h6)
  · simp only [Bool.and_eq_true, decide_eq_true_eq] at h
    obtain ⟨⟨⟨rfl, h2⟩, h3⟩, h4⟩ := h
    exact s_int (G.gl h2) (G.bmg TF (by decide)) h3 (I.E _ _ _ _ _ G tk h4)
  · simp only [Bool.and_eq_true, decide_eq_true_eq] at h
    obtain ⟨⟨⟨rfl, h2⟩, h3⟩, h4⟩ := h
    exact s_abs (G.gl h2) (G.bmg TF (by decide)) h3 (I.E _ _ _ _ _ G tk h4)
  · simp only [Bool.and_eq_true, decide_eq_true_eq] at h
    obtain ⟨⟨⟨rfl, h2⟩, h3⟩, h4⟩ := h
    exact s_str (G.gl h2) (G.bmg TF (by decide)) h3 (I.E _ _ _ _ _ G tk h4)
  · simp only [Bool.and_eq_true, decide_eq_true_eq] at h
    obtain ⟨⟨⟨⟨rfl, h0⟩, h2⟩, h3⟩, h4⟩ := h
    exact s_repr (G.gd h0) hu (G.gl h2) (G.bmg TF (by decide)) h3 G.K (I.E _ _ _ _ _ G tk h4)
  · simp only [Bool.and_eq_true, decide_eq_true_eq] at h
    obtain ⟨⟨⟨⟨⟨rfl, rfl⟩, h2⟩, h3⟩, h4⟩, h5⟩ := h
    exact s_trng G.calm (G.gl h2) (G.bmg TF (by decide)) (G.gl h3) (G.bmg TF (by decide)) h4 (I.E _ _ _ _ _ G tk h5)
  · simp only [Bool.and_eq_true, decide_eq_true_eq] at h
    obtain ⟨⟨⟨⟨⟨rfl, h2⟩, h3⟩, h4⟩, h5⟩, h6⟩ := h
    obtain ⟨c, u, hc, hf, _⟩ := mTy_of G TF h6
    exact s_isi1 G.K TF.clF (G.gl h2) (G.bmg TF (by decide)) h3 h4 (I.E _ _ _ _ _ G tk h5) hc hf
  · simp only [Bool.and_eq_true, decide_eq_true_eq] at h
    obtain ⟨⟨⟨⟨⟨⟨⟨rfl, h2⟩, h3⟩, h4⟩, h5⟩, h6⟩, h7⟩, h8⟩ := h
    obtain ⟨c, u, hc, hf, _⟩ := mTy_of G TF h7
    obtain ⟨c2, u2, hc2, hf2, _⟩ := mTy_of G TF h8
    exact s_isi2 G.K TF.clF (G.gl h2) (G.bmg TF (by decide)) h3 h4 h5 (I.E _ _ _ _ _ G tk h6) hc hf hc2 hf2
  · simp only [Bool.and_eq_true] at h
    exact s_ix G.K h.1.1 (I.O _ _ _ _ _ G tk h.1.2) (I.E _ _ _ _ _ G tk h.2)
  · simp only [Bool.and_eq_true] at h
    exact s_dget (by omega) (nosl_of h.1.1) (I.E _ _ _ _ _ G tk h.1.2) (I.E _ _ _ _ _ G tk h.2)
  · exact s_newd
  · simp only [Bool.and_eq_true] at h
    exact s_slf G.K (I.O _ _ _ _ _ G tk h.1) (I.E _ _ _ _ _ G tk h.2)
  · simp only [Bool.and_eq_true] at h
    exact s_slt G.K (I.O _ _ _ _ _ G tk h.1) (I.E _ _ _ _ _ G tk h.2)
  · simp only [Bool.and_eq_true, decide_eq_true_eq] at h
    obtain ⟨rfl, h2⟩ := h
    exact s_rev G.K (I.E _ _ _ _ _ G tk h2)
  · simp only [Bool.and_eq_true, decide_eq_true_eq] at h
    obtain ⟨⟨⟨⟨⟨rfl, h2⟩, h3⟩, h4⟩, h5⟩, h6⟩ := h
    exact s_join G.K h2 h3 h4 (I.E _ _ _ _ _ G tk h5) (I.Q _ _ _ _ _ G tk h6)
  · simp only [Bool.and_eq_true, decide_eq_true_eq] at h
    obtain ⟨⟨⟨⟨⟨rfl, h2⟩, h3⟩, h4⟩, h5⟩, h6⟩ := h
    exact s_part G.K h2 h3 h4 (I.E _ _ _ _ _ G tk h5) (I.E _ _ _ _ _ G tk h6)
  · exact s_fstr (mJ_of (fun p e q => I.E _ _ _ _ _ G tk q) h)
  · exact s_tup (I.A _ _ _ _ _ G tk h)
  · exact s_newc (I.F _ _ _ _ _ G tk h).1
  · obtain ⟨a, b⟩ := I.F _ _ _ _ _ G tk h
    exact fz_of a b
theorem mOk (TF : TbF d) : ∀ k, MOk d n k
  | 0 => mE_zero
  | k + 1 => by
    have I := mOk TF k
    exact ⟨fun _ _ _ _ _ G tk h => mE_succ TF I G tk h, fun _ _ _ _ _ G tk h => mF_succ TF I G tk h, fun _ _ _ _ _ G tk h => mQ_succ I G tk h, fun _ _ _ _ _ G tk hb h => mQN_succ I G tk hb h, fun _ _ _ _ _ G tk h => mO_succ I G tk h, fun _ _ _ _ _ G tk h => mA_succ I G tk h, fun _ _ _ _ _ G tk h => mK_succ I G tk h, fun _ _ _ _ _ _ G tk h => mS_succ TF I G tk h, fun _ _ _ _ _ G tk h => mT_succ TF I G tk h⟩
end
end Rb

/-! RbMainS: statements: the match and its soundness. Own work. -/
namespace Rb
open PySem PySem.Spec PyProof.Rows
open L2 hiding XE Takes CX passes_call takes_of MkP PMk ps_raise mk_of ps_try_as HdsOk ps_try_many pmk_own passAt St
open L2N
/-- no comprehension of a set, of a dict -/
def nsd : Expr → Bool
  | .SetComp _ _ _ _ => false | .DictComp _ _ _ _ _ => false | _ => true
def ntup : Expr → Bool
  | .Tuple _ _ _ => false | _ => true
/-- a comprehension that fills the name at once -/
def swB (s : SC) (x : Str) (xp : Pos) : Expr → Bool
  | .ListComp _ _ sc p => (s.sc.names.lookup x == some .local) && xp.line == p.line && !(sc.names.any fun (n, k) => n == x && (k == .local || k == .cell))
  | _ => false
/-- what a clause gives: the error's field, alone or behind a word -/
def mXe (i : Nat) (nm : Str) : P → Expr → Option (Str × Option Str)
  | .exat j f, .Attribute (.Name y _) g _ => if j = i ∧ y = nm ∧ f = g then some (f, none) else none
  | .tup [.cst (.str w), .exat j f], .Tuple [.Constant (.str w2) _ _, .Attribute (.Name y _) g _] _ _ => if j = i ∧ y = nm ∧ f = g ∧ w = w2 then some (f, some w) else none
  | _, _ => none
def mC1 (T : Tb) (s : SC) : Nat × Option Nat × List S → ExceptHandler → Bool
  | (h, some i, [.ret p]), .ExceptHandler (some (.Name x _)) (some nm) [.Return (some ee) _] _ => decide (x = Str.ofString (T.cname h)) && glB s.sc x && !isDbg x && T.isE h && decide (s.N[i]? = some nm) && decide (s.sc.names.lookup nm = some .local) && !isDbg nm && (mXe i nm p ee).isSome
  | _, _ => false
def mCl (T : Tb) (s : SC) : List (Nat × Option Nat × List S) → List ExceptHandler → Bool
  | [], hds => hds.isEmpty
  | c :: r, hds => match hds with
    | hd :: hds => mC1 T s c hd && mCl T s r hds
    | [] => false
/-- unnamed clauses that return a written text -/
def mU1 (T : Tb) (s : SC) : Nat × Option Nat × List S → ExceptHandler → Bool
  | (h, none, [.ret (.cst (.str w))]), .ExceptHandler (some (.Name x _)) none [.Return (some (.Constant (.str w2) _ _)) _] _ => decide (x = Str.ofString (T.cname h)) && glB s.sc x && !isDbg x && T.isE h && decide (w = w2)
  | _, _ => false
def mUl (T : Tb) (s : SC) : List (Nat × Option Nat × List S) → List ExceptHandler → Bool
  | [], hds => hds.isEmpty
  | c :: r, hds => match hds with
    | hd :: hds => mU1 T s c hd && mUl T s r hds
    | [] => false
/-- a clause that returns a def's call -/
def mHl (T : Tb) (s : SC) : List (Nat × Option Nat × List S) → List ExceptHandler → Bool
  | [(h, some i, [.ret (.call g [.exat j f, .cst (.int z)])])], [.ExceptHandler (some (.Name x _)) (some nm) [.Return (some (.Call (.Name x2 _) [.Attribute (.Name y _) f2 _, .Constant (.int z2) _ _] [] _)) _] _] =>
    decide (j = i) && decide (y = nm) && decide (f = f2) && decide (z = z2) && decide (x = Str.ofString (T.cname h)) && glB s.sc x && !isDbg x && T.isE h && decide (s.N[i]? = some nm) && decide (s.sc.names.lookup nm = some .local) && !isDbg nm && fnB T s g x2 && T.hot g
  | _, _ => false
/-- a clause whose suite asks for the error's class -/
def mKl (T : Tb) (s : SC) : List (Nat × Option Nat × List S) → List ExceptHandler → Bool
  | [(h, some i, [.xsu i2 kd vl ow kk g cs])], [.ExceptHandler (some (.Name x _)) (some nm) su _] =>
    decide (i2 = i) && decide (x = Str.ofString (T.cname h)) && glB s.sc x && !isDbg x && T.isE h && decide (s.N[i]? = some nm) && decide (s.sc.names.lookup nm = some .local) && kSu T s ⟨i, kd, vl, ow, kk, g, cs⟩ su
  | _, _ => false
mutual
def mSt (T : Tb) : Nat → SC → S → Stmt → Bool
  | 0, _, _, _ => false
  | n + 1, s, p, stm => match p, stm with
    | .asg (.nm i) p, .Assign [.Name x xp] e _ => tgB s i x && nsd e && (if swB s x xp e then mF T n s p e && decide (s.sc.names.lookup x = some .local) else mE T n s p e)
    | .asg t p, .Assign [.Tuple es a b] e _ => mTg s t (.Tuple es a b) && ntup e && mE T n s p e
    | .own i p, .Assign [.Name x xp] e _ => tgB s i x && nsd e && (if swB s x xp e then mF T n s p e && decide (s.sc.names.lookup x = some .local) else mG T n s p e)
    | .app i p, .Expr (.Call (.Attribute (.Name x _) f ap) [e] [] px) _ => decide (f = "append") && nmB s i x && nst e && (ap.endLine == px.line) && mE T n s p e
    | .ext i p, .Expr (.Call (.Attribute (.Name x _) f ap) [e] [] px) _ => decide (f = "extend") && nmB s i x && nst e && (ap.endLine == px.line) && mE T n s p e
    | .pop i p, .Expr (.Call (.Attribute (.Name x _) f ap) [e] [] px) _ => decide (f = "pop") && nmB s i x && nst e && (ap.endLine == px.line) && mE T n s p e
    | .capp o p, .Expr (.Call (.Attribute eo f ap) [e] [] px) _ => decide (f = "append") && nsup eo && nst e && (ap.endLine == px.line) && mE T n s o eo && mE T n s p e
    | .seti i k p, .Assign [.Subscript (.Name x _) ek _] e _ => nmB s i x && nsl ek && mE T n s p e && mE T n s k ek
    | .dput o k p, .Assign [.Subscript eo ek _] e _ => mE T n s p e && mE T n s o eo && mE T n s k ek
    | .cset o k p, .Assign [.Subscript eo ek _] e _ => nsl ek && mE T n s p e && mE T n s o eo && mE T n s k ek
    | .swp o1 i1 o2 i2 p, .Assign [.Tuple [.Subscript e1 k1 _, .Subscript e2 k2 _] _ _] e _ => nsl k1 && nsl k2 && mE T n s p e && mE T n s o1 e1 && mE T n s i1 k1 && mE T n s o2 e2 && mE T n s i2 k2
    | .setf o f p, .Assign [.Attribute eo g _] e _ => decide (f = g) && mE T n s p e && mE T n s o eo
    | .exp p, .Expr e _ => nlc e && mE T n s p e
    | .ife c a b, .If ec sa sb _ => mT T n s c ec && mBk T n s a sa && mBk T n s b sb
    | .for_ t src b, .For tg iter body [] _ => mS T n s src tg iter && src.noBor && mTg s t tg && nset iter && mBk T n s b body
    | .whl c b, .While ec body [] _ => mT T n s c ec && mBk T n s b body
    | .ret p, .Return (some e) _ => mE T n s p e
    | .brk, .Break _ => true
    | .cnt, .Continue _ => true
    | .pass, .Pass _ => true
    | .rai c p, .Raise (some (.Call (.Name x _) [e] [] _)) none _ => decide (x = Str.ofString (T.cname c)) && glB s.sc x && !isDbg x && (T.efld c).isSome && nst e && mE T n s p e
    | .try_ b hs, .Try body (h0 :: hds) [] [] _ => (mCl T s hs (h0 :: hds) || mUl T s hs (h0 :: hds) || mHl T s hs (h0 :: hds) || mKl T s hs (h0 :: hds)) && mBk T n s b body
    | .bad, _ => true
    | _, _ => false
def mBk (T : Tb) : Nat → SC → List S → List Stmt → Bool
  | 0, _, _, _ => false
  | n + 1, s, b, sts => match b, sts with
    | .frz i :: b, sts => mBk T n s b sts
    | [], [] => true
    | b, .Expr (.Constant (.str _) _ _) _ :: rest => mBk T n s b rest
    | p :: b, stm :: rest => mSt T n s p stm && mBk T n s b rest
    | _, _ => false
end
/-- a context of a def's body -/
structure Gs (d : Wd) (n : Nat) (s : SC) (X : Cx) (W : WX) : Prop extends Gx d n s X where
  fc : s.fc = none
  bk : s.sc.kind = .function
  tk : Takes X W
  po : PassesOwn (model X.prog X.w) X.A X.env X.xe
  stk : X.stack = X.env :: X.outer
  frm : X.env.frame = some X.env.locals
  hns : ∀ f fd, d.T.fn f = some fd → d.T.hot f = true → L2H.FnH X.prog X.w X.K X.mg X.base (L2N.CX X.prog X.w) (2 * n) (d.fa f) (d.fdt f) (fd.ps.map Str.ofString) (spI d n f)
section
variable {d : Wd} {n k : Nat} {X : Cx} {s : SC} {W : WX} {x : Str} {i : Nat} {xp pos : Pos}
theorem sw_name (G : Gs d n s X W) {e : Expr} (h : nsd e = true) (l : Nat) : swapsWith e (some (.Name x xp)) l X.env = pure (swB s x xp e) := by
  cases e <;> first | (cases h; done) | rfl | skip
  show (pure _ : Sem Bool) = pure _
  have h1 : X.env.blockKind = .function := by
    unfold Env.blockKind; rw [G.sc, G.bk]; rfl
  rw [h1]
  unfold Env.kindOf
  rw [G.sc]
  rfl
theorem sw_false (G : Gs d n s X W) {e : Expr} (h : nsd e = true) {l : Nat} (hs : swB s x xp e = false) : swapsWithSole [.Name x xp] e l X.env = pure false := by
  show swapsWith e (some (.Name x xp)) l X.env = pure false
  rw [sw_name G h, hs]
theorem sw_tup {e : Expr} {es : List Expr} {a : Nat} {b : Pos} (l : Nat) : swapsWithSole [.Tuple es a b] e l X.env = pure false := by cases e <;> rfl
theorem sw_sub {e eo ek : Expr} {b : Pos} (l : Nat) : swapsWithSole [.Subscript eo ek b] e l X.env = pure false := by cases e <;> rfl
theorem sw_dsub {e eo ek : Expr} {b : Pos} (l : Nat) : swapsWith e (some (.Subscript eo ek b)) l X.env = pure false := by cases e <;> rfl
theorem sw_att {e eo : Expr} {f : Str} {b : Pos} (l : Nat) : swapsWith e (some (.Attribute eo f b)) l X.env = pure false := by cases e <;> rfl
theorem sw_non {e : Expr} (h : nlc e = true) (l : Nat) : swapsWith e none l X.env = pure false := by cases e <;> first | (cases h; done) | rfl
theorem ss_name {e : Expr} : swappedStores [.Name x xp] e X.env = pure none := by cases e <;> rfl
theorem ss_sub {e eo ek : Expr} {b : Pos} : swappedStores [.Subscript eo ek b] e X.env = pure none := by cases e <;> rfl
theorem ss_sub2 {e e1 k1 e2 k2 : Expr} {a : Nat} {b p1 p2 : Pos} : swappedStores [.Tuple [.Subscript e1 k1 p1, .Subscript e2 k2 p2] a b] e X.env = pure none := by
  cases e <;> first
  | rfl
  | (simp only [swappedStores]
     split
     · rfl
     · simp)
theorem ss_tup {e : Expr} {es : List Expr} {a : Nat} {b : Pos} (h : ntup e = true) : swappedStores [.Tuple es a b] e X.env = pure none := by cases e <;> first | (cases h; done) | rfl
theorem as_sub {eo ek : Expr} {spos : Pos} (h : nsl ek = true) : ∀ v, assign (.Subscript eo ek spos) X.env v = (do
      let ov ← holding [v] (eval eo X.env)
      let iv ← holding [v, ov] (eval ek X.env)
      standAt spos
      holding [v, ov, iv] (setItem ov iv v)
      release [v, ov, iv] []) := by
  intro v
  cases ek <;> first | (cases h; done) | rfl
/-- a comprehension straight to its name -/
theorem mF_set (TF : TbF d) (G : Gs d n s X W) {p : P} {e : Expr} (ht : tgB s i x = true) (hn : nsd e = true) (hsw : swB s x xp e = true) (hl : s.sc.names.lookup x = some .local) (h : mF d.T k s p e = true) :
    PS X (.Assign [.Name x xp] e pos) (tAsg (tfI d (run d.T n) W p) (gName i)) := by
  have sw := sw_name (xp := xp) (x := x) G hn pos.line
  rw [hsw] at sw
  have hy := (G.tg ht).1
  have hyl : X.env.scope.names.lookup x = some .local := by rw [G.sc]; exact hl
  cases e with
  | ListComp elt gens scope cp =>
    cases k with
    | zero => simp only [mF] at h; cases h
    | succ k =>
      have I := mOk (n := n) TF k
      simp only [mF] at h
      split at h
      case h_6 q1 q2 =>
        cases q2
        rename_i x0 t src c tg iter ifs
        simp only [Bool.and_eq_true, decide_eq_true_eq] at h
        obtain ⟨⟨⟨⟨⟨⟨h1, h2⟩, h3⟩, h4⟩, h5⟩, h6⟩, h7⟩ := h
        have gb := fun s0 H Ca cl fp => G.toGx.blk (scope := scope) s0 H Ca cl fp
        refine PS_imp (ps_setLc G.calm G.nd hy hyl sw (I.S _ _ _ _ _ _ G.toGx G.tk h1).1 (blkOk_by (by rw [G.nN, G.sc]; exact h2)) (fun s0 H Ca cl fp => mTg_of (gb s0 H Ca cl fp) h4) (fun s0 H Ca cl fp => pts_of ?_) (fun s0 H Ca cl fp => I.E _ _ _ _ _ (gb s0 H Ca cl fp) takesB h6) (fun v => nset_of h5 _ v)) fun De sg H z => lc_imp h3 _ _ _ z
        split at h7
        · trivial
        · exact (I.T _ _ _ _ _ (gb s0 H Ca cl fp) takesB h7).1
        · cases h7
      case h_7 q1 q2 =>
        cases q2
        rename_i x0 t src t2 a tg iter tg1 iter1
        simp only [Bool.and_eq_true, decide_eq_true_eq, Bool.not_eq_true'] at h
        obtain ⟨⟨⟨⟨⟨⟨⟨⟨⟨h1, h2⟩, h3⟩, h4⟩, h5⟩, h6⟩, h7⟩, h8⟩, h9⟩, h10⟩ := h
        have gb := fun s0 H Ca cl fp => G.toGx.blk (scope := scope) s0 H Ca cl fp
        refine PS_imp (ps_setLc2 (vs1 := t2.ix) G.calm G.nd hy hyl sw (I.S _ _ _ _ _ _ G.toGx G.tk h1).1 (blkOk_by (by rw [G.nN, G.sc]; exact h2)) (fun i hi => by rw [h3]; exact List.mem_append_right _ hi) (fun s0 H Ca cl fp => mTg_of (gb s0 H Ca cl fp) h4) (fun _ _ _ _ _ => pts_nil) (fun s0 H Ca cl fp => i_val (gb s0 H Ca cl fp).K h8 (I.E _ _ _ _ _ (gb s0 H Ca cl fp) takesB h9)) (fun s0 H Ca cl fp => mTg_of (gb s0 H Ca cl fp) h5) (fun _ _ _ _ _ => pts_nil)
          (fun s0 H Ca cl fp => I.E _ _ _ _ _ (gb s0 H Ca cl fp) takesB h10) (fun v => nset_of h6 _ v) (fun env v => nset_of h7 env v)) fun De sg H z => ?_
        exact lc2_imp h3 rfl _ _ _ z
      all_goals first | (cases h; done) | (rename_i q2; cases q2; done) | (rename_i q2 _; cases q2; done) | skip
  | _ => cases hsw
/-- a fresh list by an operator, too -/
theorem mG_of (TF : TbF d) (G : Gx d n s X) (tk : Takes X W) {p : P} {e : Expr} (h : mG d.T k s p e = true) : PE X e (tfI d (run d.T n) W p) := by
  cases k with
  | zero => simp only [mG] at h; cases h
  | succ k =>
    have I := mOk (n := n) TF k
    simp only [mG] at h
    split at h
    · simp only [Bool.and_eq_true] at h
      exact f_add (I.E _ _ _ _ _ G tk h.1) (I.E _ _ _ _ _ G tk h.2)
    · simp only [Bool.and_eq_true] at h
      exact f_mul (I.E _ _ _ _ _ G tk h.1) (I.E _ _ _ _ _ G tk h.2)
    · exact (I.F _ _ _ _ _ G tk h).1
theorem set_of (G : Gs d n s X W) {e : Expr} {te : TE} (ht : tgB s i x = true) (hn : nsd e = true) (hsw : ¬ swB s x xp e = true) (h : PE X e te) : PS X (.Assign [.Name x xp] e pos) (tAsg te (gName i)) := by
  have sw := sw_name (xp := xp) (x := x) G hn pos.line
  rw [Bool.not_eq_true] at hsw
  rw [hsw] at sw
  obtain ⟨a, b, c⟩ := G.tg ht
  exact ps_set G.nd a b h sw c
/-- both judgements of statements -/
structure SOk (d : Wd) (n k : Nat) : Prop where
  A : ∀ (X : Cx) (s : SC) (W : WX) (p : S) (stm : Stmt), Gs d n s X W → mSt d.T k s p stm = true → PS X stm (tsI d (run d.T n) W p)
  B : ∀ (X : Cx) (s : SC) (W : WX) (b : List S) (sts : List Stmt), Gs d n s X W → mBk d.T k s b sts = true → PSs X sts (tbI d (run d.T n) W b)
theorem mBk_succ (I : SOk d n k) (G : Gs d n s X W) {b : List S} {sts : List Stmt} (h : mBk d.T (k + 1) s b sts = true) : PSs X sts (tbI d (run d.T n) W b) := by
  simp only [mBk] at h
  split at h
  · exact b_frz (I.B _ _ _ _ _ G h)
  · exact b_nil
  · exact b_doc (I.B _ _ _ _ _ G h)
  · simp only [Bool.and_eq_true] at h
    exact b_cons (I.A _ _ _ _ _ G h.1) (I.B _ _ _ _ _ G h.2)
  · cases h
theorem s_bad {C : CallT} {stm : Stmt} : PS X stm (tsI d C W .bad) := ⟨fun _ _ _ _ _ _ h => by
  obtain ⟨_, _, _, _, _, _, _, _, q⟩ := h
  exact (show False from q).elim⟩
theorem mXe_of {i : Nat} {nm : Str} {p : P} {ee : Expr} {f : Str} {z : Option Str} (hz : mXe i nm p ee = some (f, z)) : p = hP i f z ∧ fldE nm f z ee := by
  unfold mXe at hz
  split at hz
  · split at hz
    · rename_i hc
      obtain ⟨rfl, rfl, rfl⟩ := hc
      cases hz
      exact ⟨rfl, _, _, rfl⟩
    · cases hz
  · split at hz
    · rename_i hc
      obtain ⟨rfl, rfl, rfl, rfl⟩ := hc
      cases hz
      exact ⟨rfl, _, _, _, _, _, _, rfl⟩
    · cases hz
  · cases hz
theorem mC1_of (TF : TbF d) (G : Gs d n s X W) {c : Nat × Option Nat × List S} {hd : ExceptHandler} {hds : List ExceptHandler} {l : List CD} (k : ClN d X hds l) (q : mC1 d.T s c hd = true) : ∃ z : CD, c = z.hd ∧ ClN d X (hd :: hds) (z :: l) := by
  unfold mC1 at q
  split at q
  · simp only [Bool.and_eq_true, decide_eq_true_eq] at q
    obtain ⟨⟨⟨⟨⟨⟨⟨q1, q2⟩, q3⟩, q4⟩, q5⟩, q6⟩, q7⟩, q8⟩ := q
    subst q1
    obtain ⟨⟨f, z⟩, hz⟩ := Option.isSome_iff_exists.mp q8
    obtain ⟨rfl, hee⟩ := mXe_of hz
    obtain ⟨e1, e2⟩ := TF.exc _ q4
    exact ⟨⟨_, _, f, z⟩, rfl, .cons (by rw [G.nN]; exact q5) (by unfold Env.kindOf; rw [G.sc]; exact q6) (by rw [G.sc]; exact .inl q6) (dbg_of q7).1 (dbg_of q7).2 (G.toGx.gl q2) (dbg_of q3).1 e1 e2 hee k⟩
  · cases q
theorem mCl_of (TF : TbF d) (G : Gs d n s X W) : ∀ {hs : List (Nat × Option Nat × List S)} {hds : List ExceptHandler}, mCl d.T s hs hds = true → ∃ l : List CD, hs = l.map CD.hd ∧ ClN d X hds l
  | [], [], _ => ⟨[], rfl, .nil⟩
  | [], _ :: _, q => by simp [mCl] at q
  | _ :: _, [], q => by simp [mCl] at q
  | c :: r, hd :: hds, q => by
    simp only [mCl, Bool.and_eq_true] at q
    obtain ⟨l, rfl, k⟩ := mCl_of TF G q.2
    obtain ⟨z, rfl, k2⟩ := mC1_of TF G k q.1
    exact ⟨z :: l, rfl, k2⟩
theorem mU1_of (TF : TbF d) (G : Gs d n s X W) {c : Nat × Option Nat × List S} {hd : ExceptHandler} {hds : List ExceptHandler} {l : List UD} (k : ClU d X hds l) (q : mU1 d.T s c hd = true) : ∃ z : UD, c = z.hd ∧ ClU d X (hd :: hds) (z :: l) := by
  unfold mU1 at q
  split at q
  · simp only [Bool.and_eq_true, decide_eq_true_eq] at q
    obtain ⟨⟨⟨⟨q1, q2⟩, q3⟩, q4⟩, q5⟩ := q
    subst q1 q5
    obtain ⟨e1, e2⟩ := TF.exc _ q4
    exact ⟨⟨_, _⟩, rfl, ClU.cons (q := ⟨_, _⟩) (G.toGx.gl q2) (dbg_of q3).1 e1 e2 k⟩
  · cases q
theorem mUl_of (TF : TbF d) (G : Gs d n s X W) : ∀ {hs : List (Nat × Option Nat × List S)} {hds : List ExceptHandler}, mUl d.T s hs hds = true → ∃ l : List UD, hs = l.map UD.hd ∧ ClU d X hds l
  | [], [], _ => ⟨[], rfl, .nil⟩
  | [], _ :: _, q => by simp [mUl] at q
  | _ :: _, [], q => by simp [mUl] at q
  | c :: r, hd :: hds, q => by
    simp only [mUl, Bool.and_eq_true] at q
    obtain ⟨l, rfl, k⟩ := mUl_of TF G q.2
    obtain ⟨z, rfl, k2⟩ := mU1_of TF G k q.1
    exact ⟨z :: l, rfl, k2⟩
theorem mHl_of (TF : TbF d) (G : Gs d n s X W) {b0 : List S} {body : List Stmt} {hs : List (Nat × Option Nat × List S)} {hds : List ExceptHandler} (q : mHl d.T s hs hds = true)
    (hb : ∀ (W' : WX) (pn : List (Addr × Obj)) (xe : Value → Shared → Prop), Takes (X.tr pn xe) W' → PassesOwn (model X.prog X.w) X.A X.env xe → PSs (X.tr pn xe) body (tbI d (run d.T n) W' b0)) :
    PS X (.Try body hds [] [] pos) (tsI d (run d.T n) W (.try_ b0 hs)) := by
  unfold mHl at q
  split at q
  · simp only [Bool.and_eq_true, decide_eq_true_eq] at q
    obtain ⟨⟨⟨⟨⟨⟨⟨⟨⟨⟨⟨⟨rfl, rfl⟩, rfl⟩, rfl⟩, rfl⟩, q6⟩, q7⟩, q8⟩, q9⟩, q10⟩, q11⟩, q12⟩, q13⟩ := q
    obtain ⟨e1, e2⟩ := TF.exc _ q8
    obtain ⟨fd, hf, _, hm, hg, hd⟩ := fnB_of TF q12
    exact s_tryH G.stk G.frm G.K G.mg G.nd G.tk TF.er (by rw [G.nN]; exact q9) (by unfold Env.kindOf; rw [G.sc]; exact q10) (by rw [G.sc]; exact .inl q10) (dbg_of q11).1 (dbg_of q11).2 (G.toGx.gl q6) (dbg_of q7).1 e1 e2 hb G.room (TF.fnF _ _ hf) (G.toGx.gl hg) hd hm (G.hns _ _ hf q13)
  · cases q
theorem mKl_of (TF : TbF d) (G : Gs d n s X W) {b0 : List S} {body : List Stmt} {hs : List (Nat × Option Nat × List S)} {hds : List ExceptHandler} (q : mKl d.T s hs hds = true)
    (hb : ∀ (W' : WX) (pn : List (Addr × Obj)) (xe : Value → Shared → Prop), Takes (X.tr pn xe) W' → PassesOwn (model X.prog X.w) X.A X.env xe → PSs (X.tr pn xe) body (tbI d (run d.T n) W' b0)) :
    PS X (.Try body hds [] [] pos) (tsI d (run d.T n) W (.try_ b0 hs)) := by
  unfold mKl at q
  split at q
  · rename_i h i i2 kd vl ow kk g cs x _ nm su _
    simp only [Bool.and_eq_true, decide_eq_true_eq] at q
    obtain ⟨⟨⟨⟨⟨⟨⟨rfl, rfl⟩, q3⟩, q4⟩, q5⟩, q6⟩, q7⟩, q8⟩ := q
    obtain ⟨e1, e2⟩ := TF.exc _ q5
    obtain ⟨_, _, y, y1, y2⟩ := kSu_ap q8
    obtain ⟨fd, hf, _⟩ := fnB_of TF y1
    exact s_tryK (q := ⟨_, kd, vl, ow, kk, g, cs⟩) G.stk G.frm G.tk TF G.toGx G.fc (by rw [G.nN]; exact q6) (by unfold Env.kindOf; rw [G.sc]; exact q7) (G.toGx.gl q3) (dbg_of q4).1 e1 e2 hb (TF.fnF _ _ hf) hf (G.hns _ _ hf y2) (fun z hz => by
      obtain ⟨fd', hf', _, hm', hg', hd'⟩ := fnB_of TF hz
      exact ⟨hm', hg', hd'⟩) q8
  · cases q
theorem mSt_succ (TF : TbF d) (J : SOk d n k) (G : Gs d n s X W) {p : S} {stm : Stmt} (h : mSt d.T (k + 1) s p stm = true) : PS X stm (tsI d (run d.T n) W p) := by
  have I := mOk (n := n) TF k
  have g := G.toGx
  have tk := G.tk
  simp only [mSt] at h
  split at h
  · simp only [Bool.and_eq_true] at h
    obtain ⟨⟨h1, h2⟩, h3⟩ := h
    split at h3
    · rename_i hs
      simp only [Bool.and_eq_true, decide_eq_true_eq] at h3
      exact PS_imp (mF_set TF G h1 h2 hs h3.2 h3.1) (fresh_imp (I.F _ _ _ _ _ g tk h3.1).2)
    · rename_i hs
      refine s_asg (I.E _ _ _ _ _ g tk h3) (mTg_of (t := .nm _) g h1) rfl ?_ ss_name
      rw [Bool.not_eq_true] at hs
      exact sw_false G h2 hs
  · simp only [Bool.and_eq_true] at h
    exact s_asg (I.E _ _ _ _ _ g tk h.2) (mTg_of g h.1.1) rfl (sw_tup _) (ss_tup h.1.2)
  · simp only [Bool.and_eq_true] at h
    obtain ⟨⟨h1, h2⟩, h3⟩ := h
    split at h3
    · rename_i hs
      simp only [Bool.and_eq_true, decide_eq_true_eq] at h3
      exact PS_imp (mF_set TF G h1 h2 hs h3.2 h3.1) own_imp
    · rename_i hs
      exact PS_imp (set_of G h1 h2 hs (mG_of TF g tk h3)) own_imp
  · simp only [Bool.and_eq_true, decide_eq_true_eq] at h
    obtain ⟨⟨⟨⟨rfl, h2⟩, h3⟩, h4⟩, h5⟩ := h
    obtain ⟨a1, a2, a3, a4⟩ := g.nm h2
    exact s_app a1 a2 a3 a4 h3 h4 (I.E _ _ _ _ _ g tk h5)
  · simp only [Bool.and_eq_true, decide_eq_true_eq] at h
    obtain ⟨⟨⟨⟨rfl, h2⟩, h3⟩, h4⟩, h5⟩ := h
    obtain ⟨a1, a2, a3, a4⟩ := g.nm h2
    exact s_ext a1 a2 a3 a4 h3 h4 (I.E _ _ _ _ _ g tk h5)
  · simp only [Bool.and_eq_true, decide_eq_true_eq] at h
    obtain ⟨⟨⟨⟨rfl, h2⟩, h3⟩, h4⟩, h5⟩ := h
    obtain ⟨a1, a2, a3, a4⟩ := g.nm h2
    exact s_pop a1 a2 a3 a4 h3 h4 (I.E _ _ _ _ _ g tk h5)
  · simp only [Bool.and_eq_true, decide_eq_true_eq] at h
    obtain ⟨⟨⟨⟨⟨rfl, h2⟩, h3⟩, h4⟩, h5⟩, h6⟩ := h
    exact s_capp h2 h3 h4 (I.E _ _ _ _ _ g tk h5) (I.E _ _ _ _ _ g tk h6)
  · simp only [Bool.and_eq_true] at h
    obtain ⟨⟨⟨h1, h2⟩, h3⟩, h4⟩ := h
    obtain ⟨a1, a2, a3, a4⟩ := g.nm h1
    exact s_seti a1 a2 a3 a4 (sw_sub _) ss_sub (as_sub h2) (I.E _ _ _ _ _ g tk h3) (I.E _ _ _ _ _ g tk h4)
  · simp only [Bool.and_eq_true] at h
    obtain ⟨⟨h2, h3⟩, h4⟩ := h
    exact s_dput (by have := g.hu; omega) (sw_dsub _) (I.E _ _ _ _ _ g tk h2) (I.E _ _ _ _ _ g tk h3) (I.E _ _ _ _ _ g tk h4)
  · simp only [Bool.and_eq_true] at h
    obtain ⟨⟨⟨h1, h2⟩, h3⟩, h4⟩ := h
    exact s_cset (sw_sub _) ss_sub (as_sub h1) (I.E _ _ _ _ _ g tk h2) (I.E _ _ _ _ _ g tk h3) (I.E _ _ _ _ _ g tk h4)
  · simp only [Bool.and_eq_true] at h
    obtain ⟨⟨⟨⟨⟨⟨h1, h2⟩, h3⟩, h4⟩, h5⟩, h6⟩, h7⟩ := h
    exact s_swp g.calm g.K (sw_tup _) ss_sub2 (as_sub h1) (as_sub h2) (I.E _ _ _ _ _ g tk h3) (I.E _ _ _ _ _ g tk h4) (I.E _ _ _ _ _ g tk h5) (I.E _ _ _ _ _ g tk h6) (I.E _ _ _ _ _ g tk h7)
  · simp only [Bool.and_eq_true, decide_eq_true_eq] at h
    obtain ⟨⟨rfl, h2⟩, h3⟩ := h
    exact s_setf g.K TF.clF (sw_att _) (I.E _ _ _ _ _ g tk h2) (I.E _ _ _ _ _ g tk h3)
  · simp only [Bool.and_eq_true] at h
    exact s_exp (I.E _ _ _ _ _ g tk h.2) (sw_non h.1 _)
  · simp only [Bool.and_eq_true] at h
    exact s_ife (I.T _ _ _ _ _ g tk h.1.1).1 (J.B _ _ _ _ _ G h.1.2) (J.B _ _ _ _ _ G h.2)
  · simp only [Bool.and_eq_true] at h
    obtain ⟨⟨⟨⟨h1, h2⟩, h3⟩, h4⟩, h5⟩ := h
    exact s_for G.po g.calm ((I.S _ _ _ _ _ _ g tk h1).2 h2) (mTg_of g h3) (J.B _ _ _ _ _ G h5) fun v => nset_of h4 _ v
  · simp only [Bool.and_eq_true] at h
    exact s_whl G.po (I.T _ _ _ _ _ g tk h.1).1 (J.B _ _ _ _ _ G h.2)
  · exact s_ret (I.E _ _ _ _ _ g tk h)
  · exact s_brk
  · exact s_cnt
  · exact s_pass
  · simp only [Bool.and_eq_true, decide_eq_true_eq] at h
    obtain ⟨⟨⟨⟨⟨rfl, h2⟩, h3⟩, h4⟩, h5⟩, h6⟩ := h
    obtain ⟨f, hf⟩ := Option.isSome_iff_exists.mp h4
    exact s_rai g.calm g.K g.mg (TF.er _ _ hf) g.room tk (g.gl h2) rfl (dbg_of h3).1 h5 (I.E _ _ _ _ _ g tk h6)
  · rename_i b0 hs0 body hd0 hds pos0
    simp only [Bool.and_eq_true] at h
    obtain ⟨h1, h2⟩ := h
    have hb : ∀ (W' : WX) (pn : List (Addr × Obj)) (xe : Value → Shared → Prop), Takes (X.tr pn xe) W' → PassesOwn (model X.prog X.w) X.A X.env xe → PSs (X.tr pn xe) body (tbI d (run d.T n) W' b0) := fun W' pn xe tk' po' =>
      J.B (X.tr pn xe) s W' b0 body { K := g.K, mg := g.mg, calm := g.calm, room := g.room, fns := g.fns, sc := g.sc, nN := g.nN, nd := g.nd, fn := g.fn, gd := g.gd, fc := G.fc, bk := G.bk, tk := tk', po := po', stk := G.stk, frm := G.frm, hns := G.hns } h2
    rcases Bool.or_eq_true_iff.mp h1 with h1 | h1
    rcases Bool.or_eq_true_iff.mp h1 with h1 | h1
    rcases Bool.or_eq_true_iff.mp h1 with h1 | h1
    · obtain ⟨l, rfl, k⟩ := mCl_of TF G h1
      exact s_tryN G.stk G.frm g.K g.mg g.nd tk TF.er k hb
    · obtain ⟨l, rfl, k⟩ := mUl_of TF G h1
      exact s_tryU G.stk G.frm g.K g.mg tk k hb
    · exact mHl_of TF G h1 hb
    · exact mKl_of TF G h1 hb
  · exact s_bad
  · cases h
theorem sOk (TF : TbF d) : ∀ k, SOk d n k
  | 0 => ⟨fun _ _ _ _ _ _ h => absurd h (by simp only [mSt]; exact Bool.false_ne_true), fun _ _ _ _ _ _ h => absurd h (by simp only [mBk]; exact Bool.false_ne_true)⟩
  | k + 1 => ⟨fun _ _ _ _ _ G h => mSt_succ TF (sOk TF k) G h, fun _ _ _ _ _ G h => mBk_succ (sOk TF k) G h⟩
end
end Rb

/-! RbLvl: every def keeps its promise at every depth. Own work. -/
namespace Rb
open PySem PySem.Spec PyProof.Rows
open L2 hiding XE Takes CX passes_call takes_of MkP PMk ps_raise mk_of ps_try_as HdsOk ps_try_many pmk_own passAt St
open L2N
/-- a def of the text: its object, its scope, its body's match -/
structure DefF (d : Wd) (f : Nat) (fd : FD) : Prop where
  ex : ∃ (x qual : Str) (params : Arguments) (body : List Stmt) (scope : Scope) (dvs : List V) (kws : List (Str × V)) (k : Nat),
    FunD d.K x qual params body scope dvs kws (d.fa f) (d.fdt f) ∧ FnScope (fd.N.map Str.ofString) (fd.ps.map Str.ofString) scope ∧ mBk d.T k ⟨fd.N.map Str.ofString, scope, none, fd.top⟩ fd.body body = true ∧ (d.T.hot f = true → ∃ k2, hBk d.T k2 ⟨fd.N.map Str.ofString, scope, none, fd.top⟩ fd.body body = true)
theorem fin_sat {d : Wd} {E : XK} {F : Hp} {io : List Addr} {H : Hp} {o : Out} {Q : VK} (h : Sat d (fun cls dd _ H => E cls dd H) [] F io H (fin o) (RV d) Q) : SatO d (fun cls dd _ H => E cls dd H) F io H F io { nx := fun _ H' => Q .non H', rt := Q } o := by
  cases o with
  | next e M => exact fun F1 io1 sg1 H1 s _ _ => h F1 io1 H1 .non s.ex s.rl.sub s.rl.cl rfl
  | ret x M => exact fun F1 io1 H1 v x1 s1 c1 r1 => h F1 io1 H1 v x1 s1 c1 r1
  | exc c x e M => exact fun F1 io1 sg1 H1 cls dd s _ _ r => h F1 io1 H1 cls dd s.ex s.rl.sub s.rl.cl r
  | brk e M => exact False.elim h
  | cnt e M => exact False.elim h
  | stuck => exact h
theorem start_rl {d : Wd} {F : Hp} {io : List Addr} {H : Hp} {args : List D} {M : Sto} {vs : List V} (s : Sub F H) (c : Cels d F io H M) (r : Reps d F io args vs) (m : Nat) (N : List Str) (hm : m = N.length - vs.length) :
    Rl d F io (L2.start N vs) H (args.map Slot.val ++ List.replicate m .un) M where
  sub := s
  cl := c
  len := by
    unfold L2.start
    rw [List.length_append, List.length_append, List.length_map, List.length_map, List.length_replicate, List.length_replicate, r.length, hm]
  val := fun i x h => by
    right
    have hi : i < args.length := by
      rcases Nat.lt_or_ge i args.length with q | q
      · exact q
      · rw [List.getElem?_append_right (by rw [List.length_map]; exact q), List.getElem?_replicate] at h
        split at h <;> cases h
    rw [List.getElem?_append_left (by rw [List.length_map]; exact hi), List.getElem?_map] at h
    obtain ⟨y, h1, h2⟩ := Option.map_eq_some_iff.mp h
    cases h2
    obtain ⟨v, h3, h4⟩ := r.get h1
    refine ⟨v, ?_, h4⟩
    unfold L2.start
    rw [List.getElem?_append_left (by rw [List.length_map, ← r.length]; exact hi), List.getElem?_map, h3]
    rfl
  own := fun i l h => by
    rcases Nat.lt_or_ge i args.length with q | q
    · rw [List.getElem?_append_left (by rw [List.length_map]; exact q), List.getElem?_map] at h
      obtain ⟨y, h1, h2⟩ := Option.map_eq_some_iff.mp h
      cases h2
    · rw [List.getElem?_append_right (by rw [List.length_map]; exact q), List.getElem?_replicate] at h
      split at h <;> cases h
  dis := fun i j l m a h => by
    rcases Nat.lt_or_ge i args.length with q | q
    · rw [List.getElem?_append_left (by rw [List.length_map]; exact q), List.getElem?_map] at h
      obtain ⟨y, h1, h2⟩ := Option.map_eq_some_iff.mp h
      cases h2
    · rw [List.getElem?_append_right (by rw [List.length_map]; exact q), List.getElem?_replicate] at h
      split at h <;> cases h
/-- a def that a clause calls keeps its promise there -/
theorem fn_hot {d : Wd} (TF : TbF d) (DF : ∀ f fd, d.T.fn f = some fd → DefF d f fd) (P : Program) (w : World) (base : Heap) (n : Nat) {f : Nat} {fd : FD} (hf : d.T.fn f = some fd) (hh : d.T.hot f = true) : L2H.FnH P w d.K d.mg base (L2N.CX P w) (2 * n) (d.fa f) (d.fdt f) (fd.ps.map Str.ofString) (spI d n f) := by
  cases n with
  | zero => exact ⟨fun vs H Q E q => spI_len hf q, fun A outer s H args us vs Q E p hr hot hp e0 b v q => by
      obtain ⟨F, io, l, M, _, _, _, z⟩ := q
      exact z.elim⟩
  | succ n =>
    obtain ⟨x, qual, params, body, scope, dvs, kws, k, FD, S, hm, h2⟩ := (DF f fd hf).ex
    obtain ⟨k2, hk2⟩ := h2 hh
    obtain ⟨oc, od, dV, kV, doc, pm, an, cdv, ct, osl, e, lk, cin, _, _⟩ := FD.ex
    rw [e] at lk ⊢
    refine L2H.fn_ofH (k := 2 * n + 1) lk cin S (fun vs H Q E q => spI_len hf q) fun A outer s H vs Q E p hot hr q => ⟨tbI d (run d.T n) (fun cls dd _ H => E cls dd H) fd.body, (hOk (C := run d.T n) (W := fun cls dd _ H => E cls dd H) (s := ⟨fd.N.map Str.ofString, scope, none, fd.top⟩) TF ?_ k2).B _ _ hk2, ?_⟩
    · exact { K := rfl, mg := rfl, un := by have := hr.un; show (A.deeper _).units + 70 < _; omega, sc := rfl, nN := rfl }
    · have hl := spI_len hf q
      obtain ⟨F, io, args, M, s1, c1, r1, z⟩ := q
      simp only [run, hf] at z
      split at z
      · rename_i ha
        refine ⟨F, io, H, F, io, _, M, ⟨Ex.refl F io H, start_rl s1 c1 r1 (fd.N.length - fd.ps.length) (fd.N.map Str.ofString) ?_, fun i l a h => ?_⟩, fin_sat z⟩
        · rw [hl, List.length_map, List.length_map]
        · exfalso
          rcases Nat.lt_or_ge i args.length with q | q
          · rw [List.getElem?_append_left (by rw [List.length_map]; exact q), List.getElem?_map] at h
            obtain ⟨y, h1, h2⟩ := Option.map_eq_some_iff.mp h
            cases h2
          · rw [List.getElem?_append_right (by rw [List.length_map]; exact q), List.getElem?_replicate] at h
            split at h <;> cases h
      · exact z.elim
theorem fn_lvl {d : Wd} (TF : TbF d) (DF : ∀ f fd, d.T.fn f = some fd → DefF d f fd) (P : Program) (w : World) (base : Heap) : ∀ (n : Nat), n < 60 → ∀ (f : Nat) (fd : FD), d.T.fn f = some fd → FnOk P w d.K d.mg base (L2N.CX P w) (2 * n) (d.fa f) (d.fdt f) (fd.ps.map Str.ofString) (spI d n f)
  | 0, _, f, fd, hf => ⟨fun vs H Q E q => spI_len hf q, fun A outer s H args us vs Q E hr e0 b v q => by
      obtain ⟨F, io, l, M, _, _, _, z⟩ := q
      exact z.elim⟩
  | n + 1, hn, f, fd, hf => by
   cases ht : fd.top with
   | true =>
    -- the law's own def is called by no def
    refine ⟨fun vs H Q E q => spI_len hf q, fun A outer s H args us vs Q E hr e0 b v q => ?_⟩
    obtain ⟨F, io, l, M, _, _, _, z⟩ := q
    simp only [run, hf] at z
    rw [if_neg (by rintro ⟨_, h | h⟩; · rw [ht] at h; cases h
                   · omega)] at z
    exact z.elim
   | false =>
    obtain ⟨x, qual, params, body, scope, dvs, kws, k, FD, S, hm, _⟩ := (DF f fd hf).ex
    have IH := fn_lvl TF DF P w base n (by omega)
    refine FD.ok (k := 2 * n + 1) S (fun vs H Q E q => spI_len hf q) fun cdv A outer s H vs Q E hr q => ⟨tbI d (run d.T n) (fun cls dd _ H => E cls dd H) fd.body, (sOk (n := n) TF k).B _ ⟨fd.N.map Str.ofString, scope, none, fd.top⟩ _ _ _ ?_ hm, ?_⟩
    · exact { K := rfl, mg := rfl, calm := rfl, room := hr, fns := IH, sc := rfl, nN := rfl, nd := S.nd, fn := fun _ => rfl, gd := (fun h => by rw [show fd.top = false from ht] at h; cases h), fc := rfl, bk := S.kind, tk := takes_of rfl rfl rfl rfl, po := passes_of rfl, stk := rfl, frm := rfl, hns := fun f2 fd2 hf2 hh2 => fn_hot TF DF P w base n hf2 hh2 }
    · have hl := spI_len hf q
      obtain ⟨F, io, args, M, s1, c1, r1, z⟩ := q
      simp only [run, hf] at z
      split at z
      · rename_i ha
        refine ⟨F, io, H, F, io, _, M, ⟨Ex.refl F io H, start_rl s1 c1 r1 (fd.N.length - fd.ps.length) (fd.N.map Str.ofString) ?_, fun i l a h => ?_⟩, fin_sat z⟩
        · rw [hl, List.length_map, List.length_map]
        · exfalso
          rcases Nat.lt_or_ge i args.length with q | q
          · rw [List.getElem?_append_left (by rw [List.length_map]; exact q), List.getElem?_map] at h
            obtain ⟨y, h1, h2⟩ := Option.map_eq_some_iff.mp h
            cases h2
          · rw [List.getElem?_append_right (by rw [List.length_map]; exact q), List.getElem?_replicate] at h
            split at h <;> cases h
      · exact z.elim
end Rb

/-! RbHead: tables as data; what the written part must say, as a test that runs. Own work. -/
namespace Rb
open PySem PySem.Spec PyProof.Rows L2
/-! ### values of the written part -/
mutual
theorem repK_ok {d : Wd} : ∀ {x : D} {u : Value}, repK d.K x u = true → ∃ v, RelV v u ∧ ∀ F io, Rep d F io x v
  | .non, u, h => by
    simp only [repK] at h
    split at h
    · exact ⟨.non, rfl, fun F io => by simp only [Rep]⟩
    · cases h
  | .bl b, u, h => by
    simp only [repK] at h
    split at h
    · rename_i c
      have e : b = c := by simpa using h
      subst e
      exact ⟨.bl b, rfl, fun F io => by simp only [Rep]⟩
    · cases h
  | .int i, u, h => by
    simp only [repK] at h
    split at h
    · rename_i j tk
      have e : i = j := by simpa using h
      subst e
      exact ⟨.int i, ⟨tk, rfl⟩, fun F io => by simp only [Rep]⟩
    · cases h
  | .str i, u, h => by
    simp only [repK] at h
    split at h
    · rename_i j tk
      have e : i = j := by simpa using h
      subst e
      exact ⟨.str i, ⟨tk, rfl⟩, fun F io => by simp only [Rep]⟩
    · cases h
  | .tup l, u, h => by
    simp only [repK] at h
    split at h
    · rename_i a
      split at h
      · rename_i c od its n osl q
        simp only [Bool.and_eq_true, decide_eq_true_eq] at h
        obtain ⟨⟨rfl, h2⟩, h3⟩ := h
        obtain ⟨vs, h4, h5⟩ := repKs_ok h3
        exact ⟨.ref a, rfl, fun F io => by
          simp only [Rep]
          exact ⟨a, vs, rfl, .inr ⟨_, its, n, q, rfl, rfl, h2, h4⟩, h5 F io⟩⟩
      · cases h
    · cases h
  | .lst _, _, h => by simp [repK] at h
  | .ro _, _, h => by simp [repK] at h
  | .ins _ _, _, h => by simp [repK] at h
  | .cel _, _, h => by simp [repK] at h
  | .exn _ _, _, h => by simp [repK] at h
theorem repKs_ok {d : Wd} : ∀ {x : List D} {u : List Value}, repKs d.K x u = true → ∃ v, Vals v u ∧ ∀ F io, Reps d F io x v
  | [], us, h => by
    simp only [repKs] at h
    split at h
    · exact ⟨[], .nil, fun F io => by simp only [Reps]⟩
    · cases h
  | x :: l, us, h => by
    simp only [repKs] at h
    split at h
    · rw [Bool.and_eq_true] at h
      obtain ⟨v, h1, h2⟩ := repK_ok h.1
      obtain ⟨vs, h3, h4⟩ := repKs_ok h.2
      exact ⟨v :: vs, .cons h1 h3, fun F io => by simp only [Reps]; exact ⟨_, _, rfl, h2 F io, h4 F io⟩⟩
    · cases h
end
/-! ### one def -/
theorem dflK_ok {d : Wd} {l : List D} {u : Value} (h : dflK d.K l u = true) : ∃ dvs, DflV d.K u dvs ∧ ∀ F io, Reps d F io l dvs := by
  unfold dflK at h
  split at h
  · cases l with
    | nil => exact ⟨[], .inl ⟨rfl, rfl⟩, fun F io => by simp only [Reps]⟩
    | cons x l => cases h
  · rw [Bool.and_eq_true] at h
    obtain ⟨h1, h⟩ := h
    split at h
    · rename_i oc od its n osl q
      obtain ⟨vs, h3, h4⟩ := repKs_ok h
      refine ⟨vs, .inr ⟨fun e => ?_, _, _, its.toList, n, rfl, q, by simp, h3⟩, h4⟩
      have := (h4 (fun _ => none) []).length
      rw [e] at this
      cases l with
      | nil => cases h1
      | cons x l => cases this
    · cases h
  · cases h
/-- as it lies -/
theorem FX.lies {d : Wd} {x : FX} (e : x.obs d.K = x.val) (c : x.chk d.K = true) :
    PySem.W.keepIn d.K (.ref (x.pa.at_ d.K)) = true ∧ ∃ (oc : Value) (od : Option Addr) (dV doc pm : Value) (an : Option Addr) (cdv ct : Value) (osl : Array (Option Value)) (dvs : List V),
      d.K.lookup (x.pa.at_ d.K) = some ⟨oc, od, .func (PySem.W.fnOf (Str.ofString x.fd.name) (Str.ofString x.qual) (defArgs x.st) (defBody x.st) (defScope x.st) dV .none doc pm an cdv ct), osl⟩ ∧ PySem.W.codeIn d.K cdv (Str.ofString x.qual) = true ∧ DflV d.K dV dvs ∧ ∀ F io, Reps d F io x.dfl dvs := by
  unfold FX.chk at c
  unfold FX.obs at e
  rw [Bool.and_eq_true] at c
  obtain ⟨kp, c⟩ := c
  refine ⟨kp, ?_⟩
  split at c
  · rename_i oc od g osl q
    rw [q] at e
    simp only [Bool.and_eq_true] at c
    obtain ⟨⟨c1, c2⟩, c3⟩ := c
    obtain ⟨m1, m2, m3, m4, m5, m6, m7, m8, m9, m10, m11, m12, m13, m14, m15⟩ := g
    have z : (some (m1, m2, m3, m4, m5, m6, m7, m15) : He.FnW) = some (Str.ofString x.fd.name, Str.ofString x.qual, defArgs x.st, .stmts (defBody x.st), defScope x.st, mainGlobals, [], builtinsNs) := e
    simp only [Option.some.injEq, Prod.mk.injEq] at z
    obtain ⟨rfl, rfl, rfl, rfl, rfl, rfl, rfl, rfl⟩ := z
    have k9 : m9 = .none := by
      cases m9 <;> first | rfl | cases c3
    subst k9
    obtain ⟨dvs, c4, c5⟩ := dflK_ok c2
    exact ⟨oc, od, m8, m10, m11, m12, m13, m14, osl, dvs, q, c1, c4, c5⟩
  · cases c
theorem FX.funD {d : Wd} {x : FX} (e : x.obs d.K = x.val) (c : x.chk d.K = true) :
    ∃ dvs, (∀ F io, Reps d F io x.dfl dvs) ∧ FunD d.K (Str.ofString x.fd.name) (Str.ofString x.qual) (defArgs x.st) (defBody x.st) (defScope x.st) dvs [] (x.pa.at_ d.K) (fdA d.K (x.pa.at_ d.K)) := by
  obtain ⟨kp, oc, od, dV, doc, pm, an, cdv, ct, osl, dvs, q, c1, c2, c3⟩ := FX.lies e c
  have h : fdA d.K (x.pa.at_ d.K) = PySem.W.fnOf (Str.ofString x.fd.name) (Str.ofString x.qual) (defArgs x.st) (defBody x.st) (defScope x.st) dV .none doc pm an cdv ct := by unfold fdA; rw [q]
  exact ⟨dvs, c3, ⟨oc, od, dV, .none, doc, pm, an, cdv, ct, osl, h, by rw [h]; exact q, c1, c2, .inl rfl⟩, kp⟩
/-! ### binding -/
/-- positional values, all given; keywords, all given; positional values, the last ones by default -/
def bP (params : Arguments) (ps : List Str) : Prop := ∀ (x qual : Str) (body : List Stmt) (scope : Scope) (kV doc pm : Value) (an : Option Addr) (cdv ct : Value) (us : List Value), us.length = ps.length → bindArgs (PySem.W.fnOf x qual params body scope .none kV doc pm an cdv ct) ⟨us, []⟩ = pure (ps.zip us)
def kP (params : Arguments) (ps : List Str) : Prop := ∀ (x qual : Str) (body : List Stmt) (scope : Scope) (kV doc pm : Value) (an : Option Addr) (cdv ct : Value) (ws : List Value), ws.length = ps.length → bindArgs (PySem.W.fnOf x qual params body scope .none kV doc pm an cdv ct) ⟨[], ps.zip ws⟩ = pure (ps.zip ws)
def dP (params : Arguments) (ps : List Str) (m : Nat) : Prop := ∀ (x qual : Str) (body : List Stmt) (scope : Scope) (T : Addr) (kV doc pm : Value) (an : Option Addr) (cdv ct : Value) (us its : List Value) (n j : Nat), 0 < n → us.length = n → its.length = m → n + (m - j) = ps.length → j ≤ m →
  ∃ k, bindArgs (PySem.W.fnOf x qual params body scope (.ref T) kV doc pm an cdv ct) ⟨us, []⟩ = seqItems? (.ref T) >>= k ∧ k (some its.toArray) = pure (ps.zip (us ++ its.drop j))
/-- self by place, the rest by keywords, defaults there; self, too, by its keyword -/
def nP (params : Arguments) (ps : List Str) (m : Nat) : Prop := ∀ (x qual : Str) (body : List Stmt) (scope : Scope) (T : Addr) (kV doc pm : Value) (an : Option Addr) (cdv ct : Value) (u : Value) (ws its : List Value), ws.length + 1 = ps.length → its.length = m →
  ∃ k, bindArgs (PySem.W.fnOf x qual params body scope (.ref T) kV doc pm an cdv ct) ⟨[u], ps.tail.zip ws⟩ = seqItems? (.ref T) >>= k ∧ k (some its.toArray) = pure (ps.zip (u :: ws))
def oP (params : Arguments) (ps : List Str) (m : Nat) : Prop := ∀ (x qual : Str) (body : List Stmt) (scope : Scope) (T : Addr) (kV doc pm : Value) (an : Option Addr) (cdv ct : Value) (ws its : List Value), ws.length = ps.length → its.length = m →
  ∃ k, bindArgs (PySem.W.fnOf x qual params body scope (.ref T) kV doc pm an cdv ct) ⟨[], ps.zip ws⟩ = seqItems? (.ref T) >>= k ∧ k (some its.toArray) = pure (ps.zip ws)
/-- what a def's parameters must allow -/
def FX.binds (x : FX) : Prop := match x.dfl with
  | [] => bP (defArgs x.st) (x.fd.ps.map Str.ofString) ∧ (x.kw = true → kP (defArgs x.st) (x.fd.ps.map Str.ofString))
  | l => dP (defArgs x.st) (x.fd.ps.map Str.ofString) l.length ∧ l.length < x.fd.ps.length ∧ (x.kw = true → nP (defArgs x.st) (x.fd.ps.map Str.ofString) l.length ∧ oP (defArgs x.st) (x.fd.ps.map Str.ofString) l.length)
theorem DflV.ref {K : PySem.W.Frag} {dV : Value} {dvs : List V} (h : DflV K dV dvs) (e : dvs ≠ []) : ∃ (T : Addr) (o : Obj) (its : List Value) (n : Nat), dV = .ref T ∧ K.lookup T = some o ∧ o.data = .seq its.toArray n ∧ Vals dvs its := by
  rcases h with ⟨z, _⟩ | ⟨_, z⟩
  · exact absurd z e
  · exact z
section
variable {d : Wd} {x : FX}
theorem dvs_nil {dvs : List V} (r : ∀ F io, Reps d F io x.dfl dvs) (h : x.dfl = []) : dvs = [] := by
  have := (r (fun _ => none) []).length
  rw [h] at this
  cases dvs with
  | nil => rfl
  | cons _ _ => cases this
theorem dvs_ne {dvs : List V} (r : ∀ F io, Reps d F io x.dfl dvs) (h : x.dfl ≠ []) : dvs ≠ [] := by
  intro e
  have := (r (fun _ => none) []).length
  rw [e] at this
  exact h (List.eq_nil_of_length_eq_zero this)
/-- all given by place -/
theorem FX.bind_all (e : x.obs d.K = x.val) (c : x.chk d.K = true) (b : x.binds) : Binds d.K (fdA d.K (x.pa.at_ d.K)) (x.fd.ps.map Str.ofString) [] := by
  obtain ⟨dvs, r, F⟩ := FX.funD e c
  unfold FX.binds at b
  split at b
  · rename_i h
    have := dvs_nil r h
    subst this
    exact F.bindsN fun kV doc pm an cdv ct us hl => b.1 _ _ _ _ kV doc pm an cdv ct us hl
  · rename_i h
    have hl := (r (fun _ => none) []).length
    have ne : x.dfl ≠ [] := fun z => h z
    have pos : 0 < (x.fd.ps.map Str.ofString).length := by rw [List.length_map]; omega
    obtain ⟨ds, h1, h2⟩ := F.binds1 (ps := x.fd.ps.map Str.ofString) (x.fd.ps.map Str.ofString).length dvs.length (dvs_ne r ne) (by omega) fun T kV doc pm an cdv ct us its h1 h2 => b.1 _ _ _ _ T kV doc pm an cdv ct us its (x.fd.ps.map Str.ofString).length dvs.length pos h1 (by rw [h2, hl]) (by omega) (by omega)
    rw [List.drop_length] at h1
    cases h1
    exact h2
theorem FX.bind_kw (e : x.obs d.K = x.val) (c : x.chk d.K = true) (b : x.binds) (hk : x.kw = true) (s : Shared) (ws : List Value) (X : d.K.In s.heap) (hl : ws.length = x.fd.ps.length) :
    BindsTo s (fdA d.K (x.pa.at_ d.K)) ⟨[], (x.fd.ps.map Str.ofString).zip ws⟩ ((x.fd.ps.map Str.ofString).zip ws) := by
  obtain ⟨dvs, r, F⟩ := FX.funD e c
  have hl' : ws.length = (x.fd.ps.map Str.ofString).length := by rw [List.length_map, hl]
  obtain ⟨oc, od, dV, kV, doc, pm, an, cdv, ct, osl, e1, lk, hcd, hD, _⟩ := F.ex
  rw [e1]
  unfold FX.binds at b
  split at b
  · rename_i h
    have := dvs_nil r h
    subst this
    rcases hD with ⟨_, rfl⟩ | ⟨z, _⟩
    · exact .of_eq (b.2 hk _ _ _ _ kV doc pm an cdv ct ws hl')
    · exact absurd rfl z
  · rename_i h
    have ne : x.dfl ≠ [] := fun z => h z
    obtain ⟨T, o, its, n, rfl, lT, oT, rT⟩ := DflV.ref hD (dvs_ne r ne)
    obtain ⟨k, g1, g2⟩ := (b.2.2 hk).2 (Str.ofString x.fd.name) (Str.ofString x.qual) (defBody x.st) (defScope x.st) T kV doc pm an cdv ct ws its hl' (by rw [← rT.length, (r (fun _ => none) []).length])
    refine BindsTo.of_looks fun M => ?_
    rw [g1]
    exact looks_items X lT oT (.of_pure g2)
theorem FX.bind_self (e : x.obs d.K = x.val) (c : x.chk d.K = true) (b : x.binds) (hk : x.kw = true) (ne : x.dfl ≠ []) (s : Shared) (u : Value) (ws : List Value) (X : d.K.In s.heap) (hl : ws.length + 1 = x.fd.ps.length) :
    BindsTo s (fdA d.K (x.pa.at_ d.K)) ⟨[u], (x.fd.ps.map Str.ofString).tail.zip ws⟩ ((x.fd.ps.map Str.ofString).zip (u :: ws)) := by
  obtain ⟨dvs, r, F⟩ := FX.funD e c
  have hl' : ws.length + 1 = (x.fd.ps.map Str.ofString).length := by rw [List.length_map, hl]
  obtain ⟨oc, od, dV, kV, doc, pm, an, cdv, ct, osl, e1, lk, hcd, hD, _⟩ := F.ex
  rw [e1]
  unfold FX.binds at b
  split at b
  · rename_i h; exact absurd h ne
  · obtain ⟨T, o, its, n, rfl, lT, oT, rT⟩ := DflV.ref hD (dvs_ne r ne)
    obtain ⟨k, g1, g2⟩ := (b.2.2 hk).1 (Str.ofString x.fd.name) (Str.ofString x.qual) (defBody x.st) (defScope x.st) T kV doc pm an cdv ct u ws its hl' (by rw [← rT.length, (r (fun _ => none) []).length])
    refine BindsTo.of_looks fun M => ?_
    rw [g1]
    exact looks_items X lT oT (.of_pure g2)
/-- the last ones by default -/
theorem FX.bind_dfl (e : x.obs d.K = x.val) (c : x.chk d.K = true) (b : x.binds) (q1 : x.dfl ≠ [] → x.fd.ps.length - 1 - x.dfl.length ≤ 1) {k : Nat} (hk : x.dflC = [] ∨ 0 < k) (hl : k + (x.dflC.drop k).length + 1 = x.fd.ps.length) :
    ∃ ds vs, Binds d.K (fdA d.K (x.pa.at_ d.K)) (x.fd.ps.map Str.ofString) ds ∧ Vals vs ds ∧ ∀ F io, Reps d F io (x.dflC.drop k) vs := by
  cases hz : x.dfl with
  | nil =>
    have hC : x.dflC = [] := by unfold FX.dflC; rw [hz]
    rw [hC, List.drop_nil]
    exact ⟨[], [], FX.bind_all e c b, .nil, fun F io => by simp only [Reps]⟩
  | cons y l =>
    have hC : x.dflC = List.replicate (x.fd.ps.length - 1 - x.dfl.length) .non ++ x.dfl := by unfold FX.dflC; rw [hz]
    have k0 : 0 < k := by
      rcases hk with hk | hk
      · rw [hC, hz] at hk; simp at hk
      · exact hk
    obtain ⟨dvs, r, F⟩ := FX.funD e c
    have hlen := (r (fun _ => none) []).length
    have ne : x.dfl ≠ [] := by rw [hz]; exact List.cons_ne_nil _ _
    have q1 := q1 ne
    unfold FX.binds at b
    rw [hz] at b
    simp only at b
    rw [← hz] at b
    obtain ⟨b1, b2, _⟩ := b
    rw [hC, List.length_drop, List.length_append, List.length_replicate] at hl
    have kl : k ≤ x.fd.ps.length - 1 := by omega
    have hd : x.dflC.drop k = x.dfl.drop (k - (x.fd.ps.length - 1 - x.dfl.length)) := by
      rw [hC, List.drop_append, List.length_replicate, List.drop_eq_nil_of_le (by rw [List.length_replicate]; omega), List.nil_append]
    obtain ⟨ds, h1, h2⟩ := F.binds1 (ps := x.fd.ps.map Str.ofString) (k + 1) (k - (x.fd.ps.length - 1 - x.dfl.length)) (dvs_ne r ne) (by rw [List.length_map]; omega) fun T kV doc pm an cdv ct us its h1 h2 =>
      b1 _ _ _ _ T kV doc pm an cdv ct us its (k + 1) (k - (x.fd.ps.length - 1 - x.dfl.length)) (by omega) h1 (by rw [h2, hlen]) (by rw [List.length_map]; omega) (by omega)
    exact ⟨ds, _, h2, h1, fun F io => by rw [hd]; exact (r F io).drop _⟩
end
end Rb

/-! RbHead2: the test of the written part, and what it gives. Own work. -/
namespace Rb
open PySem PySem.Spec PyProof.Rows L2
section
variable {t : TX} {K : PySem.W.Frag} {mg : Str → Option Value}
theorem fat_mem {f : Nat} {x : FX} (h : t.fat f = some x) : x ∈ t.fx := List.mem_of_find?_eq_some h
theorem kat_mem {c : Nat} {x : KX} (h : t.kat c = some x) : x ∈ t.kx ∧ x.id = c := ⟨List.mem_of_find?_eq_some h, by simpa using List.find?_some h⟩
theorem gat_mem {g : Nat} {x : Nat × String × D} (h : t.gat g = some x) : x ∈ t.gx ∧ x.1 = g := ⟨List.mem_of_find?_eq_some h, by simpa using List.find?_some h⟩
theorem kx_lt {c : Nat} (h : (t.tb.init c).isSome = true) : ∃ x ∈ t.kx, x.id = c := by
  cases q : t.kat c with
  | none =>
    exfalso
    simp only [TX.tb, q] at h
    cases h
  | some x => exact ⟨x, (kat_mem q).1, (kat_mem q).2⟩
theorem isB_ok {ty : Ty} {u : Value} (h : t.isB K ty u = true) : IsF (t.wd K mg) ty u := by
  unfold TX.isB at h
  rw [Bool.and_eq_true] at h
  obtain ⟨h1, h2⟩ := h
  refine isF_of (fun n hn => ?_) fun c hc b hb => ?_
  · have := List.all_eq_true.mp h1 n hn
    exact of_decide_eq_true this
  · obtain ⟨x, hx, rfl⟩ := kx_lt hc
    have := List.all_eq_true.mp h2 x hx
    generalize x.id = c at hc hb this
    have hc' : (t.tb.init c).isSome = true := hc
    rw [hc'] at this
    have e : tyC ty c = some b := hb
    rw [e] at this
    have z : PySem.W.kitOne K (.ref (t.ca K c)) u = some b := by simpa using this
    exact z
end
def TX.Says (t : TX) (K : PySem.W.Frag) : Prop := t.obsK K = t.valK
def TX.obsG (t : TX) (n : Nat) (g : Addr → Option Obj) : AlR := t.obsK (He.frG g (He.asD g n))
def TX.hook (t : TX) (n : Nat) : PySem.W.Hook where
  α := AlR
  obs := fun s => t.obsG n s.heap.get?
  val := fun _ => t.valK
  says := fun _ hp => ∃ K1 : PySem.W.Frag, K1.In hp ∧ t.Says K1
  of := fun _ _ z => ⟨_, He.frG_in, z⟩
  keeps := fun _ _ _ z k => z.elim fun K1 h1 => ⟨K1, PySem.W.Frag.In.keeps h1.1 k, h1.2⟩
section
variable {t : TX} {K : PySem.W.Frag} {mg : Str → Option Value} {base : Heap}
theorem TX.Says.chk (s : t.Says K) : t.chk K = true := congrArg (fun z : AlR => z.1) s
theorem TX.Says.obs (s : t.Says K) {x : FX} (h : x ∈ t.efx) : x.obs K = x.val := by
  have e : t.efx.map (fun x => x.obs K) = t.efx.map FX.val := congrArg (fun z : AlR => z.2) s
  exact List.map_inj_left.mp e x h
theorem fnd_of {C : Addr} {x : Str} {u : Option Value} (h : fndB K C x u = true) : PySem.W.findIn K (.ref C) x = some u := of_decide_eq_true h
theorem glo_of (X : K.In base) (G : base.Ns mainGlobals mg) {x : Str} {a : Addr} (h : gloB K x a = true) : mg x = some (.ref a) := PySem.W.mg_of X G (of_decide_eq_true h)
theorem TX.fn_of {f : Nat} {fd : FD} (h : t.tb.fn f = some fd) : ∃ x, t.fat f = some x ∧ x.fd = fd ∧ t.fa K f = x.pa.at_ K := by
  obtain ⟨x, h1, h2⟩ := Option.map_eq_some_iff.mp (show (t.fat f).map (·.fd) = some fd from h)
  exact ⟨x, h1, h2, by unfold TX.fa; rw [h1]⟩
theorem TX.fx_mem {f : Nat} {x : FX} (h : t.fat f = some x) : x ∈ t.efx := List.mem_append_left _ (fat_mem h)
theorem TX.kx_of {c : Nat} (h : (t.tb.init c).isSome = true) : ∃ x i, t.kat c = some x ∧ x.init = some i ∧ t.tb.init c = some i := by
  obtain ⟨i, hi⟩ := Option.isSome_iff_exists.mp h
  obtain ⟨x, h1, h2⟩ := Option.bind_eq_some_iff.mp (show (t.kat c).bind (·.init) = some i from hi)
  exact ⟨x, i, h1, h2, hi⟩
end
/-- the test, told apart -/
structure ChkF (t : TX) (K : PySem.W.Frag) : Prop where
  fx : ∀ x ∈ t.fx, x.chk K = true ∧ (x.gl = true → gloB K (Str.ofString x.fd.name) (x.pa.at_ K) = true)
  bl : ∀ x ∈ blt, PySem.W.nsIn K mainGlobals x = some none
  gc : t.gcd = true → PySem.W.nsIn K mainGlobals "gcd" = some (some (.builtin "math.gcd"))
  gx : ∀ g ∈ t.gx, ∃ u, PySem.W.nsIn K mainGlobals (Str.ofString g.2.1) = some (some u) ∧ repK K g.2.2 u = true
  ty : t.isB K .int (.type "int") = true ∧ t.isB K .bool (.type "bool") = true ∧ t.isB K .str (.type "str") = true ∧ t.isB K .tuple (.type "tuple") = true ∧ t.isB K .list (.type "list") = true
  cl : ∀ c x i, t.kat c = some x → x.init = some i → t.clB K c x i = true
  me : ∀ c x, t.kat c = some x → t.meB K c x = true
  er : ∀ c x f, t.kat c = some x → x.efld = some f → ∃ ix, x.eini = some ix ∧ t.erB K c x f ix = true
  ex : ∀ c x, t.kat c = some x → x.init = none → t.exB K x = true
theorem TX.chkF {t : TX} {K : PySem.W.Frag} (h : t.chk K = true) : ChkF t K := by
  unfold TX.chk at h
  simp only [Bool.and_eq_true] at h
  obtain ⟨⟨⟨⟨⟨h1, h2⟩, h3⟩, h4⟩, ⟨⟨⟨h5, h6⟩, h7⟩, h8⟩, h9⟩, h10⟩ := h
  refine ⟨fun x hx => ?_, fun x hx => ?_, fun hg => ?_, fun g hg => ?_, ⟨h5, h6, h7, h8, h9⟩, fun c x i hc hi => ?_, fun c x hc => ?_, fun c x f hc hf => ?_, fun c x hc hi => ?_⟩
  · have := List.all_eq_true.mp h1 x hx
    rw [Bool.and_eq_true] at this
    exact ⟨this.1, fun z => by have := this.2; rw [z] at this; simpa using this⟩
  · exact of_decide_eq_true (List.all_eq_true.mp h2 x hx)
  · rw [hg] at h3; simpa using h3
  · have := List.all_eq_true.mp h4 g hg
    split at this
    · exact ⟨_, by assumption, this⟩
    · cases this
  · have := List.all_eq_true.mp h10 x (kat_mem hc).1
    rw [(kat_mem hc).2] at this
    simp only [Bool.and_eq_true] at this
    have := this.1.1.1; rw [hi] at this; exact this
  · have := List.all_eq_true.mp h10 x (kat_mem hc).1
    rw [(kat_mem hc).2] at this
    simp only [Bool.and_eq_true] at this
    exact this.1.1.2
  · have := List.all_eq_true.mp h10 x (kat_mem hc).1
    rw [(kat_mem hc).2] at this
    simp only [Bool.and_eq_true] at this
    have := this.1.2
    rw [hf] at this
    cases q : x.eini with
    | none => rw [q] at this; cases this
    | some ix => rw [q] at this; exact ⟨ix, rfl, this⟩
  · have := List.all_eq_true.mp h10 x (kat_mem hc).1
    simp only [Bool.and_eq_true] at this
    have := this.2
    rw [hi] at this
    simpa using this
end Rb

/-! RbHead3: the tables' facts of the written part. Own work. -/
namespace Rb
open PySem PySem.Spec PyProof.Rows L2
section
variable {t : TX} {K : PySem.W.Frag} {mg : Str → Option Value} {h : Heap}
/-- facts that the text alone tells -/
structure TxtF (t : TX) : Prop where
  len : ∀ y ∈ t.gx, y.1 < 1000
  binds : ∀ x ∈ t.fx, x.binds
  scope : ∀ x ∈ t.fx, FnScope (x.fd.N.map Str.ofString) (x.fd.ps.map Str.ofString) (defScope x.st)
  body : ∀ x ∈ t.fx, ∃ k, mBk t.tb k ⟨x.fd.N.map Str.ofString, defScope x.st, none, x.fd.top⟩ x.fd.body (defBody x.st) = true
  hot : ∀ x ∈ t.fx, x.hot = true → ∃ k, hBk t.tb k ⟨x.fd.N.map Str.ofString, defScope x.st, none, x.fd.top⟩ x.fd.body (defBody x.st) = true
  err : ∀ (c : Nat) (x : KX) (f : String) (ix : FX), t.kat c = some x → x.efld = some f → x.eini = some ix → ∃ p1 p2 q1 q2 q3 q4, defArgs ix.st = PySem.RbX.iA (Str.ofString f) p1 p2 ∧ defBody ix.st = PySem.RbX.iB (Str.ofString f) q1 q2 q3 q4 ∧ defScope ix.st = PySem.RbX.iS (Str.ofString f)
theorem fa_at {f : Nat} {x : FX} (h1 : t.fat f = some x) : t.fa K f = x.pa.at_ K := by unfold TX.fa; rw [h1]
theorem defF_of (S : t.Says K) (Z : TxtF t) {f : Nat} {fd : FD} (hf : (t.wd K mg).T.fn f = some fd) : DefF (t.wd K mg) f fd := by
  obtain ⟨x, h1, rfl, h3⟩ := TX.fn_of (K := K) hf
  have hm : x ∈ t.fx := fat_mem h1
  obtain ⟨dvs, _, F⟩ := FX.funD (d := t.wd K mg) (x := x) (S.obs (TX.fx_mem h1)) ((TX.chkF S.chk).fx x hm).1
  obtain ⟨k, hk⟩ := Z.body x hm
  refine ⟨Str.ofString x.fd.name, Str.ofString x.qual, defArgs x.st, defBody x.st, defScope x.st, dvs, [], k, ?_, Z.scope x hm, hk, fun hh => Z.hot x hm (by have q : ((t.fat f).map (·.hot)).getD false = true := hh; rw [h1] at q; exact q)⟩
  show FunD K _ _ _ _ _ _ _ (t.fa K f) (fdA K (t.fa K f))
  rw [h3]; exact F
theorem fnF_of (S : t.Says K) (Z : TxtF t) {f : Nat} {fd : FD} (hf : (t.wd K mg).T.fn f = some fd) : FnF (t.wd K mg) f fd := by
  obtain ⟨x, h1, rfl, h3⟩ := TX.fn_of (K := K) hf
  have hm : x ∈ t.fx := fat_mem h1
  have e := S.obs (TX.fx_mem h1)
  have c := ((TX.chkF S.chk).fx x hm).1
  obtain ⟨dvs, _, F⟩ := FX.funD (d := t.wd K mg) (x := x) e c
  have b := Z.binds x hm
  refine ⟨?_, ?_, fun hk s ws X hl => ?_⟩
  · show PySem.W.keepIn K (.ref (t.fa K f)) = true
    rw [h3]; exact F.kp
  · show Binds K (fdA K (t.fa K f)) _ _
    rw [h3]; exact FX.bind_all (d := t.wd K mg) e c b
  · have kw : x.kw = true := by
      have z : ((t.fat f).map (·.kw)).getD false = true := hk
      rw [h1] at z; exact z
    show BindsTo s (fdA K (t.fa K f)) _ _
    rw [h3]; exact FX.bind_kw (d := t.wd K mg) e c b kw s ws X hl
theorem clF_of (S : t.Says K) (Z : TxtF t) (X : K.In h) (G : h.Ns mainGlobals mg) {c : Nat} (hc : ((t.wd K mg).T.init c).isSome = true) : ClF (t.wd K mg) c := by
  obtain ⟨x, i, h1, h2, h3⟩ := TX.kx_of hc
  have C := (TX.chkF S.chk).cl c x i h1 h2
  unfold TX.clB at C
  simp only [Bool.and_eq_true, decide_eq_true_eq] at C
  obtain ⟨⟨⟨⟨⟨⟨⟨⟨⟨g1, ⟨⟨⟨a1, a2⟩, a3⟩, a4⟩⟩, ⟨⟨⟨b1, b2⟩, b3⟩, b4⟩⟩, c1⟩, c2⟩, c3⟩, c4⟩, c5⟩, c6⟩, c7⟩ := C
  cases hx : t.fat i with
  | none => rw [hx] at c7; cases c7
  | some fx =>
    rw [hx] at c7
    simp only [Bool.and_eq_true, Bool.or_eq_true, decide_eq_true_eq, Bool.not_eq_true', List.isEmpty_iff] at c7
    have hm : fx ∈ t.fx := fat_mem hx
    have e := S.obs (TX.fx_mem hx)
    have ck := ((TX.chkF S.chk).fx fx hm).1
    have b := Z.binds fx hm
    have hf3 : t.fa K i = fx.pa.at_ K := fa_at hx
    have hn : t.tb.cname c = x.name := by show ((t.kat c).map (·.name)).getD "" = _; rw [h1]; rfl
    have hfl : t.tb.flds c = x.flds.map Str.ofString := by show ((t.kat c).map fun x => x.flds.map Str.ofString).getD [] = _; rw [h1]; rfl
    have hdf : t.tb.dfl c = fx.dflC := by
      show ((((t.kat c).bind (·.init)).bind fun i => t.fat i).map FX.dflC).getD [] = _
      rw [h1]
      show ((x.init.bind fun i => t.fat i).map FX.dflC).getD [] = _
      rw [h2]
      show ((t.fat i).map FX.dflC).getD [] = _
      rw [hx]; rfl
    have ii : ∀ f, t.tb.init c = some f → f = i := fun f hf => by rw [h3] at hf; cases hf; rfl
    have ff : ∀ fd, t.tb.fn i = some fd → fd = fx.fd := fun fd hf => by
      obtain ⟨y, y1, y2, _⟩ := TX.fn_of (K := K) hf
      rw [hx] at y1; cases y1; exact y2.symm
    exact {
      cls := ⟨a1, a2, a3, fnd_of a4⟩
      mk1 := fun f hf => by
        rw [ii f hf]
        exact ⟨b1, fnd_of b2, b3, b4⟩
      mg := by
        show mg (Str.ofString (t.tb.cname c)) = _
        rw [hn]; exact glo_of X G g1
      att := fun f hf => by
        have hf' : f ∈ t.tb.flds c := hf
        rw [hfl] at hf'
        obtain ⟨z, z1, rfl⟩ := List.mem_map.mp hf'
        exact fnd_of (List.all_eq_true.mp c1 z z1)
      co := fnd_of c2
      gs := c3
      tk := c4
      mro := c5
      dfl := fun f fd k hi hf h0 hl => by
        cases ii f hi
        cases ff fd hf
        show ∃ ds vs, Binds K (fdA K (t.fa K i)) _ ds ∧ _
        rw [hf3]
        have hdf' : (t.wd K mg).T.dfl c = fx.dflC := hdf
        rw [hdf'] at h0 hl ⊢
        exact FX.bind_dfl (d := t.wd K mg) e ck b (fun ne => c7.1.resolve_left ne) h0 hl
      kbind := fun f fd hi hf hk s u ws Xs hl => by
        cases ii f hi
        cases ff fd hf
        have kw : fx.kw = true := by
          have z : ((t.fat i).map (·.kw)).getD false = true := hk
          rw [hx] at z; exact z
        show BindsTo s (fdA K (t.fa K i)) _ _
        rw [hf3]
        refine FX.bind_self (d := t.wd K mg) e ck b kw (fun z => ?_) s u ws Xs hl
        rcases c7.2 with q | q
        · rw [kw] at q; cases q
        · rw [z] at q; cases q }
theorem tbF_of (S : t.Says K) (Z : TxtF t) (X : K.In h) (G : h.Ns mainGlobals mg) : TbF (t.wd K mg) where
  fnF := fun f fd hf => fnF_of S Z hf
  fnG := fun f fd hf hg => by
    obtain ⟨x, h1, rfl, h3⟩ := TX.fn_of (K := K) hf
    have gl : x.gl = true := by
      have z : ((t.fat f).map (·.gl)).getD false = true := hg
      rw [h1] at z; exact z
    show mg (Str.ofString x.fd.name) = some (.ref (t.fa K f))
    rw [h3]
    exact glo_of X G (((TX.chkF S.chk).fx x (fat_mem h1)).2 gl)
  clF := fun c hc => clF_of S Z X G hc
  meth := fun c m fd hf hm => by
    obtain ⟨fx, h1, rfl, h3⟩ := TX.fn_of (K := K) hf
    have z : ((t.kat c).map fun x => x.meths.contains m).getD false = true := hm
    cases hx : t.kat c with
    | none => rw [hx] at z; cases z
    | some x =>
      rw [hx] at z
      have z : x.meths.contains m = true := z
      have M := (TX.chkF S.chk).me c x hx
      unfold TX.meB at M
      simp only [Bool.and_eq_true, Bool.or_eq_true] at M
      obtain ⟨_, ⟨m1, m2⟩, m3⟩ := M
      have hz : m ∈ x.meths := by simpa using z
      have w := List.all_eq_true.mp m2 m hz
      rw [h1] at w
      simp only [Bool.and_eq_true] at w
      rcases m1 with m1 | ⟨⟨⟨a1, a2⟩, a3⟩, a4⟩
      · have : x.meths = [] := by simpa using m1.1
        rw [this] at hz; cases hz
      · exact ⟨⟨a1, a2, a3, fnd_of a4⟩, fnd_of w.1.1, w.1.2, w.2⟩
  prp := fun c m fd hf hm => by
    obtain ⟨fx, h1, rfl, h3⟩ := TX.fn_of (K := K) hf
    have z : ((t.kat c).map fun x => x.prps.contains m).getD false = true := hm
    cases hx : t.kat c with
    | none => rw [hx] at z; cases z
    | some x =>
      rw [hx] at z
      have z : x.prps.contains m = true := z
      have M := (TX.chkF S.chk).me c x hx
      unfold TX.meB at M
      simp only [Bool.and_eq_true, Bool.or_eq_true] at M
      obtain ⟨_, ⟨m1, m2⟩, m3⟩ := M
      have hz : m ∈ x.prps := by simpa using z
      have w := List.all_eq_true.mp m3 m hz
      rw [h1] at w
      rcases m1 with m1 | ⟨⟨⟨a1, a2⟩, a3⟩, a4⟩
      · have : x.prps = [] := by simpa using m1.2
        rw [this] at hz; cases hz
      · refine ⟨⟨a1, a2, a3, fnd_of a4⟩, ?_⟩
        dsimp only at w
        split at w
        · rename_i p hp
          simp only [Bool.and_eq_true, decide_eq_true_eq] at w
          obtain ⟨⟨w1, w2⟩, w3⟩ := w
          split at w3
          · rename_i g r hr
            have : g = t.fa K m := of_decide_eq_true w3
            subst this
            exact ⟨p, hp, w1, w2, r, hr⟩
          · cases w3
        · cases w
  stt := fun c m fd hf hm => by
    obtain ⟨fx, h1, rfl, h3⟩ := TX.fn_of (K := K) hf
    obtain ⟨y, hy, rfl⟩ := Option.map_eq_some_iff.mp (show (t.kx.find? fun y => ((t.kat y.id).map fun x => x.stats.contains m).getD false).map (·.id) = some c from hm)
    have z0 := List.find?_some hy
    have z : ((t.kat y.id).map fun x => x.stats.contains m).getD false = true := z0
    clear z0 hy
    generalize y.id = c at z ⊢
    cases hx : t.kat c with
    | none => rw [hx] at z; cases z
    | some x =>
      rw [hx] at z
      have z : x.stats.contains m = true := z
      have M := (TX.chkF S.chk).me c x hx
      unfold TX.meB at M
      rw [Bool.and_eq_true, Bool.and_eq_true] at M
      have w := M.1.1
      unfold TX.stB at w
      have w := List.all_eq_true.mp w m (by simpa using z)
      rw [h1] at w
      simp only [Bool.and_eq_true, decide_eq_true_eq] at w
      obtain ⟨w1, w2⟩ := w
      split at w2
      · rename_i mc hmc
        simp only [Bool.and_eq_true] at w2
        obtain ⟨w3, w4⟩ := w2
        split at w4
        · rename_i b p C hfc
          simp only [Bool.and_eq_true, decide_eq_true_eq] at w4
          obtain ⟨⟨rfl, rfl⟩, w5⟩ := w4
          split at w5
          · rename_i g r hr
            have : g = t.fa K m := of_decide_eq_true w5
            subst this
            exact ⟨⟨mc, p, r, w3, hfc, hr⟩, w1⟩
          · cases w5
        · cases w4
      · cases w2
  glo := fun g D0 hg => by
    obtain ⟨y, h1, rfl⟩ := Option.map_eq_some_iff.mp (show (t.gat g).map (·.2.2) = some D0 from hg)
    obtain ⟨u, e, r⟩ := (TX.chkF S.chk).gx y (gat_mem h1).1
    obtain ⟨v, r1, r2⟩ := repK_ok (d := t.wd K mg) r
    have hn : t.tb.gname g = y.2.1 := by
      show (if g = 1000 then (if t.gcd then "gcd" else "") else ((t.gat g).map (·.2.1)).getD "") = y.2.1
      have := Z.len y (gat_mem h1).1
      have := (gat_mem h1).2
      rw [if_neg (by omega), h1]; rfl
    refine ⟨u, v, ?_, r1, r2⟩
    show mg (Str.ofString (t.tb.gname g)) = some u
    rw [hn]
    exact PySem.W.mg_of X G e
  eqf := fun c f hc => by
    have z : (t.kat c).bind (·.eq) = some f := hc
    cases hx : t.kat c with
    | none => rw [hx] at z; cases z
    | some x =>
      rw [hx] at z
      have z : x.eq = some f := z
      have M := (TX.chkF S.chk).me c x hx
      unfold TX.meB TX.eqB at M
      rw [z] at M
      simp only [Bool.and_eq_true, Bool.or_eq_true] at M
      obtain ⟨⟨_, ⟨⟨⟨e1, e2⟩, e3⟩, e4⟩, e5⟩, ⟨m1, m2⟩, m3⟩ := M
      have hz : f ∈ x.meths := by simpa using e1
      have w := List.all_eq_true.mp m2 f hz
      cases hfx : t.fat f with
      | none => rw [hfx] at e2; cases e2
      | some fx =>
        rw [hfx] at e2 w
        have hn : fx.fd.name = "__eq__" := of_decide_eq_true e2
        simp only [Bool.and_eq_true] at w
        have hfn : (t.wd K mg).T.fn f = some fx.fd := by show (t.fat f).map (·.fd) = _; rw [hfx]; rfl
        refine ⟨⟨fx.fd, hfn, fnF_of S Z hfn⟩, ?_, w.1.2, e3, e4, fun c' hc' => ?_⟩
        · have := fnd_of w.1.1
          rw [hn] at this
          exact this
        · have z : ((t.kat c').bind (·.init)).isSome = true := hc'
          cases hy : t.kat c' with
          | none => rw [hy] at z; cases z
          | some y =>
            rw [hy] at z
            obtain ⟨hm, rfl⟩ := kat_mem hy
            have q := List.all_eq_true.mp e5 y hm
            rw [Bool.or_eq_true] at q
            rcases q with q | q
            · have z : y.init.isSome = true := z
              cases hi : y.init with
              | none => rw [hi] at z; cases z
              | some i => rw [hi] at q; cases q
            · exact q
  blt := fun x hx => PySem.W.mg_none_of X G ((TX.chkF S.chk).bl x hx)
  gcd := fun hg => by
    have : t.gcd = true := by
      cases q : t.gcd with
      | true => rfl
      | false =>
        have z : (if 1000 = 1000 then (if t.gcd then "gcd" else "") else ((t.gat 1000).map (·.2.1)).getD "") = "gcd" := hg
        rw [q] at z
        simp at z
    exact PySem.W.mg_of X G ((TX.chkF S.chk).gc this)
  tys := fun n ty hn => by
    obtain ⟨h1, h2, h3, h4, h5⟩ := (TX.chkF S.chk).ty
    simp only [List.mem_cons, Prod.mk.injEq, List.not_mem_nil, or_false] at hn
    rcases hn with ⟨rfl, rfl⟩ | ⟨rfl, rfl⟩ | ⟨rfl, rfl⟩ | ⟨rfl, rfl⟩ | ⟨rfl, rfl⟩
    · exact isB_ok h1
    · exact isB_ok h2
    · exact isB_ok h3
    · exact isB_ok h4
    · exact isB_ok h5
  cls := fun c hc => by
    obtain ⟨x, i, h1, h2, h3⟩ := TX.kx_of hc
    have C := (TX.chkF S.chk).cl c x i h1 h2
    unfold TX.clB at C
    simp only [Bool.and_eq_true] at C
    exact isB_ok C.1.2
  exc := fun c hc => by
    cases hx : t.kat c with
    | none =>
      have z : ((t.kat c).map fun x => x.init.isNone).getD false = true := hc
      rw [hx] at z; cases z
    | some y =>
      have z : ((t.kat c).map fun x => x.init.isNone).getD false = true := hc
      rw [hx] at z
      have z : y.init.isNone = true := z
      have hi : y.init = none := by cases q : y.init with | none => rfl | some _ => rw [q] at z; cases z
      have E := (TX.chkF S.chk).ex c y hx hi
      unfold TX.exB at E
      rw [Bool.and_eq_true] at E
      obtain ⟨g1, g2⟩ := E
      have yi := (kat_mem hx).2
      rw [yi] at g1 g2
      have hn : t.tb.cname c = y.name := by show ((t.kat c).map (·.name)).getD "" = _; rw [hx]; rfl
      refine ⟨?_, fun c2 f hf => ?_⟩
      · show mg (Str.ofString (t.tb.cname c)) = _
        rw [hn]; exact glo_of X G g1
      · obtain ⟨x, h1, h2⟩ := Option.bind_eq_some_iff.mp (show ((t.kat c2).bind fun x => x.efld.map Str.ofString) = some f from hf)
        have := List.all_eq_true.mp g2 x (kat_mem h1).1
        rw [(kat_mem h1).2] at this
        have hs : x.efld.isNone = false := by cases q : x.efld with | none => rw [q] at h2; cases h2 | some _ => rfl
        rw [hs, Bool.false_or] at this
        have := of_decide_eq_true this
        have hb : t.tb.base c2 = x.base := by show (t.kat c2).bind (·.base) = _; rw [h1]; rfl
        show PySem.W.exmOne K (.ref (t.ca K c2)) (.ref (t.ca K c)) = some (decide (c2 = c ∨ t.tb.base c2 = some c))
        rw [hb]; exact this
  er := fun c f hf => by
    obtain ⟨x, h1, h2⟩ := Option.bind_eq_some_iff.mp (show ((t.kat c).bind fun x => x.efld.map Str.ofString) = some f from hf)
    obtain ⟨g, h3, rfl⟩ := Option.map_eq_some_iff.mp h2
    obtain ⟨ix, h4, E⟩ := (TX.chkF S.chk).er c x g h1 h3
    unfold TX.erB at E
    rw [Bool.and_eq_true] at E
    replace E := E.2
    simp only [Bool.and_eq_true, decide_eq_true_eq, Bool.or_eq_true, List.isEmpty_iff] at E
    obtain ⟨⟨⟨⟨⟨⟨⟨⟨⟨⟨⟨⟨⟨⟨⟨⟨g1, g2⟩, g3⟩, g4⟩, g5⟩, g6⟩, g7⟩, g8⟩, g9⟩, g10⟩, g11⟩, g12⟩, g13⟩, g14⟩, g15⟩, g16⟩, g17⟩ := E
    have hn : t.tb.cname c = x.name := by show ((t.kat c).map (·.name)).getD "" = _; rw [h1]; rfl
    have mem : ix ∈ t.efx := List.mem_append_right _ (List.mem_filterMap.mpr ⟨x, (kat_mem h1).1, h4⟩)
    obtain ⟨kp, oc, od, dV, doc, pm, an, cdv, ct, osl, dvs, q, c1, c2, c3⟩ := FX.lies (d := t.wd K mg) (S.obs mem) g15
    obtain ⟨p1, p2, q1, q2, q3, q4, e1, e2, e3⟩ := Z.err c x g ix h1 h3 h4
    have dn : dV = .none := by
      rcases c2 with ⟨_, z⟩ | ⟨z, _⟩
      · exact z
      · exact absurd (dvs_nil c3 g16) z
    subst dn
    rw [e1, e2, e3, g17] at q
    refine ⟨hf, ⟨ix.pa.at_ K, ⟨g2, g3, fnd_of g4, fnd_of g5, fnd_of g6, fnd_of g7, fnd_of g8, g9, g10, g11, g12, g13, ?_, ⟨Str.ofString ix.qual, oc, od, doc, pm, an, cdv, ct, osl, p1, p2, q1, q2, q3, q4, q, c1⟩⟩⟩, ?_⟩
    · rcases g14 with rfl | rfl
      · exact .inl rfl
      · exact .inr rfl
    · show mg (Str.ofString (t.tb.cname c)) = _
      rw [hn]; exact glo_of X G g1
  xk := fun hk c f hf => by
    obtain ⟨x, h1, h2⟩ := Option.bind_eq_some_iff.mp (show ((t.kat c).bind fun x => x.efld.map Str.ofString) = some f from hf)
    obtain ⟨g, h3, rfl⟩ := Option.map_eq_some_iff.mp h2
    obtain ⟨ix, h4, E⟩ := (TX.chkF S.chk).er c x g h1 h3
    unfold TX.erB at E
    rw [Bool.and_eq_true] at E
    obtain ⟨E1, E2⟩ := E
    have hk : t.xk = true := hk
    rw [hk] at E1
    have E1 : t.xkB K x = true := E1
    unfold TX.xkB at E1
    have hs : x.efld.isNone = false := by rw [h3]; rfl
    rw [hs, Bool.false_or] at E1
    simp only [Bool.and_eq_true, decide_eq_true_eq] at E1
    obtain ⟨⟨a1, a2⟩, ⟨⟨b1, b2⟩, b3⟩, b4⟩ := E1
    simp only [Bool.and_eq_true, decide_eq_true_eq, Bool.or_eq_true, List.isEmpty_iff] at E2
    obtain ⟨⟨⟨⟨⟨⟨⟨⟨⟨⟨⟨⟨⟨⟨⟨⟨g1, g2⟩, g3⟩, g4⟩, g5⟩, g6⟩, g7⟩, g8⟩, g9⟩, g10⟩, g11⟩, g12⟩, g13⟩, g14⟩, g15⟩, g16⟩, g17⟩ := E2
    have xi := (kat_mem h1).2
    rw [xi] at a1 a2 b1 b4
    refine ⟨fun h hh => ?_, fun n hn => ?_, ⟨fnd_of g5, fnd_of g6, g11, g13, fnd_of b1, b2, b3, b4⟩⟩
    · cases hx : t.kat h with
      | none =>
        have z : ((t.kat h).map fun x => x.init.isNone).getD false = true := hh
        rw [hx] at z; cases z
      | some y =>
        have z : ((t.kat h).map fun x => x.init.isNone).getD false = true := hh
        rw [hx] at z
        have z : y.init.isNone = true := z
        have hi : y.init.isSome = false := by cases q : y.init with | none => rfl | some _ => rw [q] at z; cases z
        have q := List.all_eq_true.mp a1 y (kat_mem hx).1
        rw [hi, Bool.false_or, (kat_mem hx).2] at q
        have hb : t.tb.base c = x.base := by show (t.kat c).bind (·.base) = _; rw [h1]; rfl
        show PySem.W.kitOne K (.ref (t.ca K c)) (.ref (t.ca K h)) = some (decide (c = h ∨ t.tb.base c = some h))
        rw [hb]; exact of_decide_eq_true q
    · have q := List.all_eq_true.mp a2 n hn
      rw [Bool.and_eq_true] at q
      exact ⟨of_decide_eq_true q.1, PySem.W.mg_none_of X G (of_decide_eq_true q.2)⟩
end
end Rb

/-! RbTop: the law's own def at the claim's caller alone, where no guard stands (so its body may ask for repr). Own work. -/
namespace Rb
open PySem PySem.Spec PyProof.Rows
open L2 hiding XE Takes CX passes_call takes_of MkP PMk ps_raise mk_of ps_try_as HdsOk ps_try_many pmk_own passAt St
open L2N
/-- the call of a def at one caller, by a triple of its body -/
theorem at_caller {CXa : CXT} {Pr : Program} {wo : World} {Ka : PySem.W.Frag} {mga : Str → Option Value} {ba : Heap} {m : Nat} {fa : Addr} {nm qu : Str} {pms : Arguments} {bo : List Stmt} {sco : Scope} {u1 u2 u3 u4 cva u5 u6 : Value} {a1 a2 : Option Addr}
    {sl : Array (Option Value)} {Ns Ps : List Str} (lka : Ka.lookup fa = some ⟨u6, a2, .func (PySem.W.fnOf nm qu pms bo sco u1 u2 u3 u4 a1 cva u5), sl⟩) (cin : PySem.W.codeIn Ka cva qu = true) (Sc : FnScope Ns Ps sco)
    {Ar : Around} (rm : Room (m + 1) Ar) {out : List PySem.Env} {sh : Shared} {Ha : Hp} {ags : Args} {us : List Value} {vs : List V} {Q : VK} {Ex_ : XK} (en : Env0 Pr wo Ka mga ba Ar out sh Ha)
    (bds : BindsTo sh (PySem.W.fnOf nm qu pms bo sco u1 u2 u3 u4 a1 cva u5) ags (Ps.zip us)) (rvs : Vals vs us) (ln : vs.length = Ps.length)
    (hbo : Room m (Ar.deeper (envOfC qu sco sh.heap.objs.size fa cva)) → ∃ t, PSs (cxOf CXa Pr wo Ka mga ba Ns qu sco fa cva Ar out sh Ha Ex_) bo t ∧ t { nx := fun _ H' => Q .non H', rt := Q } (L2.start Ns vs) Ha) :
    codeAny (model Pr wo) Ar (.call (.ref fa) ags) (CR CXa out Pr wo Ha sh Q Ex_) sh := by
  have inK : Ka.In sh.heap := en.mod.kin.keeps fun b o z => (en.bs b o z).1
  have nolim : sh.heap.NoLimit := en.mod.nolimit.keeps fun b o z => (en.bs b o z).1
  have kinds : ∀ y ∈ Ps.zip us, sco.names.lookup y.1 = some .local ∨ (sco.names.lookup y.1 = some .cell ∧ ((cellsFrom (sh.heap.objs.size + 1) sco.names []).lookup y.1).isSome = true) := by
    rintro ⟨z, v⟩ hz
    rcases Sc.par z (List.of_mem_zip hz).1 with k | k
    · exact .inl k
    · exact .inr ⟨k, PySem.W.cellsFrom_some _ _ _ (.inl k)⟩
  refine codeAny_call_function rm.depth (inK _ _ lka) rfl Sc.co Sc.gen rfl (PySem.W.codeRec_of inK cin) (bds _ _ _ _ ?_)
  refine wpAny_newFunctionEnv_cells Sc.kind kinds fun en1 he1 sh1 ic => ?_
  subst he1
  refine ⟨nolim.keeps ic.toInCall.keep, codeAny_func ?_⟩
  obtain ⟨t, pt, qt⟩ := hbo (rm.deeper _)
  have In0 : Inv (cxOf CXa Pr wo Ka mga ba Ns qu sco fa cva Ar out sh Ha Ex_) [] (L2.start Ns vs) Ha sh1 := inv_start Sc rm.hd en ln rvs ic
  refine wpAny_mono (pt.run [] sh1 (L2.start Ns vs) Ha _ In0 qt) (fun fl sh2 hsp => ?_) fun e sh2 z => z
  cases fl with
  | ret u =>
    obtain ⟨v, sg2, H2, J2, r2, q2⟩ := hsp
    exact ⟨v, H2, J2.os, J2.bare, J2.base, J2.hok, r2, q2⟩
  | next =>
    obtain ⟨sg2, H2, J2, q2⟩ := hsp
    exact ⟨V.non, H2, J2.os, J2.bare, J2.base, J2.hok, rfl, q2⟩
  | brk => exact hsp.elim fun _ z => z.elim fun _ z => False.elim z.2
  | cont => exact hsp.elim fun _ z => z.elim fun _ z => False.elim z.2
/-- the def of the law, 60 deep, where no guard stands -/
theorem top_def {d : Wd} (TF : TbF d) (DF : ∀ f fd, d.T.fn f = some fd → DefF d f fd) (Pr : Program) (wo : World) (ba : Heap) {li : Nat} {fd : FD} (hf : d.T.fn li = some fd) (n : Nat) (hn : n = 59) {Ar : Around} (rm : Room (2 * n + 1 + 1) Ar) (gs : Ar.guards = some [])
    {out : List PySem.Env} {sh : Shared} {Ha : Hp} {ags : Args} {us : List Value} {vs : List V} {Q : VK} {Ex_ : XK} (en : Env0 Pr wo d.K d.mg ba Ar out sh Ha) (bds : BindsTo sh (d.fdt li) ags ((fd.ps.map Str.ofString).zip us)) (rvs : Vals vs us) (q : spI d (n + 1) li vs Ha Q Ex_) :
    codeAny (model Pr wo) Ar (.call (.ref (d.fa li)) ags) (CR (L2N.CX Pr wo) out Pr wo Ha sh Q Ex_) sh := by
  obtain ⟨x, qual, params, body, scope, dvs, kws, k, FD, S, hm, _⟩ := (DF li fd hf).ex
  obtain ⟨oc, od, dV, kV, doc, pm, an, cdv, ct, osl, e, lk, cin, _, _⟩ := FD.ex
  rw [e] at lk bds
  have IH := fn_lvl TF DF Pr wo ba n (by omega)
  have hl := spI_len hf q
  refine at_caller (m := 2 * n + 1) lk cin S rm en bds rvs hl fun hr => ⟨tbI d (run d.T n) (fun cls dd _ H => Ex_ cls dd H) fd.body, (sOk (n := n) TF k).B _ ⟨fd.N.map Str.ofString, scope, none, fd.top⟩ _ _ _ ?_ hm, ?_⟩
  · exact { K := rfl, mg := rfl, calm := rfl, room := hr, fns := IH, sc := rfl, nN := rfl, nd := S.nd, fn := fun _ => rfl, gd := fun _ => gs, fc := rfl, bk := S.kind, tk := takes_of rfl rfl rfl rfl, po := passes_of rfl, stk := rfl, frm := rfl, hns := fun f2 fd2 hf2 hh2 => fn_hot TF DF Pr wo ba n hf2 hh2 }
  · obtain ⟨F, io, args, M, s1, c1, r1, z⟩ := q
    simp only [run, hf] at z
    split at z
    · rename_i ha
      refine ⟨F, io, Ha, F, io, _, M, ⟨Ex.refl F io Ha, start_rl s1 c1 r1 (fd.N.length - fd.ps.length) (fd.N.map Str.ofString) ?_, fun i l a h => ?_⟩, fin_sat z⟩
      · rw [hl, List.length_map, List.length_map]
      · exfalso
        rcases Nat.lt_or_ge i args.length with q | q
        · rw [List.getElem?_append_left (by rw [List.length_map]; exact q), List.getElem?_map] at h
          obtain ⟨y, h1, h2⟩ := Option.map_eq_some_iff.mp h
          cases h2
        · rw [List.getElem?_append_right (by rw [List.length_map]; exact q), List.getElem?_replicate] at h
          split at h <;> cases h
    · exact z.elim
/-- the claim's call of the law, from what its def gives at that caller -/
theorem claim_call {Pr : Program} {wo : World} {Ka : PySem.W.Frag} {mga mba : Str → Option Value} {fa ar : Addr} {sh : Shared} {uu : List Value} {zs : List Int} {CXa : CXT}
    (inK : Ka.In sh.heap) (nsM : sh.heap.Ns mainGlobals mga) (nsB : sh.heap.Ns builtinsNs mba) (bo : ∀ y : Str, y ≠ "__name__" → mba y = bootBuiltins y) (nol : sh.heap.NoLimit) (gen : sh.gens = #[])
    (obj : sh.heap.get? ar = some { cls := .type "list", data := .seq uu.toArray }) (zi : IntsAre uu zs) (short : zs.length ≤ sizeLine)
    (go : ∀ (ba : Heap) (Ha : Hp), Ka.In ba → ba.Ns mainGlobals mga → Env0 Pr wo Ka mga ba callerA [] sh Ha → SqL Ka Ha ar (zs.map V.int) → codeAny (model Pr wo) callerA (.call (.ref fa) ⟨[.ref ar], []⟩) (CR CXa [] Pr wo Ha sh (fun v _ => v = .bl true) fun _ _ _ => False) sh)
    (noX : ∀ Ha e s2, CXa [] Ha sh (fun _ _ _ => False) e s2 → False) :
    codeAny (model Pr wo) callerA (.call (.ref fa) ⟨[.ref ar], []⟩) (fun r s2 => r = .ok (.ret (.bool true)) ∧ OldK sh.heap s2.heap ∧ s2.os = sh.os ∧ AllBare s2.gens) sh := by
  have uuL := zi.length
  have uuV := vals_ints zi
  -- the abstract heap: the script alone, or nothing
  have main_ : ∀ Ha : Hp, (∀ b, Ha b = none ∨ ∃ o xs, Ha b = some (.frz o (.lst xs))) → SqL Ka Ha ar (zs.map V.int) → HOk Pr wo Ha sh.heap → (∀ b, Ha b ≠ none → b = ar ∧ Ka.lookup ar = none) →
      codeAny (model Pr wo) callerA (.call (.ref fa) ⟨[.ref ar], []⟩) (fun r s2 => r = .ok (.ret (.bool true)) ∧ OldK sh.heap s2.heap ∧ s2.os = sh.os ∧ AllBare s2.gens) sh := by
    intro Ha only sq hok own
    have notD : ∀ {b : Addr} {o : Obj} {es : Array DictEntry} {n : Nat}, sh.heap.get? b = some o → o.data = .dict es n → Ha b = none := by
      intro b o es n e1 e2
      cases q : Ha b with
      | none => rfl
      | some z =>
        obtain ⟨rfl, _⟩ := own b (by rw [q]; simp)
        rw [obj] at e1
        cases e1
        exact Data.noConfusion (show Data.seq uu.toArray _ = Data.dict es n from e2)
    have ns2 : ∀ {b : Addr} {g : Str → Option Value}, sh.heap.Ns b g → (hidT sh.heap Ha).Ns b g := by
      rintro b g ⟨o, es, n, e1, e2, r⟩
      exact ⟨o, es, n, hidT_get e1 (notD e1 e2), e2, r⟩
    have in2 : Ka.In (hidT sh.heap Ha) := by
      intro b o e1
      refine hidT_get (inK b o e1) ?_
      cases q : Ha b with
      | none => rfl
      | some z =>
        obtain ⟨rfl, hn⟩ := own b (by rw [q]; simp)
        rw [hn] at e1
        cases e1
    have md : Mod Ka mga (hidT sh.heap Ha) := ⟨in2, ns2 nsM, ⟨mba, ns2 nsB, bo⟩, nol.elim fun mc z => ⟨mc, ns2 z.1, z.2⟩⟩
    have en : Env0 Pr wo Ka mga (hidT sh.heap Ha) callerA [] sh Ha := ⟨rfl, md, fun b o z => of_hidT z, Nat.le_of_eq (hidT_size _ _), trivial, fun b z => absurd (show b ∈ ([] : List Addr) from z) (by simp), hok, .of_eq gen⟩
    refine codeAny_mono (go _ Ha in2 (ns2 nsM) en sq) fun r s2 h => ?_
    cases r with
    | error e => exact (noX Ha e s2 h).elim
    | ok fl =>
      cases fl with
      | ret u =>
        obtain ⟨v, H2, hos, hba, un, hok2, rv2, rfl⟩ := h
        obtain rfl : u = Value.bool true := rv2
        refine ⟨rfl, OldK.of_keep fun b o e1 => ?_, hos, hba⟩
        cases q : Ha b with
        | none => exact un.keep b o e1 q (fun z => absurd (show b ∈ ([] : List Addr) from z) (by simp)) (by simp)
        | some z =>
          rcases only b with h1 | ⟨ob, xs, h1⟩
          · rw [h1] at q; cases q
          · obtain ⟨g1, _⟩ := hok b _ h1
            obtain ⟨g2, _⟩ := hok2 b _ (un.frzs b ob _ h1)
            rw [e1] at g1
            cases g1
            exact g2
      | next => exact h.elim
      | brk => exact h.elim
      | cont => exact h.elim
  cases lk : Ka.lookup ar with
  | some o =>
    have e1 := inK ar o lk
    rw [obj] at e1
    cases e1
    exact main_ (fun _ => none) (fun _ => .inl rfl) (.inr ⟨_, uu.toArray, _, lk, rfl, rfl, rfl, by rw [List.size_toArray, uuL]; exact short, by simpa using uuV⟩) (fun b z h => nomatch (show (none : Option HO) = some z from h)) fun b h => absurd rfl h
  | none =>
    have at_ : ∀ {b : Addr} {z : HO}, (if b = ar then some (HO.frz { cls := .type "list", data := .seq uu.toArray } (.lst (zs.map V.int))) else none) = some z → b = ar ∧ z = HO.frz { cls := .type "list", data := .seq uu.toArray } (.lst (zs.map V.int)) := by
      intro b z h
      split at h
      · rename_i hb
        cases h
        exact ⟨hb, rfl⟩
      · cases h
    refine main_ (fun b => if b = ar then some (.frz { cls := .type "list", data := .seq uu.toArray } (.lst (zs.map V.int))) else none) (fun b => ?_) (.inl (.inr ⟨{ cls := .type "list", data := .seq uu.toArray }, if_pos rfl⟩)) (fun b z h => ?_) fun b h => ⟨?_, lk⟩
    · by_cases hb : b = ar
      · exact .inr ⟨_, _, if_pos hb⟩
      · exact .inl (if_neg hb)
    · obtain ⟨rfl, rfl⟩ := at_ h
      exact ⟨obj, by rw [List.length_map]; exact short, uu, _, uuV, obj⟩
    · exact Classical.byContradiction fun hb => h (if_neg hb)
end Rb

/-! RbEnd: a law by the small language's run. Own work. -/
namespace Rb
open PySem PySem.Spec PyProof.Rows
open L2 hiding XE Takes CX passes_call takes_of MkP PMk ps_raise mk_of ps_try_as HdsOk ps_try_many pmk_own passAt St
open L2N
/-- what a law asks of the small language -/
def Main (T : Tb) (N li : Nat) : Prop := ∀ ns : List Int, ns.length ≤ 63 → (∀ z ∈ ns, Builtin.Int.intBits z ≤ 1048576) → ∃ M, run T N li [.ro (ns.map .int)] [] = .ok (.bl true) M
theorem cels_nil {d : Wd} {F H : Hp} : Cels d F [] H [] := by
  refine ⟨rfl, .nil, fun a h => ?_, fun r c h => ?_⟩
  · cases h
  · cases r <;> cases h
theorem sp_law {d : Wd} {N li : Nat} (m : Main d.T N li) {H : Hp} {a : Addr} {ns : List Int} (hl : ns.length ≤ 63) (hb : ∀ z ∈ ns, Builtin.Int.intBits z ≤ 1048576) (h : SqL d.K H a (ns.map V.int)) : spI d N li [.ref a] H (fun v _ => v = .bl true) fun _ _ _ => False := by
  obtain ⟨M, hM⟩ := m ns hl hb
  refine ⟨H, [], [.ro (ns.map .int)], [], Sub.refl H, cels_nil, ?_, ?_⟩
  · simp only [Reps]
    exact ⟨_, _, rfl, by simp only [Rep]; exact ⟨a, _, rfl, h, reps_ints ns⟩, rfl⟩
  · rw [hM]
    intro F' io' H' v x s c r
    exact rep_bl r
theorem walkR {l : PySem.W.OpenLaw} {q : Program} {loose : List Str} {XP : (Str → Option Value) → Heap → Prop} {dd : DefRec} {t : TX} {n N li : Nat} {x : FX} (Z : TxtF t) (hx : t.fat li = some x) (m : Main t.tb N li) (hN : N = 60) (hm : l.most = some 63) (hdf : dd.params.defaults = []) (hr : Room (2 * N) callerA)
    (hgl : x.gl = true) (hps : x.fd.ps = ["script"]) (hdl : x.dfl = []) (hdn : dd.name = Str.ofString x.fd.name) : PySem.W.WalkO q loose XP (t.hook n).says l.row.toRowW dd [] (fun f vs => PySem.call f vs) := by
  subst hN
  refine Att.attach_callB hm hdf ?_
  intro w s0 s1 mg mb fa o pm cd doc a vs ns G Y ho hd hcd hmg hobj hints hlen hbits hg
  obtain ⟨K, KX, S⟩ := Y
  have TF := tbF_of S Z KX G.T.g
  have hfn : (t.wd K mg).T.fn li = some x.fd := by show (t.fat li).map (·.fd) = _; rw [hx]; rfl
  have FF := TF.fnF li x.fd hfn
  have hfa : fa = t.fa K li := by
    have e1 := TF.fnG li x.fd hfn (by show ((t.fat li).map (·.gl)).getD false = true; rw [hx]; exact hgl)
    rw [← hdn] at e1
    have e2 : mg dd.name = some (.ref (t.fa K li)) := e1
    rw [hmg] at e2
    cases e2; rfl
  subst hfa
  have hpa : t.fa K li = x.pa.at_ K := fa_at hx
  obtain ⟨dvs, r, FD⟩ := FX.funD (d := t.wd K mg) (S.obs (TX.fx_mem hx)) ((TX.chkF S.chk).fx x (fat_mem hx)).1
  cases dvs_nil r hdl
  have bz := Z.binds x (fat_mem hx)
  unfold FX.binds at bz
  rw [hdl] at bz
  have bd : ∀ (s : Shared) (u : Value), BindsTo s (fdA K (t.fa K li)) ⟨[u], []⟩ [(Str.ofString "script", u)] := fun s u => by
    have z := FD.bindsA (ps := x.fd.ps.map Str.ofString) (fun kV doc pm an cdv ct us hl => bz.1 _ _ _ _ kV doc pm an cdv ct us hl) s [u] (by rw [hps]; rfl)
    rw [hps] at z
    rw [hpa]
    exact z
  exact claim_call (CXa := L2N.CX l.prog w) KX G.T.g G.T.b G.T.builtins G.T.nolimit hg hobj hints (Nat.le_trans hlen (by decide)) (fun base H _ _ en sq => by
    have z := top_def TF (fun f fd hf => defF_of S Z hf) l.prog w base hfn 59 rfl hr rfl en (us := [.ref a]) (vs := [V.ref a]) (ags := ⟨[.ref a], []⟩) (by rw [hps]; exact bd _ (.ref a)) (.cons rfl .nil) (sp_law (d := t.wd K mg) m hlen hbits sq)
    exact z) fun H e s' z => by
    obtain ⟨_, _, _, _, _, _, _, _, _, _, _, _, z⟩ := z
    exact z
end Rb

/-! RbEnd2: a Hook that reads the heap level by level, with no search for what was met. Own work. -/
namespace Rb
open PySem PySem.Spec PyProof.Rows L2
def TX.hookE (t : TX) (n : Nat) : PySem.W.Hook where
  α := AlR
  obs := fun s => t.obsE n s.heap.get?
  val := fun _ => t.valK
  says := fun _ hp => ∃ K1 : PySem.W.Frag, K1.In hp ∧ t.Says K1
  of := fun _ _ z => ⟨_, He.frG_in, z⟩
  keeps := fun _ _ _ z k => z.elim fun K1 h1 => ⟨K1, PySem.W.Frag.In.keeps h1.1 k, h1.2⟩
theorem TX.obsE_eq {t : TX} {n : Nat} {g : Addr → Option Obj} {s : Shared} (h : ∀ a, g a = s.heap.get? a) : t.obsE n g = (t.hookE n).obs s := by
  rw [show g = s.heap.get? from funext h]; rfl
theorem saysE (t : TX) (n : Nat) : (t.hookE n).says = fun _ hp => ∃ K1 : PySem.W.Frag, K1.In hp ∧ t.Says K1 := by unfold TX.hookE; rfl
theorem saysD (t : TX) (n : Nat) : (t.hook n).says = fun _ hp => ∃ K1 : PySem.W.Frag, K1.In hp ∧ t.Says K1 := by unfold TX.hook; rfl
theorem walkE {l : PySem.W.OpenLaw} {q : Program} {loose : List Str} {XP : (Str → Option Value) → Heap → Prop} {dd : DefRec} {t : TX} {n N li : Nat} {x : FX} (Z : TxtF t) (hx : t.fat li = some x) (m : Main t.tb N li) (hN : N = 60) (hm : l.most = some 63) (hdf : dd.params.defaults = []) (hr : Room (2 * N) callerA)
    (hgl : x.gl = true) (hps : x.fd.ps = ["script"]) (hdl : x.dfl = []) (hdn : dd.name = Str.ofString x.fd.name) : PySem.W.WalkO q loose XP (t.hookE n).says l.row.toRowW dd [] (fun f vs => PySem.call f vs) := by
  rw [saysE]
  have z := walkR (l := l) (q := q) (loose := loose) (XP := XP) (n := 7) Z hx m hN hm hdf hr hgl hps hdl hdn
  rw [saysD] at z
  exact z
/-! ### the heap's list cut once into pieces of 32 -/
end Rb

/-! RbEv: stepping the small language by simp; loops by invariants. Own work. -/
namespace Rb
open PySem
theorem run_eq {T : Tb} {n f : Nat} {fd : FD} {args : List D} {M : Sto} (h : T.fn f = some fd) (hl : args.length = fd.ps.length) (ht : fd.top = false ∨ n = 59 := by first | exact .inl rfl | exact .inr rfl) :
    run T (n + 1) f args M = fin (blk T (run T n) fd.body (args.map Slot.val ++ List.replicate (fd.N.length - fd.ps.length) .un) M) := by
  simp only [run, h, if_pos (And.intro hl ht)]
theorem okN (M : Sto) : Grd.ok [] M := fun p hp => nomatch hp
/-! ### stepping by simp: what comes after a step is kept from view until the step is done -/
class KT (α β : Type) where
  f : α → Sto → β
def bI {α β : Type} (x : Res α) [k : KT α (Res β)] : Res β := x.bind k.f
def oI {α : Type} (e : Env) (x : Res α) [k : KT α Out] : Out := ofR e x k.f
class KO where
  f : Out → Out
def fI (o : Out) [k : KO] : Out := k.f o
theorem bI_ok {α β : Type} {a : α} {M : Sto} {f : α → Sto → Res β} : @bI α β (.ok a M) ⟨f⟩ = f a M := Eq.trans rfl rfl
theorem bI_exc {α β : Type} {c : Nat} {v : D} {M : Sto} {f : α → Sto → Res β} : @bI α β (.exc c v M) ⟨f⟩ = .exc c v M := Eq.trans rfl rfl
theorem oI_ok {α : Type} {e : Env} {a : α} {M : Sto} {f : α → Sto → Out} : @oI α e (.ok a M) ⟨f⟩ = f a M := Eq.trans rfl rfl
theorem oI_exc {α : Type} {e : Env} {c : Nat} {v : D} {M : Sto} {f : α → Sto → Out} : @oI α e (.exc c v M) ⟨f⟩ = .exc c v e M := Eq.trans rfl rfl
theorem oR_some {α : Type} {a : α} {M : Sto} : oR (some a) M = .ok a M := Eq.trans rfl rfl
/-- a block, a comprehension's body: kept whole -/
def bF (T : Tb) (C : CallT) (b : List S) : Env → Sto → Out := fun e M => blk T C b e M
theorem bF_app (T : Tb) (C : CallT) (b : List S) (e : Env) (M : Sto) : bF T C b e M = blk T C b e M := Eq.trans rfl rfl
def cF (T : Tb) (C : CallT) (x : P) (t : Tgt) (c : Option P) (e : Env) : D → Sto → Res (Option D) := fun d M2 => match bindT t d (e.uns t.ix) with
      | none => .stuck
      | some e' => match c with
        | none => (ev T C x e' M2).bind fun y M3 => .ok (some y) M3
        | some q => (ev T C q e' M2).bind fun b M3 => match b with
          | .bl true => (ev T C x e' M3).bind fun y M4 => .ok (some y) M4
          | .bl false => .ok none M3
          | _ => .stuck
def cF2 (T : Tb) (C : CallT) (x : P) (t : Tgt) (t2 : Tgt) (s2 : Src) (e : Env) : D → Sto → Res (List D) := fun d M2 => match bindT t d (e.noOwn.uns (t.ix ++ t2.ix)) with
      | none => .stuck
      | some e' => (evS T C s2 e' M2).bind fun gl2 M3 => if gl2.1.isEmpty then compGo (cF T C x t2 none e') [] gl2.2 M3 else .stuck
theorem E_val (T : Tb) (C : CallT) : (∀ i e M, ev T C (.nm i) e M = match e[i]? with | some (.val (.exn _ _)) => .stuck | some (.val d) => .ok d M | _ => .stuck) ∧
  (∀ d e M, ev T C (.cst d) e M = .ok d M) ∧
  (∀ g e M, ev T C (.glo g) e M = oR (T.glo g) M) ∧
  (∀ a ts e M, ev T C (.isi a ts) e M = @bI _ _ (ev T C a e M) ⟨fun x M1 => oR ((isiD T x M1 ts).map .bl) M1⟩) := ⟨fun _ _ _ => rfl, fun _ _ _ => rfl, fun _ _ _ => rfl, fun _ _ _ _ => rfl⟩
theorem E_op (T : Tb) (C : CallT) : (∀ o a b e M, ev T C (.bin o a b) e M = @bI _ _ (ev T C a e M) ⟨fun x M1 => @bI _ _ (ev T C b e M1) ⟨fun y M2 => oR (binD o x y) M2⟩⟩) ∧
  (∀ a b e M, ev T C (.cmp .eq a b) e M = @bI _ _ (ev T C a e M) ⟨fun x M1 => @bI _ _ (ev T C b e M1) ⟨fun y M2 => cmpD T C .eq x y M2⟩⟩) ∧
  (∀ a b e M, ev T C (.cmp .ne a b) e M = @bI _ _ (ev T C a e M) ⟨fun x M1 => @bI _ _ (ev T C b e M1) ⟨fun y M2 => cmpD T C .ne x y M2⟩⟩) ∧
  (∀ a b e M, ev T C (.cmp .lt a b) e M = @bI _ _ (ev T C a e M) ⟨fun x M1 => @bI _ _ (ev T C b e M1) ⟨fun y M2 => cmpD T C .lt x y M2⟩⟩) ∧
  (∀ a b e M, ev T C (.cmp .le a b) e M = @bI _ _ (ev T C a e M) ⟨fun x M1 => @bI _ _ (ev T C b e M1) ⟨fun y M2 => cmpD T C .le x y M2⟩⟩) ∧
  (∀ a b e M, ev T C (.cmp .gt a b) e M = @bI _ _ (ev T C a e M) ⟨fun x M1 => @bI _ _ (ev T C b e M1) ⟨fun y M2 => cmpD T C .gt x y M2⟩⟩) ∧
  (∀ a b e M, ev T C (.cmp .ge a b) e M = @bI _ _ (ev T C a e M) ⟨fun x M1 => @bI _ _ (ev T C b e M1) ⟨fun y M2 => cmpD T C .ge x y M2⟩⟩) ∧
  (∀ a b e M, ev T C (.cmp .isin a b) e M = @bI _ _ (ev T C a e M) ⟨fun x M1 => @bI _ _ (opOf b e M1 (ev T C b e M1)) ⟨fun y M2 => oR ((inD x y M2).map .bl) M2⟩⟩) ∧
  (∀ a b e M, ev T C (.cmp .notin a b) e M = @bI _ _ (ev T C a e M) ⟨fun x M1 => @bI _ _ (opOf b e M1 (ev T C b e M1)) ⟨fun y M2 => oR ((inD x y M2).map fun r => .bl !r) M2⟩⟩) ∧
  (∀ o1 o2 a b c e M, ev T C (.chn o1 o2 a b c) e M = @bI _ _ (ev T C a e M) ⟨fun x M1 => @bI _ _ (ev T C b e M1) ⟨fun y M2 => @bI _ _ (cmpD T C o1 x y M2) ⟨fun r M3 => match r with
    | .bl true => @bI _ _ (ev T C c e M3) ⟨fun z M4 => cmpD T C o2 y z M4⟩
    | .bl false => .ok (.bl false) M3
    | _ => .stuck⟩⟩⟩) ∧
  (∀ neg a e M, ev T C (.isn neg a) e M = @bI _ _ (ev T C a e M) ⟨fun x M1 => match x with | .non => .ok (.bl !neg) M1 | _ => .ok (.bl neg) M1⟩) ∧
  (∀ neg a b e M, ev T C (.isb neg a b) e M = @bI _ _ (ev T C a e M) ⟨fun x M1 => match x with | .bl c => .ok (.bl ((c == b) != neg)) M1 | _ => .stuck⟩) ∧
  (∀ a b e M, ev T C (.and_ a b) e M = @bI _ _ (ev T C a e M) ⟨fun x M1 => match x with | .bl true => ev T C b e M1 | .bl false => .ok (.bl false) M1 | _ => .stuck⟩) ∧
  (∀ a b e M, ev T C (.or_ a b) e M = @bI _ _ (ev T C a e M) ⟨fun x M1 => match x with | .bl false => ev T C b e M1 | .bl true => .ok (.bl true) M1 | _ => .stuck⟩) ∧
  (∀ a e M, ev T C (.not_ a) e M = @bI _ _ (ev T C a e M) ⟨fun x M1 => match x with | .bl b => .ok (.bl !b) M1 | _ => .stuck⟩) ∧
  (∀ a e M, ev T C (.neg a) e M = @bI _ _ (ev T C a e M) ⟨fun x M1 => match x with | .int i => .ok (.int (-i)) M1 | _ => .stuck⟩) ∧
  (∀ c a b e M, ev T C (.ite c a b) e M = @bI _ _ (ev T C c e M) ⟨fun x M1 => match x with | .bl true => ev T C a e M1 | .bl false => ev T C b e M1 | _ => .stuck⟩) := by
  refine ⟨?_, ?_, ?_, ?_, ?_, ?_, ?_, ?_, ?_, ?_, ?_, ?_, ?_, ?_, ?_, ?_, ?_⟩ <;> intros <;> rfl
theorem E_call (T : Tb) (C : CallT) : (∀ f args e M, ev T C (.call f args) e M = @bI _ _ (evs T C args e M) ⟨fun l M1 => C f l M1⟩) ∧
  (∀ f args e M, ev T C (.callk f args) e M = @bI _ _ (evs T C args e M) ⟨fun l M1 => C f l M1⟩) ∧
  (∀ c args e M, ev T C (.new c args) e M = @bI _ _ (evs T C args e M) ⟨fun l M1 => if (T.dfl c).isEmpty || !l.isEmpty then newIns T C c (l ++ (T.dfl c).drop l.length) M1 else .stuck⟩) ∧
  (∀ c args e M, ev T C (.newk c args) e M = @bI _ _ (evs T C args e M) ⟨fun l M1 => newIns T C c l M1⟩) ∧
  (∀ c args e M, ev T C (.newo c args) e M = @bI _ _ (evs T C args e M) ⟨fun l M1 => if (T.dfl c).isEmpty then newObj T C c l M1 else .stuck⟩) ∧
  (∀ c o m args e M, ev T C (.meth c o m args) e M = @bI _ _ (ev T C o e M) ⟨fun x M1 => if isObj T c x (mName T m) M1 then @bI _ _ (evs T C args e M1) ⟨fun l M2 => C m (x :: l) M2⟩ else .stuck⟩) ∧
  (∀ c o m e M, ev T C (.prop c o m) e M = @bI _ _ (ev T C o e M) ⟨fun x M1 => if isObj T c x (mName T m) M1 then noExc (C m [x] M1) else .stuck⟩) ∧
  (∀ c o f e M, ev T C (.att c o f) e M = @bI _ _ (ev T C o e M) ⟨fun x M1 => oR (attD T c x f M1) M1⟩) := by
  refine ⟨?_, ?_, ?_, ?_, ?_, ?_, ?_, ?_⟩ <;> intros <;> rfl
theorem E_blt (T : Tb) (C : CallT) : (∀ a e M, ev T C (.len a) e M = @bI _ _ (opOf a e M (ev T C a e M)) ⟨fun x M1 => oR ((lenD x.2 M1).map fun (n : Nat) => D.int (n : Int)) M1⟩) ∧
  (∀ a e M, ev T C (.tupl a) e M = @bI _ _ (qOf a e M (ev T C a e M)) ⟨fun x M1 => if x.2.2.length ≤ lim then .ok (.tup x.2.2) M1 else .stuck⟩) ∧
  (∀ a e M, ev T C (.list a) e M = @bI _ _ (qOf a e M (ev T C a e M)) ⟨fun x M1 => if x.2.2.length ≤ lim then .ok (.lst x.2.2) M1 else .stuck⟩) ∧
  (∀ a e M, ev T C (.sum a) e M = @bI _ _ (qOf a e M (ev T C a e M)) ⟨fun x M1 => oR ((intsD x.2.2).map fun l => .int l.sum) M1⟩) ∧
  (∀ a e M, ev T C (.all a) e M = @bI _ _ (qOf a e M (ev T C a e M)) ⟨fun x M1 => oR (((lstO x).bind blsD).map fun l => .bl (l.all id)) M1⟩) ∧
  (∀ a e M, ev T C (.any a) e M = @bI _ _ (qOf a e M (ev T C a e M)) ⟨fun x M1 => oR (((lstO x).bind blsD).map fun l => .bl (l.any id)) M1⟩) ∧
  (∀ a e M, ev T C (.srt a) e M = @bI _ _ (qOf a e M (ev T C a e M)) ⟨fun x M1 => oR ((srtO x.2.2).map .lst) M1⟩) ∧
  (∀ a e M, ev T C (.mins a) e M = @bI _ _ (qOf a e M (ev T C a e M)) ⟨fun x M1 => oR (((lstO x).bind intsD).bind fun l => l.min?.map .int) M1⟩) ∧
  (∀ a b e M, ev T C (.min2 a b) e M = @bI _ _ (ev T C a e M) ⟨fun x M1 => @bI _ _ (ev T C b e M1) ⟨fun y M2 => match x, y with | .int i, .int j => .ok (.int (if j < i then j else i)) M2 | _, _ => .stuck⟩⟩) ∧
  (∀ a b e M, ev T C (.max2 a b) e M = @bI _ _ (ev T C a e M) ⟨fun x M1 => @bI _ _ (ev T C b e M1) ⟨fun y M2 => match x, y with | .int i, .int j => .ok (.int (if j > i then j else i)) M2 | _, _ => .stuck⟩⟩) ∧
  (∀ a b e M, ev T C (.gcd a b) e M = @bI _ _ (ev T C a e M) ⟨fun x M1 => @bI _ _ (ev T C b e M1) ⟨fun y M2 => match x, y with | .int i, .int j => .ok (.int ((Nat.gcd i.natAbs j.natAbs : Nat) : Int)) M2 | _, _ => .stuck⟩⟩) ∧
  (∀ a e M, ev T C (.int_ a) e M = @bI _ _ (ev T C a e M) ⟨fun x M1 => match x with
    | .int i => .ok (.int i) M1
    | .str s => oR ((intText? s).bind fun n => if s.length ≤ 640 then some (.int n) else none) M1
    | _ => .stuck⟩) ∧
  (∀ a e M, ev T C (.abs a) e M = @bI _ _ (ev T C a e M) ⟨fun x M1 => match x with | .int i => .ok (.int (if i < 0 then -i else i)) M1 | _ => .stuck⟩) ∧
  (∀ a e M, ev T C (.repr a) e M = @bI _ _ (ev T C a e M) ⟨fun x M1 => oR ((reprO x).map .str) M1⟩) ∧
  (∀ a e M, ev T C (.lrng a) e M = @bI _ _ (ev T C a e M) ⟨fun x M1 => match x with | .int i => if 0 ≤ i ∧ i ≤ 100000 then .ok (.lst (rngL 0 i.toNat)) M1 else .stuck | _ => .stuck⟩) ∧
  (∀ a e M, ev T C (.trng a) e M = @bI _ _ (ev T C a e M) ⟨fun x M1 => match x with | .int i => if 0 ≤ i ∧ i ≤ 100000 then .ok (.tup (rngL 0 i.toNat)) M1 else .stuck | _ => .stuck⟩) := by
  refine ⟨?_, ?_, ?_, ?_, ?_, ?_, ?_, ?_, ?_, ?_, ?_, ?_, ?_, ?_, ?_, ?_⟩ <;> intros <;> rfl
theorem E_str (T : Tb) (C : CallT) : (∀ a e M, ev T C (.str_ a) e M = @bI _ _ (ev T C a e M) ⟨fun x M1 => match x with | .int i => if i.natAbs.log2 < 1920 then .ok (.str (toString i)) M1 else .stuck | _ => .stuck⟩) ∧
  (∀ s a e M, ev T C (.join s a) e M = @bI _ _ (ev T C s e M) ⟨fun x M1 => match x with
    | .str z => @bI _ _ (qOf a e M1 (ev T C a e M1)) ⟨fun y M2 => match strsD y.2.2 with
      | some l => if (l.map (·.length)).sum + l.length * z.length ≤ lim then .ok (.str (Txt.join z l)) M2 else .stuck
      | none => .stuck⟩
    | _ => .stuck⟩) ∧
  (∀ s a e M, ev T C (.split s a) e M = @bI _ _ (ev T C s e M) ⟨fun x M1 => match x with
    | .str z => @bI _ _ (ev T C a e M1) ⟨fun y M2 => (match y with
      | .str p => if (p.length == 0) = false ∧ z.length + 2 ≤ lim then .ok (.lst ((Txt.split z p).map .str)) M2 else .stuck
      | _ => .stuck)⟩
    | _ => .stuck⟩) ∧
  (∀ s a e M, ev T C (.part s a) e M = @bI _ _ (ev T C s e M) ⟨fun x M1 => match x with
    | .str z => @bI _ _ (ev T C a e M1) ⟨fun y M2 => (match y with
      | .str p => if (p.length == 0) = false ∧ z.length ≤ lim then .ok (.tup [.str (Txt.partition z p).1, .str (Txt.partition z p).2.1, .str (Txt.partition z p).2.2]) M2 else .stuck
      | _ => .stuck)⟩
    | _ => .stuck⟩) ∧
  (∀ i a b e M, ev T C (.rep1 i a b) e M = match e[i]? with
    | some (.val (.str x)) => if a ≠ b ∧ (a.length == 0) = false ∧ x.length + b.length ≤ lim ∧ (rep1S x a b).length ≤ lim then .ok (.str (rep1S x a b)) M else .stuck
    | _ => .stuck) ∧
  (∀ l e M, ev T C (.fstr l) e M = @bI _ _ (evF T C l Str.empty e M) ⟨fun s M1 => .ok (.str s) M1⟩) ∧
  (∀ acc e M, evF T C [] acc e M = .ok acc M) ∧
  (∀ a r acc e M, evF T C (a :: r) acc e M = @bI _ _ (ev T C a e M) ⟨fun x M1 => match strTy x with
    | some z => if (acc ++ z).length ≤ lim then evF T C r (acc ++ z) e M1 else .stuck
    | none => .stuck⟩) ∧
  (∀ a e M, evS T C (.sgn a) e M = @bI _ _ (ev T C a e M) ⟨fun x M1 => match x with | .str z => .ok ([], signsD z) M1 | _ => .stuck⟩) ∧
  (∀ o k e M, ev T C (.dget o k) e M = @bI _ _ (ev T C o e M) ⟨fun x M1 => @bI _ _ (ev T C k e M1) ⟨fun y M2 => match x, y with
    | .cel r, .str f => (match M2[r]? with | some (.dct kvs) => oR (lookF f kvs) M2 | _ => .stuck)
    | _, _ => .stuck⟩⟩) ∧
  (∀ neg k o e M, ev T C (.din neg k o) e M = @bI _ _ (ev T C k e M) ⟨fun y M1 => @bI _ _ (ev T C o e M1) ⟨fun x M2 => match x, y with
    | .cel r, .str f => (match M2[r]? with | some (.dct kvs) => .ok (.bl ((lookF f kvs).isSome != neg)) M2 | _ => .stuck)
    | _, _ => .stuck⟩⟩) ∧
  (∀ e M, ev T C .newd e M = .ok (.cel M.length) (M ++ [.dct []])) ∧
  (∀ c f args e M, ev T C (.stat c f args) e M = @bI _ _ (evs T C args e M) ⟨fun l M1 => C f l M1⟩) ∧
  (∀ x0 (e : Env) (M : Sto) (r : Res D), opOf (P.str_ x0) e M r = @bI _ _ r ⟨fun d M1 => .ok (false, d) M1⟩) ∧
  (∀ x0 x1 (e : Env) (M : Sto) (r : Res D), opOf (P.join x0 x1) e M r = @bI _ _ r ⟨fun d M1 => .ok (false, d) M1⟩) := by
  refine ⟨?_, ?_, ?_, ?_, ?_, ?_, ?_, ?_, ?_, ?_, ?_, ?_, ?_, ?_, ?_⟩ <;> intros <;> rfl
theorem E_seq (T : Tb) (C : CallT) : (∀ o i e M, ev T C (.ix o i) e M = @bI _ _ (opOf o e M (ev T C o e M)) ⟨fun x M1 => @bI _ _ (ev T C i e M1) ⟨fun y M2 => oR (ixD x.2 y M2) M2⟩⟩) ∧
  (∀ o a e M, ev T C (.slf o a) e M = @bI _ _ (opOf o e M (ev T C o e M)) ⟨fun x M1 => @bI _ _ (ev T C a e M1) ⟨fun y M2 => match y with | .int k => oR (slD x.2 (some k) none M2) M2 | _ => .stuck⟩⟩) ∧
  (∀ o b e M, ev T C (.slt o b) e M = @bI _ _ (opOf o e M (ev T C o e M)) ⟨fun x M1 => @bI _ _ (ev T C b e M1) ⟨fun y M2 => match y with | .int k => oR (slD x.2 none (some k) M2) M2 | _ => .stuck⟩⟩) ∧
  (∀ o e M, ev T C (.rev o) e M = @bI _ _ (ev T C o e M) ⟨fun x M1 => match x with | .tup l => .ok (.tup l.reverse) M1 | _ => .stuck⟩) ∧
  (∀ l e M, ev T C (.tup l) e M = @bI _ _ (evs T C l e M) ⟨fun ds M1 => if ds.length ≤ lim then .ok (.tup ds) M1 else .stuck⟩) ∧
  (∀ l e M, ev T C (.lst l) e M = @bI _ _ (evs T C l e M) ⟨fun ds M1 => if ds.length ≤ lim then .ok (.lst ds) M1 else .stuck⟩) ∧
  (∀ x t s c e M, ev T C (.comp x t s c) e M = @bI _ _ (evS T C s e M) ⟨fun gl M1 => @bI _ _ (noExc (compGo (cF T C x t c e) gl.1 gl.2 M1)) ⟨fun l M2 => if l.length ≤ lim then .ok (.lst l) M2 else .stuck⟩⟩) ∧
  (∀ x t s t2 s2 e M, ev T C (.comp2 x t s t2 s2) e M = @bI _ _ (evS T C s e M) ⟨fun gl M1 => @bI _ _ (noExc (comp2Go (cF2 T C x t t2 s2 e) gl.1 gl.2 M1)) ⟨fun l M2 => if l.length ≤ lim then .ok (.lst l) M2 else .stuck⟩⟩) ∧
  (∀ x e M, ev T C (.newc x) e M = @bI _ _ (ev T C x e M) ⟨fun d M1 => match d with | .lst l => .ok (.cel M1.length) (M1 ++ [.lst l]) | _ => .stuck⟩) ∧
  (∀ a b e M, ev T C (.cat a b) e M = @bI _ _ (qOf a e M (ev T C a e M)) ⟨fun x M1 => @bI _ _ (qOf b e M1 (ev T C b e M1)) ⟨fun y M2 => if x.2.1 = false ∧ y.2.1 = false ∧ x.1 = [] ∧ x.2.2.length + y.2.2.length ≤ lim then .ok (.lst (x.2.2 ++ y.2.2)) M2 else .stuck⟩⟩) := by
  refine ⟨?_, ?_, ?_, ?_, ?_, ?_, fun x t s c e M => (by cases c <;> (simp only [ev, bI]; rfl)), ?_, ?_, ?_⟩ <;> intros <;> rfl
theorem E_args (T : Tb) (C : CallT) : (∀ e M, evs T C [] e M = .ok [] M) ∧
  (∀ a r e M, evs T C (.star a :: r) e M = @bI _ _ (qOf a e M (ev T C a e M)) ⟨fun x M1 => @bI _ _ (evs T C r e M1) ⟨fun l M2 => .ok (x.2.2 ++ l) M2⟩⟩) ∧
  (∀ a e M, evS T C (.seq a) e M = @bI _ _ (qOf a e M (ev T C a e M)) ⟨fun x M1 => .ok (x.1, x.2.2) M1⟩) ∧
  (∀ a e M, evS T C (.rg1 a) e M = @bI _ _ (ev T C a e M) ⟨fun x M1 => match x with | .int i => if small i then .ok ([], rngL 0 i.toNat) M1 else .stuck | _ => .stuck⟩) ∧
  (∀ a b e M, evS T C (.rg2 a b) e M = @bI _ _ (ev T C a e M) ⟨fun x M1 => @bI _ _ (ev T C b e M1) ⟨fun y M2 => match x, y with | .int i, .int j => if small i && small j then .ok ([], rngL i (j - i).toNat) M2 else .stuck | _, _ => .stuck⟩⟩) ∧
  (∀ a e M, evS T C (.enm a) e M = @bI _ _ (qOf a e M (ev T C a e M)) ⟨fun x M1 => .ok (x.1, enumL x.2.2) M1⟩) ∧
  (∀ a b e M, evS T C (.zp a b) e M = @bI _ _ (qOf a e M (ev T C a e M)) ⟨fun x M1 => @bI _ _ (qOf b e M1 (ev T C b e M1)) ⟨fun y M2 => if Grd.ok x.1 M2 then .ok (x.1 ++ y.1, zipL x.2.2 y.2.2) M2 else .stuck⟩⟩) := by
  refine ⟨?_, ?_, ?_, ?_, ?_, ?_, ?_⟩ <;> intros <;> rfl
theorem E_cons (T : Tb) (C : CallT) : (∀ x0 r e M, evs T C ((.nm x0) :: r) e M = @bI _ _ (ev T C (.nm x0) e M) ⟨fun x M1 => @bI _ _ (evs T C r e M1) ⟨fun l M2 => .ok (x :: l) M2⟩⟩) ∧
  (∀ x0 r e M, evs T C ((.cst x0) :: r) e M = @bI _ _ (ev T C (.cst x0) e M) ⟨fun x M1 => @bI _ _ (evs T C r e M1) ⟨fun l M2 => .ok (x :: l) M2⟩⟩) ∧
  (∀ x0 r e M, evs T C ((.glo x0) :: r) e M = @bI _ _ (ev T C (.glo x0) e M) ⟨fun x M1 => @bI _ _ (evs T C r e M1) ⟨fun l M2 => .ok (x :: l) M2⟩⟩) ∧
  (∀ x0 x1 x2 r e M, evs T C ((.bin x0 x1 x2) :: r) e M = @bI _ _ (ev T C (.bin x0 x1 x2) e M) ⟨fun x M1 => @bI _ _ (evs T C r e M1) ⟨fun l M2 => .ok (x :: l) M2⟩⟩) ∧
  (∀ x0 x1 r e M, evs T C ((.cat x0 x1) :: r) e M = @bI _ _ (ev T C (.cat x0 x1) e M) ⟨fun x M1 => @bI _ _ (evs T C r e M1) ⟨fun l M2 => .ok (x :: l) M2⟩⟩) ∧
  (∀ x0 x1 x2 r e M, evs T C ((.cmp x0 x1 x2) :: r) e M = @bI _ _ (ev T C (.cmp x0 x1 x2) e M) ⟨fun x M1 => @bI _ _ (evs T C r e M1) ⟨fun l M2 => .ok (x :: l) M2⟩⟩) ∧
  (∀ x0 x1 x2 x3 x4 r e M, evs T C ((.chn x0 x1 x2 x3 x4) :: r) e M = @bI _ _ (ev T C (.chn x0 x1 x2 x3 x4) e M) ⟨fun x M1 => @bI _ _ (evs T C r e M1) ⟨fun l M2 => .ok (x :: l) M2⟩⟩) ∧
  (∀ x0 x1 r e M, evs T C ((.isn x0 x1) :: r) e M = @bI _ _ (ev T C (.isn x0 x1) e M) ⟨fun x M1 => @bI _ _ (evs T C r e M1) ⟨fun l M2 => .ok (x :: l) M2⟩⟩) ∧
  (∀ x0 x1 x2 r e M, evs T C ((.isb x0 x1 x2) :: r) e M = @bI _ _ (ev T C (.isb x0 x1 x2) e M) ⟨fun x M1 => @bI _ _ (evs T C r e M1) ⟨fun l M2 => .ok (x :: l) M2⟩⟩) ∧
  (∀ x0 x1 r e M, evs T C ((.and_ x0 x1) :: r) e M = @bI _ _ (ev T C (.and_ x0 x1) e M) ⟨fun x M1 => @bI _ _ (evs T C r e M1) ⟨fun l M2 => .ok (x :: l) M2⟩⟩) ∧
  (∀ x0 x1 r e M, evs T C ((.or_ x0 x1) :: r) e M = @bI _ _ (ev T C (.or_ x0 x1) e M) ⟨fun x M1 => @bI _ _ (evs T C r e M1) ⟨fun l M2 => .ok (x :: l) M2⟩⟩) ∧
  (∀ x0 r e M, evs T C ((.not_ x0) :: r) e M = @bI _ _ (ev T C (.not_ x0) e M) ⟨fun x M1 => @bI _ _ (evs T C r e M1) ⟨fun l M2 => .ok (x :: l) M2⟩⟩) ∧
  (∀ x0 r e M, evs T C ((.neg x0) :: r) e M = @bI _ _ (ev T C (.neg x0) e M) ⟨fun x M1 => @bI _ _ (evs T C r e M1) ⟨fun l M2 => .ok (x :: l) M2⟩⟩) ∧
  (∀ x0 x1 x2 r e M, evs T C ((.ite x0 x1 x2) :: r) e M = @bI _ _ (ev T C (.ite x0 x1 x2) e M) ⟨fun x M1 => @bI _ _ (evs T C r e M1) ⟨fun l M2 => .ok (x :: l) M2⟩⟩) ∧
  (∀ x0 x1 r e M, evs T C ((.call x0 x1) :: r) e M = @bI _ _ (ev T C (.call x0 x1) e M) ⟨fun x M1 => @bI _ _ (evs T C r e M1) ⟨fun l M2 => .ok (x :: l) M2⟩⟩) ∧
  (∀ x0 x1 r e M, evs T C ((.callk x0 x1) :: r) e M = @bI _ _ (ev T C (.callk x0 x1) e M) ⟨fun x M1 => @bI _ _ (evs T C r e M1) ⟨fun l M2 => .ok (x :: l) M2⟩⟩) ∧
  (∀ x0 x1 r e M, evs T C ((.new x0 x1) :: r) e M = @bI _ _ (ev T C (.new x0 x1) e M) ⟨fun x M1 => @bI _ _ (evs T C r e M1) ⟨fun l M2 => .ok (x :: l) M2⟩⟩) ∧
  (∀ x0 x1 r e M, evs T C ((.newk x0 x1) :: r) e M = @bI _ _ (ev T C (.newk x0 x1) e M) ⟨fun x M1 => @bI _ _ (evs T C r e M1) ⟨fun l M2 => .ok (x :: l) M2⟩⟩) ∧
  (∀ x0 x1 r e M, evs T C ((.newo x0 x1) :: r) e M = @bI _ _ (ev T C (.newo x0 x1) e M) ⟨fun x M1 => @bI _ _ (evs T C r e M1) ⟨fun l M2 => .ok (x :: l) M2⟩⟩) ∧
  (∀ x0 x1 x2 x3 r e M, evs T C ((.meth x0 x1 x2 x3) :: r) e M = @bI _ _ (ev T C (.meth x0 x1 x2 x3) e M) ⟨fun x M1 => @bI _ _ (evs T C r e M1) ⟨fun l M2 => .ok (x :: l) M2⟩⟩) ∧
  (∀ x0 x1 x2 r e M, evs T C ((.prop x0 x1 x2) :: r) e M = @bI _ _ (ev T C (.prop x0 x1 x2) e M) ⟨fun x M1 => @bI _ _ (evs T C r e M1) ⟨fun l M2 => .ok (x :: l) M2⟩⟩) ∧
  (∀ x0 x1 x2 r e M, evs T C ((.att x0 x1 x2) :: r) e M = @bI _ _ (ev T C (.att x0 x1 x2) e M) ⟨fun x M1 => @bI _ _ (evs T C r e M1) ⟨fun l M2 => .ok (x :: l) M2⟩⟩) ∧
  (∀ x0 x1 r e M, evs T C ((.exat x0 x1) :: r) e M = @bI _ _ (ev T C (.exat x0 x1) e M) ⟨fun x M1 => @bI _ _ (evs T C r e M1) ⟨fun l M2 => .ok (x :: l) M2⟩⟩) ∧
  (∀ x0 r e M, evs T C ((.len x0) :: r) e M = @bI _ _ (ev T C (.len x0) e M) ⟨fun x M1 => @bI _ _ (evs T C r e M1) ⟨fun l M2 => .ok (x :: l) M2⟩⟩) ∧
  (∀ x0 r e M, evs T C ((.tupl x0) :: r) e M = @bI _ _ (ev T C (.tupl x0) e M) ⟨fun x M1 => @bI _ _ (evs T C r e M1) ⟨fun l M2 => .ok (x :: l) M2⟩⟩) ∧
  (∀ x0 r e M, evs T C ((.list x0) :: r) e M = @bI _ _ (ev T C (.list x0) e M) ⟨fun x M1 => @bI _ _ (evs T C r e M1) ⟨fun l M2 => .ok (x :: l) M2⟩⟩) ∧
  (∀ x0 r e M, evs T C ((.sum x0) :: r) e M = @bI _ _ (ev T C (.sum x0) e M) ⟨fun x M1 => @bI _ _ (evs T C r e M1) ⟨fun l M2 => .ok (x :: l) M2⟩⟩) ∧
  (∀ x0 r e M, evs T C ((.all x0) :: r) e M = @bI _ _ (ev T C (.all x0) e M) ⟨fun x M1 => @bI _ _ (evs T C r e M1) ⟨fun l M2 => .ok (x :: l) M2⟩⟩) ∧
  (∀ x0 r e M, evs T C ((.any x0) :: r) e M = @bI _ _ (ev T C (.any x0) e M) ⟨fun x M1 => @bI _ _ (evs T C r e M1) ⟨fun l M2 => .ok (x :: l) M2⟩⟩) ∧
  (∀ x0 r e M, evs T C ((.srt x0) :: r) e M = @bI _ _ (ev T C (.srt x0) e M) ⟨fun x M1 => @bI _ _ (evs T C r e M1) ⟨fun l M2 => .ok (x :: l) M2⟩⟩) ∧
  (∀ x0 r e M, evs T C ((.mins x0) :: r) e M = @bI _ _ (ev T C (.mins x0) e M) ⟨fun x M1 => @bI _ _ (evs T C r e M1) ⟨fun l M2 => .ok (x :: l) M2⟩⟩) ∧
  (∀ x0 x1 r e M, evs T C ((.min2 x0 x1) :: r) e M = @bI _ _ (ev T C (.min2 x0 x1) e M) ⟨fun x M1 => @bI _ _ (evs T C r e M1) ⟨fun l M2 => .ok (x :: l) M2⟩⟩) ∧
  (∀ x0 x1 r e M, evs T C ((.max2 x0 x1) :: r) e M = @bI _ _ (ev T C (.max2 x0 x1) e M) ⟨fun x M1 => @bI _ _ (evs T C r e M1) ⟨fun l M2 => .ok (x :: l) M2⟩⟩) ∧
  (∀ x0 r e M, evs T C ((.int_ x0) :: r) e M = @bI _ _ (ev T C (.int_ x0) e M) ⟨fun x M1 => @bI _ _ (evs T C r e M1) ⟨fun l M2 => .ok (x :: l) M2⟩⟩) ∧
  (∀ x0 r e M, evs T C ((.abs x0) :: r) e M = @bI _ _ (ev T C (.abs x0) e M) ⟨fun x M1 => @bI _ _ (evs T C r e M1) ⟨fun l M2 => .ok (x :: l) M2⟩⟩) ∧
  (∀ x0 r e M, evs T C ((.str_ x0) :: r) e M = @bI _ _ (ev T C (.str_ x0) e M) ⟨fun x M1 => @bI _ _ (evs T C r e M1) ⟨fun l M2 => .ok (x :: l) M2⟩⟩) ∧
  (∀ x0 x1 r e M, evs T C ((.gcd x0 x1) :: r) e M = @bI _ _ (ev T C (.gcd x0 x1) e M) ⟨fun x M1 => @bI _ _ (evs T C r e M1) ⟨fun l M2 => .ok (x :: l) M2⟩⟩) ∧
  (∀ x0 r e M, evs T C ((.lrng x0) :: r) e M = @bI _ _ (ev T C (.lrng x0) e M) ⟨fun x M1 => @bI _ _ (evs T C r e M1) ⟨fun l M2 => .ok (x :: l) M2⟩⟩) ∧
  (∀ x0 r e M, evs T C ((.trng x0) :: r) e M = @bI _ _ (ev T C (.trng x0) e M) ⟨fun x M1 => @bI _ _ (evs T C r e M1) ⟨fun l M2 => .ok (x :: l) M2⟩⟩) ∧
  (∀ x0 x1 r e M, evs T C ((.isi x0 x1) :: r) e M = @bI _ _ (ev T C (.isi x0 x1) e M) ⟨fun x M1 => @bI _ _ (evs T C r e M1) ⟨fun l M2 => .ok (x :: l) M2⟩⟩) ∧
  (∀ x0 x1 r e M, evs T C ((.join x0 x1) :: r) e M = @bI _ _ (ev T C (.join x0 x1) e M) ⟨fun x M1 => @bI _ _ (evs T C r e M1) ⟨fun l M2 => .ok (x :: l) M2⟩⟩) ∧
  (∀ x0 x1 r e M, evs T C ((.split x0 x1) :: r) e M = @bI _ _ (ev T C (.split x0 x1) e M) ⟨fun x M1 => @bI _ _ (evs T C r e M1) ⟨fun l M2 => .ok (x :: l) M2⟩⟩) ∧
  (∀ x0 x1 r e M, evs T C ((.part x0 x1) :: r) e M = @bI _ _ (ev T C (.part x0 x1) e M) ⟨fun x M1 => @bI _ _ (evs T C r e M1) ⟨fun l M2 => .ok (x :: l) M2⟩⟩) ∧
  (∀ x0 x1 r e M, evs T C ((.ix x0 x1) :: r) e M = @bI _ _ (ev T C (.ix x0 x1) e M) ⟨fun x M1 => @bI _ _ (evs T C r e M1) ⟨fun l M2 => .ok (x :: l) M2⟩⟩) ∧
  (∀ x0 x1 r e M, evs T C ((.dget x0 x1) :: r) e M = @bI _ _ (ev T C (.dget x0 x1) e M) ⟨fun x M1 => @bI _ _ (evs T C r e M1) ⟨fun l M2 => .ok (x :: l) M2⟩⟩) ∧
  (∀ x0 x1 x2 r e M, evs T C ((.din x0 x1 x2) :: r) e M = @bI _ _ (ev T C (.din x0 x1 x2) e M) ⟨fun x M1 => @bI _ _ (evs T C r e M1) ⟨fun l M2 => .ok (x :: l) M2⟩⟩) ∧
  (∀ x0 x1 r e M, evs T C ((.slf x0 x1) :: r) e M = @bI _ _ (ev T C (.slf x0 x1) e M) ⟨fun x M1 => @bI _ _ (evs T C r e M1) ⟨fun l M2 => .ok (x :: l) M2⟩⟩) ∧
  (∀ x0 x1 r e M, evs T C ((.slt x0 x1) :: r) e M = @bI _ _ (ev T C (.slt x0 x1) e M) ⟨fun x M1 => @bI _ _ (evs T C r e M1) ⟨fun l M2 => .ok (x :: l) M2⟩⟩) ∧
  (∀ x0 r e M, evs T C ((.rev x0) :: r) e M = @bI _ _ (ev T C (.rev x0) e M) ⟨fun x M1 => @bI _ _ (evs T C r e M1) ⟨fun l M2 => .ok (x :: l) M2⟩⟩) ∧
  (∀ x0 r e M, evs T C ((.tup x0) :: r) e M = @bI _ _ (ev T C (.tup x0) e M) ⟨fun x M1 => @bI _ _ (evs T C r e M1) ⟨fun l M2 => .ok (x :: l) M2⟩⟩) ∧
  (∀ x0 r e M, evs T C ((.lst x0) :: r) e M = @bI _ _ (ev T C (.lst x0) e M) ⟨fun x M1 => @bI _ _ (evs T C r e M1) ⟨fun l M2 => .ok (x :: l) M2⟩⟩) ∧
  (∀ x0 x1 x2 x3 r e M, evs T C ((.comp x0 x1 x2 x3) :: r) e M = @bI _ _ (ev T C (.comp x0 x1 x2 x3) e M) ⟨fun x M1 => @bI _ _ (evs T C r e M1) ⟨fun l M2 => .ok (x :: l) M2⟩⟩) ∧
  (∀ x0 x1 x2 x3 x4 r e M, evs T C ((.comp2 x0 x1 x2 x3 x4) :: r) e M = @bI _ _ (ev T C (.comp2 x0 x1 x2 x3 x4) e M) ⟨fun x M1 => @bI _ _ (evs T C r e M1) ⟨fun l M2 => .ok (x :: l) M2⟩⟩) ∧
  (∀ x0 r e M, evs T C ((.fstr x0) :: r) e M = @bI _ _ (ev T C (.fstr x0) e M) ⟨fun x M1 => @bI _ _ (evs T C r e M1) ⟨fun l M2 => .ok (x :: l) M2⟩⟩) ∧
  (∀ x0 r e M, evs T C ((.newc x0) :: r) e M = @bI _ _ (ev T C (.newc x0) e M) ⟨fun x M1 => @bI _ _ (evs T C r e M1) ⟨fun l M2 => .ok (x :: l) M2⟩⟩) := by
  refine ⟨?_, ?_, ?_, ?_, ?_, ?_, ?_, ?_, ?_, ?_, ?_, ?_, ?_, ?_, ?_, ?_, ?_, ?_, ?_, ?_, ?_, ?_, ?_, ?_, ?_, ?_, ?_, ?_, ?_, ?_, ?_, ?_, ?_, ?_, ?_, ?_, ?_, ?_, ?_, ?_, ?_, ?_, ?_, ?_, ?_, ?_, ?_, ?_, ?_, ?_, ?_, ?_, ?_, ?_, ?_⟩ <;> intros <;> rfl
/-- places that are no list of their own name's -/
theorem qq_val : (∀ x0 (e : Env) (M : Sto) (r : Res D), qOf (P.nm x0) e M r = @bI _ _ r ⟨fun d M1 => oR ((seqD d M1).map fun l => (grdOf d l, (match d with | .tup _ => true | _ => false), l)) M1⟩) ∧
  (∀ x0 (e : Env) (M : Sto) (r : Res D), qOf (P.glo x0) e M r = @bI _ _ r ⟨fun d M1 => oR ((seqD d M1).map fun l => (grdOf d l, (match d with | .tup _ => true | _ => false), l)) M1⟩) ∧
  (∀ x0 x1 (e : Env) (M : Sto) (r : Res D), qOf (P.cat x0 x1) e M r = @bI _ _ r ⟨fun d M1 => oR ((seqD d M1).map fun l => (grdOf d l, (match d with | .tup _ => true | _ => false), l)) M1⟩) ∧
  (∀ x0 x1 x2 (e : Env) (M : Sto) (r : Res D), qOf (P.ite x0 x1 x2) e M r = @bI _ _ r ⟨fun d M1 => oR ((seqD d M1).map fun l => (grdOf d l, (match d with | .tup _ => true | _ => false), l)) M1⟩) ∧
  (∀ x0 x1 (e : Env) (M : Sto) (r : Res D), qOf (P.call x0 x1) e M r = @bI _ _ r ⟨fun d M1 => oR ((seqD d M1).map fun l => (grdOf d l, (match d with | .tup _ => true | _ => false), l)) M1⟩) ∧
  (∀ x0 x1 (e : Env) (M : Sto) (r : Res D), qOf (P.callk x0 x1) e M r = @bI _ _ r ⟨fun d M1 => oR ((seqD d M1).map fun l => (grdOf d l, (match d with | .tup _ => true | _ => false), l)) M1⟩) ∧
  (∀ x0 x1 x2 x3 (e : Env) (M : Sto) (r : Res D), qOf (P.meth x0 x1 x2 x3) e M r = @bI _ _ r ⟨fun d M1 => oR ((seqD d M1).map fun l => (grdOf d l, (match d with | .tup _ => true | _ => false), l)) M1⟩) ∧
  (∀ x0 x1 x2 (e : Env) (M : Sto) (r : Res D), qOf (P.prop x0 x1 x2) e M r = @bI _ _ r ⟨fun d M1 => oR ((seqD d M1).map fun l => (grdOf d l, (match d with | .tup _ => true | _ => false), l)) M1⟩) ∧
  (∀ x0 x1 x2 (e : Env) (M : Sto) (r : Res D), qOf (P.att x0 x1 x2) e M r = @bI _ _ r ⟨fun d M1 => oR ((seqD d M1).map fun l => (grdOf d l, (match d with | .tup _ => true | _ => false), l)) M1⟩) ∧
  (∀ x0 (e : Env) (M : Sto) (r : Res D), qOf (P.tupl x0) e M r = @bI _ _ r ⟨fun d M1 => oR ((seqD d M1).map fun l => (grdOf d l, (match d with | .tup _ => true | _ => false), l)) M1⟩) ∧
  (∀ x0 (e : Env) (M : Sto) (r : Res D), qOf (P.list x0) e M r = @bI _ _ r ⟨fun d M1 => oR ((seqD d M1).map fun l => (grdOf d l, (match d with | .tup _ => true | _ => false), l)) M1⟩) ∧
  (∀ x0 (e : Env) (M : Sto) (r : Res D), qOf (P.srt x0) e M r = @bI _ _ r ⟨fun d M1 => oR ((seqD d M1).map fun l => (grdOf d l, (match d with | .tup _ => true | _ => false), l)) M1⟩) ∧
  (∀ x0 (e : Env) (M : Sto) (r : Res D), qOf (P.lrng x0) e M r = @bI _ _ r ⟨fun d M1 => oR ((seqD d M1).map fun l => (grdOf d l, (match d with | .tup _ => true | _ => false), l)) M1⟩) ∧
  (∀ x0 (e : Env) (M : Sto) (r : Res D), qOf (P.trng x0) e M r = @bI _ _ r ⟨fun d M1 => oR ((seqD d M1).map fun l => (grdOf d l, (match d with | .tup _ => true | _ => false), l)) M1⟩) ∧
  (∀ x0 x1 (e : Env) (M : Sto) (r : Res D), qOf (P.ix x0 x1) e M r = @bI _ _ r ⟨fun d M1 => oR ((seqD d M1).map fun l => (grdOf d l, (match d with | .tup _ => true | _ => false), l)) M1⟩) ∧
  (∀ x0 x1 (e : Env) (M : Sto) (r : Res D), qOf (P.dget x0 x1) e M r = @bI _ _ r ⟨fun d M1 => oR ((seqD d M1).map fun l => (grdOf d l, (match d with | .tup _ => true | _ => false), l)) M1⟩) ∧
  (∀ x0 x1 (e : Env) (M : Sto) (r : Res D), qOf (P.slf x0 x1) e M r = @bI _ _ r ⟨fun d M1 => oR ((seqD d M1).map fun l => (grdOf d l, (match d with | .tup _ => true | _ => false), l)) M1⟩) ∧
  (∀ x0 x1 (e : Env) (M : Sto) (r : Res D), qOf (P.slt x0 x1) e M r = @bI _ _ r ⟨fun d M1 => oR ((seqD d M1).map fun l => (grdOf d l, (match d with | .tup _ => true | _ => false), l)) M1⟩) ∧
  (∀ x0 (e : Env) (M : Sto) (r : Res D), qOf (P.rev x0) e M r = @bI _ _ r ⟨fun d M1 => oR ((seqD d M1).map fun l => (grdOf d l, (match d with | .tup _ => true | _ => false), l)) M1⟩) ∧
  (∀ x0 (e : Env) (M : Sto) (r : Res D), qOf (P.tup x0) e M r = @bI _ _ r ⟨fun d M1 => oR ((seqD d M1).map fun l => (grdOf d l, (match d with | .tup _ => true | _ => false), l)) M1⟩) ∧
  (∀ x0 (e : Env) (M : Sto) (r : Res D), qOf (P.lst x0) e M r = @bI _ _ r ⟨fun d M1 => oR ((seqD d M1).map fun l => (grdOf d l, (match d with | .tup _ => true | _ => false), l)) M1⟩) ∧
  (∀ x0 x1 x2 x3 (e : Env) (M : Sto) (r : Res D), qOf (P.comp x0 x1 x2 x3) e M r = @bI _ _ r ⟨fun d M1 => oR ((seqD d M1).map fun l => (grdOf d l, (match d with | .tup _ => true | _ => false), l)) M1⟩) ∧
  (∀ x0 x1 x2 x3 x4 (e : Env) (M : Sto) (r : Res D), qOf (P.comp2 x0 x1 x2 x3 x4) e M r = @bI _ _ r ⟨fun d M1 => oR ((seqD d M1).map fun l => (grdOf d l, (match d with | .tup _ => true | _ => false), l)) M1⟩) ∧
  (∀ x0 x1 (e : Env) (M : Sto) (r : Res D), qOf (P.split x0 x1) e M r = @bI _ _ r ⟨fun d M1 => oR ((seqD d M1).map fun l => (grdOf d l, (match d with | .tup _ => true | _ => false), l)) M1⟩) ∧
  (∀ x0 x1 (e : Env) (M : Sto) (r : Res D), qOf (P.part x0 x1) e M r = @bI _ _ r ⟨fun d M1 => oR ((seqD d M1).map fun l => (grdOf d l, (match d with | .tup _ => true | _ => false), l)) M1⟩) ∧
  (∀ x0 x1 x2 (e : Env) (M : Sto) (r : Res D), qOf (P.bin x0 x1 x2) e M r = @bI _ _ r ⟨fun d M1 => oR ((seqD d M1).map fun l => (grdOf d l, (match d with | .tup _ => true | _ => false), l)) M1⟩) ∧
  (∀ x0 (e : Env) (M : Sto) (r : Res D), qOf (P.newc x0) e M r = @bI _ _ r ⟨fun d M1 => oR ((seqD d M1).map fun l => (grdOf d l, (match d with | .tup _ => true | _ => false), l)) M1⟩) ∧
  (∀ x0 (e : Env) (M : Sto) (r : Res D), qOf (P.cst x0) e M r = @bI _ _ r ⟨fun d M1 => oR ((seqD d M1).map fun l => (grdOf d l, (match d with | .tup _ => true | _ => false), l)) M1⟩) := by
  refine ⟨?_, ?_, ?_, ?_, ?_, ?_, ?_, ?_, ?_, ?_, ?_, ?_, ?_, ?_, ?_, ?_, ?_, ?_, ?_, ?_, ?_, ?_, ?_, ?_, ?_, ?_, ?_, ?_⟩ <;> intros <;> rfl
theorem op_val : (∀ x0 (e : Env) (M : Sto) (r : Res D), opOf (P.nm x0) e M r = @bI _ _ r ⟨fun d M1 => .ok (false, d) M1⟩) ∧
  (∀ x0 (e : Env) (M : Sto) (r : Res D), opOf (P.glo x0) e M r = @bI _ _ r ⟨fun d M1 => .ok (false, d) M1⟩) ∧
  (∀ x0 x1 (e : Env) (M : Sto) (r : Res D), opOf (P.cat x0 x1) e M r = @bI _ _ r ⟨fun d M1 => .ok (false, d) M1⟩) ∧
  (∀ x0 x1 x2 (e : Env) (M : Sto) (r : Res D), opOf (P.ite x0 x1 x2) e M r = @bI _ _ r ⟨fun d M1 => .ok (false, d) M1⟩) ∧
  (∀ x0 x1 (e : Env) (M : Sto) (r : Res D), opOf (P.call x0 x1) e M r = @bI _ _ r ⟨fun d M1 => .ok (false, d) M1⟩) ∧
  (∀ x0 x1 (e : Env) (M : Sto) (r : Res D), opOf (P.callk x0 x1) e M r = @bI _ _ r ⟨fun d M1 => .ok (false, d) M1⟩) ∧
  (∀ x0 x1 x2 x3 (e : Env) (M : Sto) (r : Res D), opOf (P.meth x0 x1 x2 x3) e M r = @bI _ _ r ⟨fun d M1 => .ok (false, d) M1⟩) ∧
  (∀ x0 x1 x2 (e : Env) (M : Sto) (r : Res D), opOf (P.prop x0 x1 x2) e M r = @bI _ _ r ⟨fun d M1 => .ok (false, d) M1⟩) ∧
  (∀ x0 x1 x2 (e : Env) (M : Sto) (r : Res D), opOf (P.att x0 x1 x2) e M r = @bI _ _ r ⟨fun d M1 => .ok (false, d) M1⟩) ∧
  (∀ x0 (e : Env) (M : Sto) (r : Res D), opOf (P.tupl x0) e M r = @bI _ _ r ⟨fun d M1 => .ok (false, d) M1⟩) ∧
  (∀ x0 (e : Env) (M : Sto) (r : Res D), opOf (P.list x0) e M r = @bI _ _ r ⟨fun d M1 => .ok (false, d) M1⟩) ∧
  (∀ x0 (e : Env) (M : Sto) (r : Res D), opOf (P.srt x0) e M r = @bI _ _ r ⟨fun d M1 => .ok (false, d) M1⟩) ∧
  (∀ x0 (e : Env) (M : Sto) (r : Res D), opOf (P.lrng x0) e M r = @bI _ _ r ⟨fun d M1 => .ok (false, d) M1⟩) ∧
  (∀ x0 (e : Env) (M : Sto) (r : Res D), opOf (P.trng x0) e M r = @bI _ _ r ⟨fun d M1 => .ok (false, d) M1⟩) ∧
  (∀ x0 x1 (e : Env) (M : Sto) (r : Res D), opOf (P.ix x0 x1) e M r = @bI _ _ r ⟨fun d M1 => .ok (false, d) M1⟩) ∧
  (∀ x0 x1 (e : Env) (M : Sto) (r : Res D), opOf (P.dget x0 x1) e M r = @bI _ _ r ⟨fun d M1 => .ok (false, d) M1⟩) ∧
  (∀ x0 x1 (e : Env) (M : Sto) (r : Res D), opOf (P.slf x0 x1) e M r = @bI _ _ r ⟨fun d M1 => .ok (false, d) M1⟩) ∧
  (∀ x0 x1 (e : Env) (M : Sto) (r : Res D), opOf (P.slt x0 x1) e M r = @bI _ _ r ⟨fun d M1 => .ok (false, d) M1⟩) ∧
  (∀ x0 (e : Env) (M : Sto) (r : Res D), opOf (P.rev x0) e M r = @bI _ _ r ⟨fun d M1 => .ok (false, d) M1⟩) ∧
  (∀ x0 (e : Env) (M : Sto) (r : Res D), opOf (P.tup x0) e M r = @bI _ _ r ⟨fun d M1 => .ok (false, d) M1⟩) ∧
  (∀ x0 (e : Env) (M : Sto) (r : Res D), opOf (P.lst x0) e M r = @bI _ _ r ⟨fun d M1 => .ok (false, d) M1⟩) ∧
  (∀ x0 x1 x2 x3 (e : Env) (M : Sto) (r : Res D), opOf (P.comp x0 x1 x2 x3) e M r = @bI _ _ r ⟨fun d M1 => .ok (false, d) M1⟩) ∧
  (∀ x0 x1 x2 x3 x4 (e : Env) (M : Sto) (r : Res D), opOf (P.comp2 x0 x1 x2 x3 x4) e M r = @bI _ _ r ⟨fun d M1 => .ok (false, d) M1⟩) ∧
  (∀ x0 x1 (e : Env) (M : Sto) (r : Res D), opOf (P.split x0 x1) e M r = @bI _ _ r ⟨fun d M1 => .ok (false, d) M1⟩) ∧
  (∀ x0 x1 (e : Env) (M : Sto) (r : Res D), opOf (P.part x0 x1) e M r = @bI _ _ r ⟨fun d M1 => .ok (false, d) M1⟩) ∧
  (∀ x0 x1 x2 (e : Env) (M : Sto) (r : Res D), opOf (P.bin x0 x1 x2) e M r = @bI _ _ r ⟨fun d M1 => .ok (false, d) M1⟩) ∧
  (∀ x0 (e : Env) (M : Sto) (r : Res D), opOf (P.newc x0) e M r = @bI _ _ r ⟨fun d M1 => .ok (false, d) M1⟩) ∧
  (∀ x0 (e : Env) (M : Sto) (r : Res D), opOf (P.cst x0) e M r = @bI _ _ r ⟨fun d M1 => .ok (false, d) M1⟩) := by
  refine ⟨?_, ?_, ?_, ?_, ?_, ?_, ?_, ?_, ?_, ?_, ?_, ?_, ?_, ?_, ?_, ?_, ?_, ?_, ?_, ?_, ?_, ?_, ?_, ?_, ?_, ?_, ?_, ?_⟩ <;> intros <;> rfl
theorem qq_bor {i : Nat} {e : Env} {M : Sto} {r : Res D} : qOf (.bor i) e M r = match e[i]? with | some (.own l) => .ok ([], false, l) M | _ => .stuck := Eq.trans rfl rfl
theorem op_bor {i : Nat} {e : Env} {M : Sto} {r : Res D} : opOf (.bor i) e M r = match e[i]? with | some (.own l) => .ok (true, .lst l) M | _ => .stuck := Eq.trans rfl rfl
theorem S_all (T : Tb) (C : CallT) : (∀ t x e M, st T C (.asg t x) e M = @oI _ e (ev T C x e M) ⟨fun d M1 => match bindT t d e with | some e' => .next e' M1 | none => .stuck⟩) ∧
  (∀ i x e M, st T C (.own i x) e M = if x.fresh then @oI _ e (ev T C x e M) ⟨fun d M1 => match d with
      | .lst l => if i < e.length then .next (List.set e i (.own l)) M1 else .stuck
      | _ => .stuck⟩ else .stuck) ∧
  (∀ i e M, st T C (.frz i) e M = match e[i]? with | some (.own l) => .next (List.set e i (.val (.lst l))) M | _ => .stuck) ∧
  (∀ i x e M, st T C (.app i x) e M = match e[i]? with
    | some (.own l) => @oI _ e (ev T C x e M) ⟨fun d M1 => if l.length < lim then .next (List.set e i (.own (l ++ [d]))) M1 else .stuck⟩
    | _ => .stuck) ∧
  (∀ i x e M, st T C (.ext i x) e M = match e[i]? with
    | some (.own l) => @oI _ e (ev T C x e M) ⟨fun d M1 => match d with
      | .lst r => if l.length + r.length ≤ lim then .next (List.set e i (.own (l ++ r))) M1 else .stuck
      | _ => .stuck⟩
    | _ => .stuck) ∧
  (∀ i k e M, st T C (.pop i k) e M = match e[i]? with
    | some (.own l) => @oI _ e (ev T C k e M) ⟨fun j M1 => match j with
      | .int n => (match L2.ixN l.length n with | some p => if l.length ≤ lim then .next (List.set e i (.own (l.eraseIdx p))) M1 else .stuck | none => .stuck)
      | _ => .stuck⟩
    | _ => .stuck) ∧
  (∀ i k x e M, st T C (.seti i k x) e M = match e[i]? with
    | some (.own l) => @oI _ e (ev T C x e M) ⟨fun d M1 => @oI _ e (ev T C k e M1) ⟨fun j M2 => match j with
      | .int n => (match L2.ixN l.length n with | some p => .next (List.set e i (.own (l.set p d))) M2 | none => .stuck)
      | _ => .stuck⟩⟩
    | _ => .stuck) ∧
  (∀ o k x e M, st T C (.cset o k x) e M = @oI _ e (ev T C x e M) ⟨fun d M1 => @oI _ e (ev T C o e M1) ⟨fun c M2 => @oI _ e (ev T C k e M2) ⟨fun j M3 => match csetD c j d M3 with
    | some M4 => .next e M4
    | none => .stuck⟩⟩⟩) ∧
  (∀ o f x e M, st T C (.setf o f x) e M = @oI _ e (ev T C x e M) ⟨fun d M1 => @oI _ e (ev T C o e M1) ⟨fun c M2 => match c with
    | .cel r => (match M2[r]? with
      | some (.obj k fs) => if fs.length < 100 ∧ (T.init k).isSome = true ∧ f ∈ T.flds k then .next e (setC M2 r (.obj k (putF f d fs))) else .stuck
      | _ => .stuck)
    | _ => .stuck⟩⟩) ∧
  (∀ x e M, st T C (.exp x) e M = @oI _ e (ev T C x e M) ⟨fun _ M1 => .next e M1⟩) ∧
  (∀ c a b e M, st T C (.ife c a b) e M = @oI _ e (ev T C c e M) ⟨fun d M1 => match d with
    | .bl true => blk T C a e M1
    | .bl false => blk T C b e M1
    | _ => .stuck⟩) ∧
  (∀ t s b e M, st T C (.for_ t s b) e M = if s.noBor then @oI _ e (evS T C s e M) ⟨fun gl M1 => forGo t gl.1 (bF T C b) gl.2 e M1⟩ else .stuck) ∧
  (∀ x e M, st T C (.ret x) e M = @oI _ e (ev T C x e M) ⟨fun d M1 => .ret d M1⟩) ∧
  (∀ e M, st T C .brk e M = .brk e M) ∧ (∀ e M, st T C .cnt e M = .cnt e M) ∧ (∀ e M, st T C .pass e M = .next e M) ∧
  (∀ c x e M, st T C (.rai c x) e M = @oI _ e (ev T C x e M) ⟨fun d M1 => .exc c d e M1⟩) := by
  refine ⟨?_, ?_, ?_, ?_, ?_, ?_, ?_, ?_, ?_, ?_, ?_, ?_, ?_, ?_, ?_, ?_, ?_⟩ <;> intros <;> rfl
theorem blk_nil (T : Tb) (C : CallT) (e : Env) (M : Sto) : blk T C [] e M = .next e M := Eq.trans rfl rfl
theorem blk_cons (T : Tb) (C : CallT) (s : S) (r : List S) (e : Env) (M : Sto) : blk T C (s :: r) e M = @fI (st T C s e M) ⟨fun o => match o with | .next e1 M1 => blk T C r e1 M1 | o => o⟩ := Eq.trans rfl rfl
theorem fI_next {e : Env} {M : Sto} {f : Out → Out} : @fI (.next e M) ⟨f⟩ = f (.next e M) := Eq.trans rfl rfl
theorem fI_ret {d : D} {M : Sto} {f : Out → Out} : @fI (.ret d M) ⟨f⟩ = f (.ret d M) := Eq.trans rfl rfl
theorem fI_brk {e : Env} {M : Sto} {f : Out → Out} : @fI (.brk e M) ⟨f⟩ = f (.brk e M) := Eq.trans rfl rfl
theorem fI_cnt {e : Env} {M : Sto} {f : Out → Out} : @fI (.cnt e M) ⟨f⟩ = f (.cnt e M) := Eq.trans rfl rfl
theorem fI_exc {c : Nat} {v : D} {e : Env} {M : Sto} {f : Out → Out} : @fI (.exc c v e M) ⟨f⟩ = f (.exc c v e M) := Eq.trans rfl rfl
theorem noExc_ok {α : Type} {a : α} {M : Sto} : noExc (.ok a M) = .ok a M := Eq.trans rfl rfl
theorem fin_ret {d : D} {M : Sto} : fin (.ret d M) = .ok d M := Eq.trans rfl rfl
theorem fin_next {e : Env} {M : Sto} : fin (.next e M) = .ok .non M := Eq.trans rfl rfl
theorem fin_exc {c : Nat} {v : D} {e : Env} {M : Sto} : fin (.exc c v e M) = .exc c v M := Eq.trans rfl rfl
/-! operators -/
theorem b_add (a b : Int) : binD .add (.int a) (.int b) = some (.int (a + b)) := Eq.trans rfl rfl
theorem b_sub (a b : Int) : binD .sub (.int a) (.int b) = some (.int (a - b)) := Eq.trans rfl rfl
theorem b_mul {a b : Int} (h : mulOk a b = true) : binD .mul (.int a) (.int b) = some (.int (a * b)) := by simp [binD, h]
theorem b_mod {a b : Int} (h : b ≠ 0) : binD .mod (.int a) (.int b) = some (.int (a.fmod b)) := by simp [binD, h]
theorem b_fdv {a b : Int} (h : divOk a b = true) : binD .fdv (.int a) (.int b) = some (.int (a.fdiv b)) := by simp [binD, h]
theorem mul_small {a b : Int} (h : b.natAbs < 2 ^ 64) : mulOk a b = true := by simp [mulOk, h]
theorem c_lt (T : Tb) (C : CallT) (a b : Int) (M : Sto) : cmpD T C .lt (.int a) (.int b) M = .ok (.bl (decide (a < b))) M := Eq.trans rfl rfl
theorem c_le (T : Tb) (C : CallT) (a b : Int) (M : Sto) : cmpD T C .le (.int a) (.int b) M = .ok (.bl (decide (a ≤ b))) M := Eq.trans rfl rfl
theorem c_gt (T : Tb) (C : CallT) (a b : Int) (M : Sto) : cmpD T C .gt (.int a) (.int b) M = .ok (.bl (decide (b < a))) M := Eq.trans rfl rfl
theorem c_ge (T : Tb) (C : CallT) (a b : Int) (M : Sto) : cmpD T C .ge (.int a) (.int b) M = .ok (.bl (decide (b ≤ a))) M := Eq.trans rfl rfl
theorem eqO_int (a b : Int) : eqO (.int a) (.int b) = some (decide (a = b)) := by
  simp [eqO, D.py, SeqAt.shaped, PyData.eqv, PyData.canLay0, PyData.depth]
  rw [Bool.eq_iff_iff]; simp
theorem c_eqi (T : Tb) (C : CallT) (a b : Int) (M : Sto) : cmpD T C .eq (.int a) (.int b) M = .ok (.bl (decide (a = b))) M := by
  simp [cmpD, eqO_int, oR]
theorem c_nei (T : Tb) (C : CallT) (a b : Int) (M : Sto) : cmpD T C .ne (.int a) (.int b) M = .ok (.bl (!decide (a = b))) M := by
  simp [cmpD, eqO_int, oR]
/-! loops -/
theorem forGo_post {t : Tgt} {g : Grd} {b : Env → Sto → Out} (Inv : List D → Env → Sto → Prop) (Post : Out → Prop)
    (hend : ∀ e M, Inv [] e M → g.ok M ∧ Post (.next e M))
    (hs : ∀ d ds e M, Inv (d :: ds) e M → g.ok M ∧ ∃ e', bindT t d e = some e' ∧ match b e' M with
      | .next e2 M2 => Inv ds e2 M2
      | .cnt e2 M2 => Inv ds e2 M2
      | .brk e2 M2 => Post (.next e2 M2)
      | .ret d M2 => Post (.ret d M2)
      | .exc c v e2 M2 => Post (.exc c v e2 M2)
      | .stuck => False) : ∀ (ds : List D) (e : Env) (M : Sto), Inv ds e M → Post (forGo t g b ds e M)
  | [], e, M, h => by
    have z := hend e M h
    simp only [forGo, if_pos z.1]; exact z.2
  | d :: ds, e, M, h => by
    obtain ⟨hg, e', h1, h2⟩ := hs d ds e M h
    simp only [forGo, if_pos hg, h1]
    cases q : b e' M with
    | next e2 M2 => rw [q] at h2; exact forGo_post Inv Post hend hs ds e2 M2 h2
    | cnt e2 M2 => rw [q] at h2; exact forGo_post Inv Post hend hs ds e2 M2 h2
    | brk e2 M2 => rw [q] at h2; exact h2
    | ret d M2 => rw [q] at h2; exact h2
    | exc c v e2 M2 => rw [q] at h2; exact h2
    | stuck => rw [q] at h2; exact h2.elim
/-- the stepping lemmas as one -/
theorem EVA : type_of% @E_val ∧ type_of% @E_op ∧ type_of% @E_call ∧ type_of% @E_blt ∧ type_of% @E_str ∧ type_of% @E_seq ∧ type_of% @E_args ∧ type_of% @E_cons ∧ type_of% @qq_val ∧ type_of% @op_val ∧ type_of% @qq_bor ∧ type_of% @op_bor ∧ type_of% @S_all ∧ type_of% @bF_app ∧ type_of% @blk_nil ∧ type_of% @blk_cons ∧ type_of% @fI_next ∧ type_of% @fI_ret ∧ type_of% @fI_brk ∧ type_of% @fI_cnt ∧ type_of% @fI_exc ∧ type_of% @bI_ok ∧ type_of% @bI_exc ∧ type_of% @oI_ok ∧ type_of% @oI_exc ∧ type_of% @oR_some ∧ type_of% @noExc_ok ∧ type_of% @fin_ret ∧ type_of% @fin_next ∧ type_of% @fin_exc ∧ type_of% @b_add ∧ type_of% @b_sub ∧ type_of% @b_mul ∧ type_of% @mul_small ∧ type_of% @c_lt ∧ type_of% @c_le ∧ type_of% @c_gt ∧ type_of% @c_ge ∧ type_of% @c_eqi ∧ type_of% @c_nei ∧ type_of% @okN :=
  ⟨@E_val, @E_op, @E_call, @E_blt, @E_str, @E_seq, @E_args, @E_cons, @qq_val, @op_val, @qq_bor, @op_bor, @S_all, @bF_app, @blk_nil, @blk_cons, @fI_next, @fI_ret, @fI_brk, @fI_cnt, @fI_exc, @bI_ok, @bI_exc, @oI_ok, @oI_exc, @oR_some, @noExc_ok, @fin_ret, @fin_next, @fin_exc, @b_add, @b_sub, @b_mul, @mul_small, @c_lt, @c_le, @c_gt, @c_ge, @c_eqi, @c_nei, @okN⟩
end Rb

/-! RbC0: contracts of the small defs that all laws share: numbers, draws. Own work. -/
noncomputable section
namespace Rb
open PySem
def d1 : FD := ⟨"_law_numbers", ["script"], ["script", "row", "cell", "left", "k", "mixed"], [
    .own 1 (.lst []),
    .for_ (.nm 2) (.seq (.slt (.nm 0) (.cst (.int 63)))) [.ife (.cmp .ge (.nm 2) (.bin .pow (.cst (.int 10)) (.cst (.int 18)))) [.asg (.nm 3) (.nm 2), .for_ (.nm 4) (.rg1 (.cst (.int 60))) [.ife (.cmp .eq (.nm 3) (.cst (.int 0))) [.brk] [], .app 1 (.bin .mod (.int_ (.nm 3)) (.cst (.int 997))), .asg (.nm 3) (.bin .fdv (.nm 3) (.cst (.int 997)))]] [.for_ (.nm 4) (.rg1 (.cst (.int 4))) [.asg (.nm 5) (.bin .mod (.int_ (.bin .add (.bin .add (.bin .mul (.nm 2) (.cst (.int 48271))) (.bin .mul (.nm 4) (.cst (.int 69621)))) (.cst (.int 11)))) (.cst (.int 2147483647))), .app 1 (.bin .mod (.int_ (.bin .add (.bin .mul (.nm 5) (.cst (.int 16807))) (.nm 4))) (.cst (.int 2147483629)))]]],
    .ife (.cmp .eq (.len (.bor 1)) (.cst (.int 0))) [.app 1 (.cst (.int 0))] [],
    .frz 1,
    .ret (.nm 1)], false⟩
def d2 : FD := ⟨"_law_draw", ["row", "at", "limit"], ["row", "at", "limit", "mixed"], [
    .ife (.cmp .lt (.nm 1) (.len (.nm 0))) [.ret (.bin .mod (.int_ (.ix (.nm 0) (.nm 1))) (.nm 2))] [],
    .asg (.nm 3) (.bin .mod (.int_ (.bin .add (.bin .add (.bin .mul (.ix (.nm 0) (.bin .mod (.int_ (.nm 1)) (.len (.nm 0)))) (.cst (.int 40692))) (.bin .mul (.nm 1) (.cst (.int 7919)))) (.cst (.int 3)))) (.cst (.int 2147483399))),
    .ret (.bin .mod (.int_ (.bin .mod (.int_ (.bin .add (.bin .mul (.nm 3) (.cst (.int 48271))) (.nm 1))) (.cst (.int 2147483647)))) (.nm 2))], false⟩
def d3 : FD := ⟨"_law_take", ["row", "spot", "limit"], ["row", "spot", "limit"], [
    .cset (.nm 1) (.cst (.int 0)) (.bin .add (.ix (.nm 1) (.cst (.int 0))) (.cst (.int 1))),
    .ret (.call 2 [.nm 0, .bin .sub (.ix (.nm 1) (.cst (.int 0))) (.cst (.int 1)), .nm 2])], false⟩
def d4 : FD := ⟨"_law_wide", ["row", "spot", "limit"], ["row", "spot", "limit", "first", "second", "third"], [
    .asg (.nm 3) (.call 3 [.nm 0, .nm 1, .cst (.int 997)]),
    .asg (.nm 4) (.call 3 [.nm 0, .nm 1, .cst (.int 997)]),
    .asg (.nm 5) (.call 3 [.nm 0, .nm 1, .cst (.int 997)]),
    .ret (.bin .mod (.int_ (.bin .add (.bin .add (.bin .mul (.nm 3) (.cst (.int 994009))) (.bin .mul (.nm 4) (.cst (.int 997)))) (.nm 5))) (.nm 2))], false⟩
abbrev rowD (row : List Int) : D := .lst (row.map .int)
/-- the spot cell first -/
def SP (k : Nat) (M : Sto) : Sto := Cell.lst [.int k] :: M
theorem ixN_in {n : Nat} {i : Int} (h0 : 0 ≤ i) (h1 : i < n) : L2.ixN n i = some i.toNat := by
  unfold L2.ixN; rw [if_pos h0, if_pos h1]
theorem atD_in {α : Type} {l : List α} {i : Int} (h0 : 0 ≤ i) (h1 : i < l.length) : ∃ h : i.toNat < l.length, atD l i = some l[i.toNat] := by
  refine ⟨by omega, ?_⟩
  show (L2.ixN l.length i).bind _ = _
  rw [ixN_in h0 h1]
  simp
theorem atD_row {row : List Int} {i : Int} (h0 : 0 ≤ i) (h1 : i < row.length) : ∃ z, atD (row.map D.int) i = some (.int z) := by
  obtain ⟨h, e⟩ := atD_in (l := row.map D.int) h0 (by simpa using h1)
  exact ⟨row[i.toNat]'(by simpa using h), by rw [e]; simp⟩
theorem fmod_in (a : Int) {b : Int} (h : 0 < b) : 0 ≤ a.fmod b ∧ a.fmod b < b := ⟨Int.fmod_nonneg_of_pos a h, Int.fmod_lt_of_pos a h⟩
theorem div_small (a : Int) {b : Int} (h0 : b ≠ 0) (h : b.natAbs < 1073741824) : divOk a b = true := by
  unfold divOk
  rw [PyProof.noPylong_small h]
  simp [h0]
theorem draw_run {T : Tb} (h2 : T.fn 2 = some d2) {row : List Int} (hr : row ≠ []) (k : Nat) {L : Int} (hL : 0 < L) (n : Nat) (M : Sto) :
    ∃ r : Int, 0 ≤ r ∧ r < L ∧ run T (n + 1) 2 [rowD row, .int k, .int L] M = .ok (.int r) M := by
  have hlen : 0 < row.length := List.length_pos_iff.mpr hr
  have hL0 : L ≠ 0 := by omega
  rw [run_eq h2 rfl]
  by_cases hk : (k : Int) < row.length
  · obtain ⟨z, hz⟩ := atD_row (row := row) (i := k) (by omega) hk
    refine ⟨z.fmod L, (fmod_in z hL).1, (fmod_in z hL).2, ?_⟩
    simp [EVA, P.isBor, Src.noBor, P.fresh, bindT, Env.set, lenD, seqD, ixD, grdOf, d2, hk, hz, b_mod hL0]
  · have hm := fmod_in (k : Int) (b := (row.length : Int)) (by omega)
    obtain ⟨z, hz⟩ := atD_row (row := row) (i := (k : Int).fmod row.length) hm.1 hm.2
    refine ⟨(((((z * 40692 + (k : Int) * 7919) + 3).fmod 2147483399) * 48271 + k).fmod 2147483647).fmod L, (fmod_in _ hL).1, (fmod_in _ hL).2, ?_⟩
    have hlen' : (row.length : Int) ≠ 0 := by omega
    simp [EVA, P.isBor, Src.noBor, P.fresh, bindT, Env.set, lenD, seqD, ixD, grdOf, d2, hk, hz, b_mod hL0, b_mod hlen', b_mod]
theorem take_run {T : Tb} (h2 : T.fn 2 = some d2) (h3 : T.fn 3 = some d3) {row : List Int} (hr : row ≠ []) (k : Nat) {L : Int} (hL : 0 < L) (n : Nat) (M : Sto) :
    ∃ r : Int, 0 ≤ r ∧ r < L ∧ run T (n + 2) 3 [rowD row, .cel 0, .int L] (SP k M) = .ok (.int r) (SP (k + 1) M) := by
  obtain ⟨r, r0, r1, e⟩ := draw_run h2 hr k hL n (SP (k + 1) M)
  refine ⟨r, r0, r1, ?_⟩
  rw [run_eq h3 rfl]
  have hz : ∀ x : D, atD [x] (0 : Int) = some x := fun x => rfl
  have hs : ((k : Int) + 1 - 1) = k := by omega
  have e' : run T (n + 1) 2 [rowD row, D.int k, D.int L] (Cell.lst [D.int ((k : Int) + 1)] :: M) = .ok (.int r) (SP (k + 1) M) := by
    have q : (Cell.lst [D.int ((k : Int) + 1)] :: M) = SP (k + 1) M := by simp [SP]
    rw [q]; exact e
  unfold SP
  simp [EVA, P.isBor, Src.noBor, P.fresh, bindT, Env.set, lenD, seqD, ixD, grdOf, d3, hz, csetD, setC, L2.ixN, hs, e']
  simp [SP]
theorem wide_run {T : Tb} (h2 : T.fn 2 = some d2) (h3 : T.fn 3 = some d3) (h4 : T.fn 4 = some d4) {row : List Int} (hr : row ≠ []) (k : Nat) {L : Int} (hL : 0 < L) (n : Nat) (M : Sto) :
    ∃ r : Int, 0 ≤ r ∧ r < L ∧ run T (n + 3) 4 [rowD row, .cel 0, .int L] (SP k M) = .ok (.int r) (SP (k + 3) M) := by
  obtain ⟨a, _, _, ea⟩ := take_run h2 h3 hr k (L := 997) (by decide) n M
  obtain ⟨b, _, _, eb⟩ := take_run h2 h3 hr (k + 1) (L := 997) (by decide) n M
  obtain ⟨c, _, _, ec⟩ := take_run h2 h3 hr (k + 2) (L := 997) (by decide) n M
  refine ⟨((a * 994009 + b * 997) + c).fmod L, (fmod_in _ hL).1, (fmod_in _ hL).2, ?_⟩
  have hL0 : L ≠ 0 := by omega
  rw [run_eq h4 rfl]
  simp [EVA, P.isBor, Src.noBor, P.fresh, bindT, Env.set, lenD, seqD, ixD, grdOf, d4, b_mod hL0, ea, eb, ec]
theorem cut_sub {α : Type} (l : List α) (lo hi : Option Int) : (cutD l lo hi).Sublist l := (List.take_sublist _ _).trans (List.drop_sublist _ _)
/-- the row's name: its own list, no longer than so many -/
def NumI (ns : List Int) (m : Nat) (e : Env) (M0 M : Sto) : Prop := M = M0 ∧ ∃ (row : List Int) (a b c d : Slot), e = [.val (.ro (ns.map .int)), .own (row.map .int), a, b, c, d] ∧ row.length ≤ m
theorem num_big {T : Tb} {C : CallT} {ns : List Int} {M : Sto} {z : Int} {c d : Slot} {m : Nat} {b : Env → Sto → Out}
    (hb : b = bF T C [.ife (.cmp .eq (.nm 3) (.cst (.int 0))) [.brk] [], .app 1 (.bin .mod (.int_ (.nm 3)) (.cst (.int 997))), .asg (.nm 3) (.bin .fdv (.nm 3) (.cst (.int 997)))])
    {row : List Int} {l : Int} (hrow : row.length ≤ m) (hm : m + 60 ≤ 1000000) :
    ∃ e2, forGo (.nm 4) [] b (rngL 0 60) [.val (.ro (ns.map .int)), .own (row.map .int), .val (.int z), .val (.int l), c, d] M = .next e2 M ∧ NumI ns (m + 60) e2 M M := by
  subst hb
  refine forGo_post (fun ds e M' => ds.length ≤ 60 ∧ M' = M ∧ ∃ (row : List Int) (l : Int) (c d : Slot), e = [.val (.ro (ns.map .int)), .own (row.map .int), .val (.int z), .val (.int l), c, d] ∧ row.length ≤ m + (60 - ds.length))
    (fun o => ∃ e2, o = .next e2 M ∧ NumI ns (m + 60) e2 M M) ?_ ?_ _ _ _ ⟨by simp [rngL], rfl, row, l, c, d, rfl, by simpa [rngL] using hrow⟩
  · intro e M' ⟨_, hM, row, l, c, d, he, h⟩
    subst hM
    exact ⟨okN _, e, rfl, rfl, row, _, _, _, _, he, by simpa using h⟩
  · intro x ds e M' ⟨hd, hM, row, l, c, d, he, h⟩
    subst hM he
    refine ⟨okN _, _, by simp [bindT, Env.set]; rfl, ?_⟩
    simp only [List.length_cons] at h hd
    by_cases h0 : l = 0
    · simp [EVA, P.isBor, Src.noBor, P.fresh, bindT, Env.set, lenD, seqD, ixD, grdOf, h0]
      exact ⟨rfl, row, _, _, _, _, rfl, by omega⟩
    · have hlim : row.length < lim := by unfold lim; omega
      simp [EVA, P.isBor, Src.noBor, P.fresh, bindT, Env.set, lenD, seqD, ixD, grdOf, h0, b_mod, b_fdv, div_small, hlim]
      exact ⟨by omega, row ++ [l.fmod 997], by simp, by simp; omega⟩
theorem num_small {T : Tb} {C : CallT} {ns : List Int} {M : Sto} {z : Int} {a c d : Slot} {m : Nat} {b : Env → Sto → Out}
    (hb : b = bF T C [.asg (.nm 5) (.bin .mod (.int_ (.bin .add (.bin .add (.bin .mul (.nm 2) (.cst (.int 48271))) (.bin .mul (.nm 4) (.cst (.int 69621)))) (.cst (.int 11)))) (.cst (.int 2147483647))), .app 1 (.bin .mod (.int_ (.bin .add (.bin .mul (.nm 5) (.cst (.int 16807))) (.nm 4))) (.cst (.int 2147483629)))])
    {row : List Int} (hrow : row.length ≤ m) (hm : m + 60 ≤ 1000000) :
    ∃ e2, forGo (.nm 4) [] b (rngL 0 4) [.val (.ro (ns.map .int)), .own (row.map .int), .val (.int z), a, c, d] M = .next e2 M ∧ NumI ns (m + 60) e2 M M := by
  subst hb
  refine forGo_post (fun ds e M' => ds.length ≤ 4 ∧ (∃ ks : List Int, ds = ks.map .int) ∧ M' = M ∧ ∃ (row : List Int) (a c d : Slot), e = [.val (.ro (ns.map .int)), .own (row.map .int), .val (.int z), a, c, d] ∧ row.length ≤ m + (4 - ds.length))
    (fun o => ∃ e2, o = .next e2 M ∧ NumI ns (m + 60) e2 M M) ?_ ?_ _ _ _ ⟨by simp [rngL], ⟨[0, 1, 2, 3], rfl⟩, rfl, row, a, c, d, rfl, by simpa [rngL] using hrow⟩
  · intro e M' ⟨_, _, hM, row, a, c, d, he, h⟩
    subst hM
    exact ⟨okN _, e, rfl, rfl, row, _, _, _, _, he, by simp at h; omega⟩
  · intro x ds e M' ⟨hd, ⟨ks, hk⟩, hM, row, a, c, d, he, h⟩
    subst hM he
    match ks, hk with
    | k :: ks, hk =>
      cases hk
      refine ⟨okN _, _, by simp [bindT, Env.set]; rfl, ?_⟩
      simp only [List.length_cons, List.length_map] at h hd
      have hlim : row.length < lim := by unfold lim; omega
      simp [EVA, P.isBor, Src.noBor, P.fresh, bindT, Env.set, lenD, seqD, ixD, grdOf, b_mod, hlim]
      exact ⟨by omega, ⟨ks, rfl⟩, row ++ [((((z * 48271 + k * 69621 + 11).fmod 2147483647) * 16807 + k).fmod 2147483629)], by simp, by simp; omega⟩
theorem numbers_run {T : Tb} (h1 : T.fn 1 = some d1) (ns : List Int) (hl : ns.length ≤ 63) (n : Nat) (M : Sto) :
    ∃ row : List Int, row ≠ [] ∧ run T (n + 1) 1 [.ro (ns.map .int)] M = .ok (rowD row) M := by
  rw [run_eq h1 rfl]
  have hcut : ∃ ms : List Int, cutD (ns.map D.int) none (some 63) = ms.map .int ∧ ms.length ≤ 63 := by
    obtain ⟨ms, hm, e⟩ := List.sublist_map_iff.mp (cut_sub (ns.map D.int) none (some 63))
    exact ⟨ms, e, Nat.le_trans hm.length_le hl⟩
  obtain ⟨ms, hc, hms⟩ := hcut
  have loop : ∀ (b : Env → Sto → Out) (_ : b = bF T (run T n) [.ife (.cmp .ge (.nm 2) (.bin .pow (.cst (.int 10)) (.cst (.int 18)))) [.asg (.nm 3) (.nm 2), .for_ (.nm 4) (.rg1 (.cst (.int 60))) [.ife (.cmp .eq (.nm 3) (.cst (.int 0))) [.brk] [], .app 1 (.bin .mod (.int_ (.nm 3)) (.cst (.int 997))), .asg (.nm 3) (.bin .fdv (.nm 3) (.cst (.int 997)))]] [.for_ (.nm 4) (.rg1 (.cst (.int 4))) [.asg (.nm 5) (.bin .mod (.int_ (.bin .add (.bin .add (.bin .mul (.nm 2) (.cst (.int 48271))) (.bin .mul (.nm 4) (.cst (.int 69621)))) (.cst (.int 11)))) (.cst (.int 2147483647))), .app 1 (.bin .mod (.int_ (.bin .add (.bin .mul (.nm 5) (.cst (.int 16807))) (.nm 4))) (.cst (.int 2147483629)))]]])
      (a b' c d : Slot), ∃ e2, forGo (.nm 2) [] b (ms.map D.int) [.val (.ro (ns.map .int)), .own [], a, b', c, d] M = .next e2 M ∧ NumI ns (63 * 60) e2 M M := by
    intro b hb a b' c d
    subst hb
    refine forGo_post (fun ds e M' => (∃ zs : List Int, ds = zs.map .int ∧ zs.length ≤ 63) ∧ NumI ns (60 * (63 - ds.length)) e M M') (fun o => ∃ e2, o = .next e2 M ∧ NumI ns (63 * 60) e2 M M) ?_ ?_ (ms.map D.int) [.val (.ro (ns.map .int)), .own [], a, b', c, d] M ⟨⟨ms, rfl, hms⟩, rfl, [], a, b', c, d, rfl, by simp⟩
    · intro e M' ⟨_, h⟩
      obtain ⟨hM, h⟩ := h
      subst hM
      exact ⟨okN _, e, rfl, rfl, by simpa using h⟩
    · intro x ds e M' ⟨⟨zs, hz, hzl⟩, hM, row, sa, sb, sc, sd, he, hrow⟩
      subst hM he
      match zs, hz with
      | z :: zs, hz =>
        cases hz
        refine ⟨okN _, _, by simp [bindT, Env.set]; rfl, ?_⟩
        simp only [List.length_cons, List.length_map] at hrow hzl
        have h60 : 60 * (63 - (zs.length + 1)) + 60 ≤ 1000000 := by omega
        by_cases hbig : (1000000000000000000 : Int) ≤ z
        · obtain ⟨e2, h2, i2⟩ := num_big (T := T) (C := run T n) (ns := ns) (M := M') (z := z) (c := sc) (d := sd) rfl (l := z) hrow h60
          simp [EVA, P.isBor, Src.noBor, P.fresh, bindT, Env.set, lenD, seqD, ixD, grdOf, small, binD, hbig, h2]
          obtain ⟨_, row', p, q, r, s, he, hle⟩ := i2
          exact ⟨⟨zs, rfl, by omega⟩, rfl, row', p, q, r, s, he, by (try simp only [List.length_map]); omega⟩
        · obtain ⟨e2, h2, i2⟩ := num_small (T := T) (C := run T n) (ns := ns) (M := M') (z := z) (a := sb) (c := sc) (d := sd) rfl hrow h60
          simp [EVA, P.isBor, Src.noBor, P.fresh, bindT, Env.set, lenD, seqD, ixD, grdOf, small, binD, hbig, h2]
          obtain ⟨_, row', p, q, r, s, he, hle⟩ := i2
          exact ⟨⟨zs, rfl, by omega⟩, rfl, row', p, q, r, s, he, by (try simp only [List.length_map]); omega⟩
  obtain ⟨e2, h2, _, row, a, b, c, d, he, hle⟩ := loop _ rfl .un .un .un .un
  subst he
  by_cases h0 : row = []
  · subst h0
    refine ⟨[0], by simp, ?_⟩
    simp [EVA, P.isBor, Src.noBor, P.fresh, bindT, Env.set, lenD, seqD, ixD, grdOf, d1, slD, hc, h2, lim]
  · have hlen : row.length ≠ 0 := fun h => h0 (List.length_eq_zero_iff.mp h)
    refine ⟨row, h0, ?_⟩
    simp [EVA, P.isBor, Src.noBor, P.fresh, bindT, Env.set, lenD, seqD, ixD, grdOf, d1, slD, hc, h2, h0]
end Rb

/-! RbC1: contracts: equal plain values, what a race is made of. Own work. -/
noncomputable section
namespace Rb
open PySem
def d0 : FD := ⟨"_law_so", ["found", "meant"], ["found", "meant", "k"], [
    .ife (.isn false (.nm 1)) [.ret (.isn false (.nm 0))] [],
    .ife (.isi (.nm 1) [.tuple]) [.ife (.or_ (.not_ (.isi (.nm 0) [.tuple])) (.cmp .ne (.len (.nm 0)) (.len (.nm 1)))) [.ret (.cst (.bl false))] [], .for_ (.nm 2) (.rg1 (.len (.nm 1))) [.ife (.not_ (.call 0 [.ix (.nm 0) (.nm 2), .ix (.nm 1) (.nm 2)])) [.ret (.cst (.bl false))] []], .ret (.cst (.bl true))] [],
    .ife (.or_ (.isi (.nm 1) [.bool]) (.isi (.nm 0) [.bool])) [.ret (.and_ (.isi (.nm 1) [.bool]) (.and_ (.isi (.nm 0) [.bool]) (.cmp .eq (.nm 0) (.nm 1))))] [],
    .ife (.isi (.nm 1) [.int]) [.ret (.and_ (.isi (.nm 0) [.int]) (.cmp .eq (.nm 0) (.nm 1)))] [],
    .ret (.and_ (.isi (.nm 1) [.str]) (.and_ (.isi (.nm 0) [.str]) (.cmp .eq (.nm 0) (.nm 1))))], false⟩
def d7 : FD := ⟨"is_integer", ["value"], ["value"], [
    .ret (.and_ (.isi (.nm 0) [.int]) (.not_ (.isi (.nm 0) [.bool])))], false⟩
def d8 : FD := ⟨"is_within", ["value", "low", "high"], ["value", "low", "high"], [
    .ret (.and_ (.call 7 [.nm 0]) (.chn .le .le (.nm 1) (.nm 0) (.nm 2)))], false⟩
def d9 : FD := ⟨"is_sequence", ["value"], ["value"], [
    .ret (.isi (.nm 0) [.list, .tuple])], false⟩
def d10 : FD := ⟨"ascending", ["value"], ["value", "at"], [
    .ret (.all (.comp (.cmp .lt (.ix (.nm 0) (.bin .sub (.nm 1) (.cst (.int 1)))) (.ix (.nm 0) (.nm 1))) (.nm 1) (.rg2 (.cst (.int 1)) (.len (.nm 0))) none))], false⟩
def d11 : FD := ⟨"are_runners", ["value", "runners"], ["value", "runners", "runner"], [
    .ret (.and_ (.call 9 [.nm 0]) (.all (.comp (.call 8 [.nm 2, .cst (.int 0), .bin .sub (.nm 1) (.cst (.int 1))]) (.nm 2) (.seq (.nm 0)) none)))], false⟩
def d12 : FD := ⟨"are_cuts", ["value", "runners"], ["value", "runners", "cut"], [
    .ife (.or_ (.not_ (.call 9 [.nm 0])) (.not_ (.all (.comp (.call 8 [.nm 2, .cst (.int 0), .glo 1]) (.nm 2) (.seq (.nm 0)) none)))) [.ret (.cst (.bl false))] [],
    .ret (.or_ (.cmp .eq (.len (.nm 0)) (.cst (.int 0))) (.cmp .eq (.len (.nm 0)) (.nm 1)))], false⟩
def d15 : FD := ⟨"_law_made", ["race"], ["race"], [
    .ret (.new 5 [.ix (.nm 0) (.cst (.int 0)), .ix (.nm 0) (.cst (.int 1)), .ix (.nm 0) (.cst (.int 2)), .ix (.nm 0) (.cst (.int 3))])], false⟩
def d19 : FD := ⟨"__init__", ["self", "runners", "ties", "absent", "cuts"], ["self", "runners", "ties", "absent", "cuts"], [
    .ife (.not_ (.call 8 [.nm 1, .cst (.int 1), .glo 0])) [.rai 1 (.cst (.int 1))] [],
    .ife (.not_ (.isi (.nm 2) [.bool])) [.rai 1 (.cst (.int 2))] [],
    .ife (.or_ (.not_ (.call 11 [.nm 3, .nm 1])) (.not_ (.call 10 [.nm 3]))) [.rai 1 (.cst (.int 3))] [],
    .ife (.not_ (.call 12 [.nm 4, .nm 1])) [.rai 1 (.cst (.int 4))] [],
    .setf (.nm 0) "_runners" (.nm 1),
    .setf (.nm 0) "_ties" (.nm 2),
    .setf (.nm 0) "_absent" (.tupl (.nm 3)),
    .setf (.nm 0) "_cuts" (.ite (.cmp .gt (.len (.nm 4)) (.cst (.int 0))) (.tupl (.nm 4)) (.bin .mul (.tup [.cst (.int 0)]) (.nm 1)))], false⟩
/-- what the race's class says -/
structure RaceT (T : Tb) : Prop where
  h7 : T.fn 7 = some d7
  h8 : T.fn 8 = some d8
  h9 : T.fn 9 = some d9
  h10 : T.fn 10 = some d10
  h11 : T.fn 11 = some d11
  h12 : T.fn 12 = some d12
  h15 : T.fn 15 = some d15
  h19 : T.fn 19 = some d19
  g0 : T.glo 0 = some (.int 4)
  g1 : T.glo 1 = some (.int 90)
  i5 : T.init 5 = some 19
  f5 : T.flds 5 = [Str.ofString "_runners", Str.ofString "_ties", Str.ofString "_absent", Str.ofString "_cuts"]
  d5 : T.dfl 5 = [.non, .bl true, .tup [], .tup []]
end Rb

/-! RbC2: contracts: a drawn race, made. Own work. -/
noncomputable section
namespace Rb
open PySem
/-- the draws -/
structure DrawT (T : Tb) : Prop where
  h1 : T.fn 1 = some d1
  h2 : T.fn 2 = some d2
  h3 : T.fn 3 = some d3
theorem DrawT.take {T : Tb} (W : DrawT T) {row : List Int} (hr : row ≠ []) (k : Nat) {L : Int} (hL : 0 < L) (n : Nat) (M : Sto) :
    ∃ r : Int, 0 ≤ r ∧ r < L ∧ run T (n + 2) 3 [rowD row, .cel 0, .int L] (SP k M) = .ok (.int r) (SP (k + 1) M) := take_run W.h2 W.h3 hr k hL n M
def natsI (n : Nat) : List Int := (List.range n).map fun (i : Nat) => (i : Int)
/-- what a drawn race keeps -/
structure RaceOk (n : Nat) (ab cu : List Int) : Prop where
  h1 : 1 ≤ n
  h4 : n ≤ 4
  ab : ab.Sublist (natsI n)
  cc : ∀ c ∈ cu, 0 ≤ c ∧ c ≤ 90
  cl : cu.length = 0 ∨ cu.length = n
end Rb

/-! RbC3: contracts: a drawn bet. Own work. -/
noncomputable section
namespace Rb
open PySem
abbrev topD (k : Int) (l : List Int) : D := .tup [.str "top", .int k, .tup (l.map .int)]
abbrev wayD (l : List Int) : D := .tup [.str "row", .tup (l.map .int)]
/-- a drawn bet -/
inductive BetOk (n : Nat) : D → Prop
  | top {k : Int} {l : List Int} (k1 : 1 ≤ k) (k3 : k ≤ 3) (s : l.Sublist (natsI n)) (l1 : 1 ≤ l.length) (l2 : (l.length : Int) ≤ k) : BetOk n (topD k l)
  | way {l : List Int} (s : l.Nodup) (m : ∀ x ∈ l, x ∈ natsI n) (l1 : 1 ≤ l.length) (l2 : l.length ≤ 3) : BetOk n (wayD l)
end Rb

/-! RbC4: drawn races and bets in finite lists, for sweeps. Own work. -/
noncomputable section
namespace Rb
open PySem
theorem sp0 : [Cell.lst [D.int 0]] = SP 0 [] := rfl
theorem lims : 0 ≤ lim ∧ 1 ≤ lim ∧ 2 ≤ lim ∧ 3 ≤ lim ∧ 4 ≤ lim ∧ 5 ≤ lim ∧ 6 ≤ lim ∧ 7 ≤ lim ∧ 8 ≤ lim ∧ 9 ≤ lim ∧ 10 ≤ lim ∧ 11 ≤ lim ∧ 12 ≤ lim ∧ 13 ≤ lim ∧ 14 ≤ lim ∧ 15 ≤ lim ∧ 16 ≤ lim ∧ 17 ≤ lim ∧ 18 ≤ lim ∧ 19 ≤ lim ∧ 20 ≤ lim ∧ 21 ≤ lim ∧ 22 ≤ lim ∧ 23 ≤ lim ∧ 24 ≤ lim ∧ 25 ≤ lim ∧ 26 ≤ lim ∧ 27 ≤ lim ∧ 28 ≤ lim ∧ 29 ≤ lim ∧ 30 ≤ lim ∧ 31 ≤ lim ∧ 32 ≤ lim ∧ 33 ≤ lim ∧ 34 ≤ lim ∧ 35 ≤ lim ∧ 36 ≤ lim ∧ 37 ≤ lim ∧ 38 ≤ lim ∧ 39 ≤ lim ∧ 40 ≤ lim ∧ 41 ≤ lim ∧ 42 ≤ lim ∧ 43 ≤ lim ∧ 44 ≤ lim ∧ 45 ≤ lim ∧ 46 ≤ lim ∧ 47 ≤ lim ∧ 48 ≤ lim ∧ 49 ≤ lim ∧ 50 ≤ lim ∧ 51 ≤ lim ∧ 52 ≤ lim ∧ 53 ≤ lim ∧ 54 ≤ lim ∧ 55 ≤ lim ∧ 56 ≤ lim ∧ 57 ≤ lim ∧ 58 ≤ lim ∧ 59 ≤ lim ∧ 60 ≤ lim ∧ 61 ≤ lim ∧ 62 ≤ lim ∧ 63 ≤ lim ∧ 64 ≤ lim ∧ 65 ≤ lim ∧ 66 ≤ lim ∧ 67 ≤ lim ∧ 68 ≤ lim ∧ 69 ≤ lim := by
  refine ⟨?_, ?_, ?_, ?_, ?_, ?_, ?_, ?_, ?_, ?_, ?_, ?_, ?_, ?_, ?_, ?_, ?_, ?_, ?_, ?_, ?_, ?_, ?_, ?_, ?_, ?_, ?_, ?_, ?_, ?_, ?_, ?_, ?_, ?_, ?_, ?_, ?_, ?_, ?_, ?_, ?_, ?_, ?_, ?_, ?_, ?_, ?_, ?_, ?_, ?_, ?_, ?_, ?_, ?_, ?_, ?_, ?_, ?_, ?_, ?_, ?_, ?_, ?_, ?_, ?_, ?_, ?_, ?_, ?_, ?_⟩ <;> decide
end Rb

namespace Rbk00
open PySem PySem.Spec PyProof.Rows L2 Rb
theorem all_cons {α : Type} {p : α → Prop} {x : α} {l : List α} (h : p x) (hs : ∀ y ∈ l, p y) : ∀ y ∈ x :: l, p y := fun y hy => (List.mem_cons.mp hy).elim (fun e => e ▸ h) (hs y)
theorem all_nil {α : Type} {p : α → Prop} : ∀ y ∈ ([] : List α), p y := fun _ h => nomatch h
theorem b0 : f0.binds := by
  show bP _ _ ∧ (_ → kP _ _)
  exact ⟨fun _ _ _ _ _ _ _ _ _ _ us hl => match us, hl with | [_, _], _ => rfl, fun h => nomatch h⟩
theorem s0 : FnScope (f0.fd.N.map Str.ofString) (f0.fd.ps.map Str.ofString) (defScope f0.st) := ⟨rfl, rfl, rfl, by decide +kernel, rfl, by decide +kernel, by decide +kernel⟩
theorem b1 : f1.binds := by
  show bP _ _ ∧ (_ → kP _ _)
  exact ⟨fun _ _ _ _ _ _ _ _ _ _ us hl => match us, hl with | [_], _ => rfl, fun h => nomatch h⟩
theorem s1 : FnScope (f1.fd.N.map Str.ofString) (f1.fd.ps.map Str.ofString) (defScope f1.st) := ⟨rfl, rfl, rfl, by decide +kernel, rfl, by decide +kernel, by decide +kernel⟩
theorem b2 : f2.binds := by
  show bP _ _ ∧ (_ → kP _ _)
  exact ⟨fun _ _ _ _ _ _ _ _ _ _ us hl => match us, hl with | [_, _, _], _ => rfl, fun h => nomatch h⟩
theorem s2 : FnScope (f2.fd.N.map Str.ofString) (f2.fd.ps.map Str.ofString) (defScope f2.st) := ⟨rfl, rfl, rfl, by decide +kernel, rfl, by decide +kernel, by decide +kernel⟩
theorem b3 : f3.binds := by
  show bP _ _ ∧ (_ → kP _ _)
  exact ⟨fun _ _ _ _ _ _ _ _ _ _ us hl => match us, hl with | [_, _, _], _ => rfl, fun h => nomatch h⟩
theorem s3 : FnScope (f3.fd.N.map Str.ofString) (f3.fd.ps.map Str.ofString) (defScope f3.st) := ⟨rfl, rfl, rfl, by decide +kernel, rfl, by decide +kernel, by decide +kernel⟩
theorem b4 : f4.binds := by
  show bP _ _ ∧ (_ → kP _ _)
  exact ⟨fun _ _ _ _ _ _ _ _ _ _ us hl => match us, hl with | [_, _, _], _ => rfl, fun h => nomatch h⟩
theorem s4 : FnScope (f4.fd.N.map Str.ofString) (f4.fd.ps.map Str.ofString) (defScope f4.st) := ⟨rfl, rfl, rfl, by decide +kernel, rfl, by decide +kernel, by decide +kernel⟩
theorem b5 : f5.binds := by
  show bP _ _ ∧ (_ → kP _ _)
  exact ⟨fun _ _ _ _ _ _ _ _ _ _ us hl => match us, hl with | [_, _], _ => rfl, fun h => nomatch h⟩
theorem s5 : FnScope (f5.fd.N.map Str.ofString) (f5.fd.ps.map Str.ofString) (defScope f5.st) := ⟨rfl, rfl, rfl, by decide +kernel, rfl, by decide +kernel, by decide +kernel⟩
theorem b6 : f6.binds := by
  show bP _ _ ∧ (_ → kP _ _)
  exact ⟨fun _ _ _ _ _ _ _ _ _ _ us hl => match us, hl with | [_], _ => rfl, fun h => nomatch h⟩
theorem s6 : FnScope (f6.fd.N.map Str.ofString) (f6.fd.ps.map Str.ofString) (defScope f6.st) := ⟨rfl, rfl, rfl, by decide +kernel, rfl, by decide +kernel, by decide +kernel⟩
theorem b253 : f253.binds := by
  show bP _ _ ∧ (_ → kP _ _)
  exact ⟨fun _ _ _ _ _ _ _ _ _ _ us hl => match us, hl with | [_, _], _ => rfl, fun h => nomatch h⟩
theorem s253 : FnScope (f253.fd.N.map Str.ofString) (f253.fd.ps.map Str.ofString) (defScope f253.st) := ⟨rfl, rfl, rfl, by decide +kernel, rfl, by decide +kernel, by decide +kernel⟩
theorem e0 : ∀ (f : String) (ix : FX), k0.efld = some f → k0.eini = some ix → ∃ p1 p2 q1 q2 q3 q4, defArgs ix.st = PySem.RbX.iA (Str.ofString f) p1 p2 ∧ defBody ix.st = PySem.RbX.iB (Str.ofString f) q1 q2 q3 q4 ∧ defScope ix.st = PySem.RbX.iS (Str.ofString f) := fun f ix h1 h2 => nomatch h1
theorem e1 : ∀ (f : String) (ix : FX), k1.efld = some f → k1.eini = some ix → ∃ p1 p2 q1 q2 q3 q4, defArgs ix.st = PySem.RbX.iA (Str.ofString f) p1 p2 ∧ defBody ix.st = PySem.RbX.iB (Str.ofString f) q1 q2 q3 q4 ∧ defScope ix.st = PySem.RbX.iS (Str.ofString f) := fun f ix h1 h2 => by
  cases h1; cases h2; exact ⟨_, _, _, _, _, _, rfl, rfl, rfl⟩
theorem e2 : ∀ (f : String) (ix : FX), k2.efld = some f → k2.eini = some ix → ∃ p1 p2 q1 q2 q3 q4, defArgs ix.st = PySem.RbX.iA (Str.ofString f) p1 p2 ∧ defBody ix.st = PySem.RbX.iB (Str.ofString f) q1 q2 q3 q4 ∧ defScope ix.st = PySem.RbX.iS (Str.ofString f) := fun f ix h1 h2 => by
  cases h1; cases h2; exact ⟨_, _, _, _, _, _, rfl, rfl, rfl⟩
theorem e3 : ∀ (f : String) (ix : FX), k3.efld = some f → k3.eini = some ix → ∃ p1 p2 q1 q2 q3 q4, defArgs ix.st = PySem.RbX.iA (Str.ofString f) p1 p2 ∧ defBody ix.st = PySem.RbX.iB (Str.ofString f) q1 q2 q3 q4 ∧ defScope ix.st = PySem.RbX.iS (Str.ofString f) := fun f ix h1 h2 => by
  cases h1; cases h2; exact ⟨_, _, _, _, _, _, rfl, rfl, rfl⟩
theorem e4 : ∀ (f : String) (ix : FX), k4.efld = some f → k4.eini = some ix → ∃ p1 p2 q1 q2 q3 q4, defArgs ix.st = PySem.RbX.iA (Str.ofString f) p1 p2 ∧ defBody ix.st = PySem.RbX.iB (Str.ofString f) q1 q2 q3 q4 ∧ defScope ix.st = PySem.RbX.iS (Str.ofString f) := fun f ix h1 h2 => by
  cases h1; cases h2; exact ⟨_, _, _, _, _, _, rfl, rfl, rfl⟩
theorem txt : TxtF tx where
  len := by decide
  binds := all_cons b0 (all_cons b1 (all_cons b2 (all_cons b3 (all_cons b4 (all_cons b5 (all_cons b6 (all_cons b253 (all_nil))))))))
  scope := all_cons s0 (all_cons s1 (all_cons s2 (all_cons s3 (all_cons s4 (all_cons s5 (all_cons s6 (all_cons s253 (all_nil))))))))
  body := fun x hx => ⟨60, List.all_eq_true.mp (show (tx.fx.all fun x => mBk tx.tb 60 ⟨x.fd.N.map Str.ofString, defScope x.st, none, x.fd.top⟩ x.fd.body (defBody x.st)) = true by decide +kernel) x hx⟩
  hot := fun x hx hh => ⟨60, by
    have z := List.all_eq_true.mp (show (tx.fx.all fun x => !x.hot || hBk tx.tb 60 ⟨x.fd.N.map Str.ofString, defScope x.st, none, x.fd.top⟩ x.fd.body (defBody x.st)) = true by decide +kernel) x hx
    rw [hh] at z
    exact z⟩
  err := fun c x f ix h1 => (show ∀ y ∈ tx.kx, ∀ (f : String) (ix : FX), y.efld = some f → y.eini = some ix → ∃ p1 p2 q1 q2 q3 q4, defArgs ix.st = PySem.RbX.iA (Str.ofString f) p1 p2 ∧ defBody ix.st = PySem.RbX.iB (Str.ofString f) q1 q2 q3 q4 ∧ defScope ix.st = PySem.RbX.iS (Str.ofString f) from all_cons e0 (all_cons e1 (all_cons e2 (all_cons e3 (all_cons e4 (all_nil)))))) x (kat_mem h1).1 f ix
-- upto RbC4
def s_ (i : Nat) : S := f6.fd.body.getD i .bad
abbrev C59 : CallT := run tx.tb 59
theorem blk_app {T : Tb} {C : CallT} {a b : List S} {e e1 : Rb.Env} {M M1 : Sto} (h : blk T C a e M = .next e1 M1) : blk T C (a ++ b) e M = blk T C b e1 M1 := by
  induction a generalizing e M with
  | nil => simp only [Rb.blk, Out.next.injEq] at h; obtain ⟨rfl, rfl⟩ := h; rfl
  | cons s a ih =>
    simp only [List.cons_append, Rb.blk] at h ⊢
    cases hs : st T C s e M with
    | next e2 M2 => rw [hs] at h; exact ih h
    | _ => rw [hs] at h; cases h
theorem wide_run {row : List Int} (hr : row ≠ []) (k : Nat) : ∃ v : Int, run tx.tb 59 4 [rowD row, .cel 0, .int 1000000000] (Rb.SP k []) = .ok (.int v) (Rb.SP (k + 1 + 1 + 1) []) := by
  have W : DrawT tx.tb := ⟨rfl, rfl, rfl⟩
  obtain ⟨a, a0, a1, ea⟩ := W.take hr k (L := 997) (by decide) 56 []
  obtain ⟨b, b0, b1, eb⟩ := W.take hr (k + 1) (L := 997) (by decide) 56 []
  obtain ⟨c, c0, c1, ec⟩ := W.take hr (k + 1 + 1) (L := 997) (by decide) 56 []
  have ea' : run tx.tb 58 3 [rowD row, .cel 0, .int 997] (Rb.SP k []) = _ := ea
  have eb' : run tx.tb 58 3 [rowD row, .cel 0, .int 997] (Rb.SP (k + 1) []) = _ := eb
  have ec' : run tx.tb 58 3 [rowD row, .cel 0, .int 997] (Rb.SP (k + 1 + 1) []) = _ := ec
  have m1 : binD .mul (.int a) (.int 994009) = some (.int (a * 994009)) := by
    have : mulOk a 994009 = true := by unfold mulOk; simp
    simp only [binD, if_pos this]
  have m2 : binD .mul (.int b) (.int 997) = some (.int (b * 997)) := by
    have : mulOk b 997 = true := by unfold mulOk; simp
    simp only [binD, if_pos this]
  have m3 : ∀ x : Int, binD .mod (.int x) (.int 1000000000) = some (.int (x.fmod 1000000000)) := fun x => by
    simp only [binD]
    rw [if_pos (by decide)]
  refine ⟨(a * 994009 + b * 997 + c).fmod 1000000000, ?_⟩
  rw [run_eq (fd := f4.fd) rfl rfl]
  have ad : ∀ x y : Int, binD .add (.int x) (.int y) = some (.int (x + y)) := fun _ _ => rfl
  simp [EVA, P.isBor, Src.noBor, P.fresh, bindT, Env.set, lenD, grdOf, lims, f4, ea', eb', ec', m1, m2, m3, ad]
theorem hot_int (z : Int) (M : Sto) : run tx.tb 59 253 [.int z, .int z] M = .ok (.bl true) M := by
  have c : ∀ C M, cmpD tx.tb C .eqp (.int z) (.int z) M = .ok (.bl true) M := fun C M => by
    have : eqO (.int z) (.int z) = some true := by
      simp [eqO, D.py, SeqAt.shaped, PyData.canLay0, PyData.depth, PyData.eqv]
    simp only [cmpD, this, Option.map_some, oR]
  have q : ∀ C M s, ev tx.tb C (.cmp .eqp (.nm 0) (.nm 1)) [.val (.int z), .val (.int z), s] M = .ok (.bl true) M := fun C M s => by
    simp only [Rb.ev, Res.bind, List.getElem?_cons_zero, List.getElem?_cons_succ, c]
  rw [run_eq (fd := f253.fd) rfl rfl]
  simp [↓q, EVA, P.isBor, Src.noBor, P.fresh, bindT, Env.set, lenD, grdOf, lims, f253, isiD, tyD]
theorem hot_str (M : Sto) : run tx.tb 59 253 [.str "stakes", .str "stakes"] M = .ok (.bl true) M := by kernel_rfl
theorem raise_run (z : Int) (M : Sto) : run tx.tb 59 5 [.int 0, .int z] M = .exc 1 (.int z) M ∧ run tx.tb 59 5 [.int 1, .int z] M = .exc 2 (.int z) M ∧ run tx.tb 59 5 [.int 2, .int z] M = .exc 4 (.int z) M ∧ run tx.tb 59 5 [.int 3, .str "stakes"] M = .exc 3 (.str "stakes") M := ⟨by kernel_rfl, by kernel_rfl, by kernel_rfl, by kernel_rfl⟩
def nXw : D → Bool
  | .exn _ _ => false
  | _ => true
/-- number, class, value -/
theorem suite_run {x : Int} {c : Nat} {w : D} {s0 s1 s2 : Rb.Slot} {M : Sto} (hc : xsuOk tx.tb c x w [1, 2, 4, 3] = true) (h0 : c = 0 ∨ tx.tb.base c = some 0) (hw : nXw w = true) (hr : run tx.tb 59 5 [.int x, w] M = .exc c w M) (hh : run tx.tb 59 253 [w, w] M = .ok (.bl true) M) :
    blk tx.tb C59 [s_ 5, s_ 6] [s0, s1, s2, .val (.int x), .val w, .un, .un, .un] M = .ret (.bl true) M := by
  have e5 : s_ 5 = .try_ [.exp (.call 5 [.nm 3, .nm 4])] [(0, some 5, [.xsu 5 3 4 6 7 253 [1, 2, 4, 3]])] := rfl
  have b : blk tx.tb C59 [.exp (.call 5 [.nm 3, .nm 4])] [s0, s1, s2, .val (.int x), .val w, .un, .un, .un] M = .exc c w [s0, s1, s2, .val (.int x), .val w, .un, .un, .un] M := by
    have hr' : C59 5 [.int x, w] M = .exc c w M := hr
    clear hc hh hr
    cases w <;> first
      | (cases hw; done)
      | (simp only [Rb.blk, Rb.st, Rb.ev, Rb.evs, Res.bind, List.getElem?_cons_zero, List.getElem?_cons_succ, hr', ofR])
  rw [e5]
  have hd : hand tx.tb C59 [(0, some 5, [.xsu 5 3 4 6 7 253 [1, 2, 4, 3]])] c w [s0, s1, s2, .val (.int x), .val w, .un, .un, .un] M = .ret (.bl true) M := by
    simp only [Rb.hand, if_pos h0]
    have hh' : C59 253 [w, w] M = _ := hh
    have sx : st tx.tb C59 (.xsu 5 3 4 6 7 253 [1, 2, 4, 3]) (List.set [s0, s1, s2, .val (.int x), .val w, .un, .un, .un] 5 (.val (.exn c w))) M = .ret (.bl true) M := by
      show (match some (Rb.Slot.val (.exn c w)), some (Rb.Slot.val (.int x)), some (Rb.Slot.val w) with
        | some (.val (.exn c v)), some (.val (.int x)), some (.val w) => if xsuOk tx.tb c x w [1, 2, 4, 3] = true ∧ 6 < 8 ∧ 7 < 8 then (match C59 253 [v, w] M with | .ok d M1 => Out.ret d M1 | _ => .stuck) else .stuck
        | _, _, _ => .stuck) = _
      simp only [hc, hh']
      rfl
    simp only [Rb.blk, sx]
  simp only [Rb.blk, Rb.st] at b ⊢
  simp only [b, hd]
theorem main : Main tx.tb 60 6 := by
  intro ns hl hb
  have W : DrawT tx.tb := ⟨rfl, rfl, rfl⟩
  obtain ⟨row, hr, e1⟩ := numbers_run W.h1 ns hl 58 []
  obtain ⟨x, x0, x1, ex⟩ := W.take hr 0 (L := 4) (by decide) 57 []
  obtain ⟨v, ev_⟩ := wide_run hr (0 + 1)
  have e1' : run tx.tb 59 1 [.ro (ns.map .int)] [] = .ok (rowD row) [] := e1
  have ex' : run tx.tb 59 3 [rowD row, .cel 0, .int 4] (Rb.SP 0 []) = .ok (.int x) (Rb.SP (0 + 1) []) := ex
  have p1 : binD .pow (.int 10) (.int 9) = some (.int 1000000000) := by kernel_rfl
  have p2 : binD .pow (.int 10) (.int 8) = some (.int 100000000) := by kernel_rfl
  have p3 : binD .mul (.int 5) (.int 100000000) = some (.int 500000000) := by kernel_rfl
  have p4 : binD .sub (.int v) (.int 500000000) = some (.int (v - 500000000)) := rfl
  have tA : blk tx.tb C59 [s_ 0, s_ 1, s_ 2, s_ 3] [.val (.ro (ns.map .int)), .un, .un, .un, .un, .un, .un, .un] [] = .next [.val (.ro (ns.map .int)), .val (rowD row), .val (.cel 0), .val (.int x), .val (.int (v - 500000000)), .un, .un, .un] (Rb.SP (0 + 1 + 1 + 1 + 1) []) := by
    simp [EVA, P.isBor, Src.noBor, P.fresh, bindT, Env.set, lenD, grdOf, lims, s_, f6, sp0, e1', ex', ev_, p1, p2, p3, p4]
  refine ⟨Rb.SP (0 + 1 + 1 + 1 + 1) [], ?_⟩
  rw [run_eq (fd := f6.fd) rfl rfl]
  show fin (blk tx.tb C59 ([s_ 0, s_ 1, s_ 2, s_ 3] ++ ([s_ 4] ++ [s_ 5, s_ 6])) [.val (.ro (ns.map .int)), .un, .un, .un, .un, .un, .un, .un] []) = _
  rw [blk_app tA]
  generalize Rb.SP (0 + 1 + 1 + 1 + 1) [] = M
  obtain ⟨r0, r1, r2, r3⟩ := raise_run (v - 500000000) M
  have hi := hot_int (v - 500000000) M
  have q : ∀ i : Int, cmpD tx.tb C59 .eq (.int x) (.int 3) M = .ok (.bl (decide (x = 3))) M := fun i => c_eqi tx.tb C59 x 3 M
  have : x = 0 ∨ x = 1 ∨ x = 2 ∨ x = 3 := by omega
  generalize v - 500000000 = z at *
  rcases this with rfl | rfl | rfl | rfl
  · have t4 : blk tx.tb C59 [s_ 4] [.val (.ro (ns.map .int)), .val (rowD row), .val (.cel 0), .val (.int 0), .val (.int z), .un, .un, .un] M = .next [.val (.ro (ns.map .int)), .val (rowD row), .val (.cel 0), .val (.int 0), .val (.int z), .un, .un, .un] M := by kernel_rfl
    rw [blk_app t4, suite_run (c := 1) (by kernel_rfl) (.inr rfl) rfl r0 hi]; rfl
  · have t4 : blk tx.tb C59 [s_ 4] [.val (.ro (ns.map .int)), .val (rowD row), .val (.cel 0), .val (.int 1), .val (.int z), .un, .un, .un] M = .next [.val (.ro (ns.map .int)), .val (rowD row), .val (.cel 0), .val (.int 1), .val (.int z), .un, .un, .un] M := by kernel_rfl
    rw [blk_app t4, suite_run (c := 2) (by kernel_rfl) (.inr rfl) rfl r1 hi]; rfl
  · have t4 : blk tx.tb C59 [s_ 4] [.val (.ro (ns.map .int)), .val (rowD row), .val (.cel 0), .val (.int 2), .val (.int z), .un, .un, .un] M = .next [.val (.ro (ns.map .int)), .val (rowD row), .val (.cel 0), .val (.int 2), .val (.int z), .un, .un, .un] M := by kernel_rfl
    rw [blk_app t4, suite_run (c := 4) (by kernel_rfl) (.inr rfl) rfl r2 hi]; rfl
  · have t4 : blk tx.tb C59 [s_ 4] [.val (.ro (ns.map .int)), .val (rowD row), .val (.cel 0), .val (.int 3), .val (.int z), .un, .un, .un] M = .next [.val (.ro (ns.map .int)), .val (rowD row), .val (.cel 0), .val (.int 3), .val (.str "stakes"), .un, .un, .un] M := by kernel_rfl
    rw [blk_app t4, suite_run (c := 3) (by kernel_rfl) (.inr rfl) rfl r3 (hot_str M)]; rfl

theorem ob_eq (s : PySem.W.SharedT) : ob s = (tx.hookE 7).obs s.abs := TX.obsE_eq (HandSHeadRun.getT_eq s)
theorem run_top (w : World) : HandSHeadRun.RunEq R (PySem.W.view R.prog [13]) (tx.hookE 7) ob 8000 loose w := by
  intro os
  kernel_rfl
end Rbk00
open PySem PySem.W PySem.Calls PyProof.Rows
theorem PySem.Challenge.cw_racebooks_k00_errors_holds : PySem.Challenge.rw_racebooks_k00_errors.Holds := by
  w_on; o_law
  refine HandSHeadRun.head_any (r := OpenLaw.row PySem.Challenge.rw_racebooks_k00_errors) (q := view (OpenLaw.row PySem.Challenge.rw_racebooks_k00_errors).prog [13]) (H := Rbk00.tx.hookE 7) (ob := Rbk00.ob) (M := 8000) (loose := Rbk00.loose) (d := HandSHeadRun.topDef (OpenLaw.row PySem.Challenge.rw_racebooks_k00_errors).prog 13) (kwd := []) Rbk00.ob_eq (by kernel_rfl) (fun s => by kernel_rfl) Rbk00.run_top (by kernel_rfl) (by kernel_rfl) (by kernel_rfl) (by rfl) (by first | assumption | decide +kernel) (by decide +kernel) ⟨rfl, rfl, rfl, rfl, rfl, by decide +kernel⟩ ?hw ?hc
  case hw => w_witness2
  case hc => exact Rb.walkE Rbk00.txt (x := Rbk00.f6) (by rfl) Rbk00.main rfl rfl (by kernel_rfl) ⟨rfl, by decide, by decide⟩ rfl rfl rfl (by kernel_rfl)

