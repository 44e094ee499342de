import PyProof.Rows.All
import Wide.All
import OpenK.AllK
import Wide.FinOn
import HandS.ForMost
import HandS.ForExc
import HandS.IsInst
import HandS.Style
import HandS.TupAny
import HandS.Strs
import PyProof.Rows.StrMeet
import HandS.Flow
import HandS.HeadHook1
import HandS.TryOnly
import HandS.ExcOwn
import HandS.CallSlots
import HandS.Zip
import HandS.WordsExc
import HandS.Defaults
import KE.KStateDown
import Lean
import HandS.Ends
import HandS.More
import HandS.Words
import HandS.Head0
import HandS.Head1
import HandS.Head2
import HandS.HeadEnd
import HandS.HeadHook2
import PySem.Challenge.RW_lentdoors_k77_reasons_exclude
set_option Elab.async false
set_option linter.all false
set_option maxRecDepth 100000
/-! LD1: values, syntax, the interpreter of the fragment (no positions, no heap addresses). -/
namespace LD
open PySem
open L2 (ixN atI)

/-- values -/
inductive D where
  | non | bl (b : Bool) | int (i : Int) | str (s : Str)
  | tup (xs : List D) | lst (xs : List D) | dct (kvs : List (D × D))
  | ins (c : Str) (fs : List (Str × D))
  | loc (l : Nat) | ty (n : String) | glob (x : Str) | scr (ns : List Int)
/-- what stands in the store: objects that are shared and change -/
inductive SO where
  | lst (xs : List D) | ins (c : Str) (fs : List (Str × D)) | dead
abbrev Store := List SO
inductive Out (α : Type) where
  | ok (a : α) (μ : Store) | exc (c : D) (fs : List (Str × D)) (μ : Store) | bad
def Out.bind {α β : Type} (o : Out α) (f : α → Store → Out β) : Out β := match o with
  | .ok a μ => f a μ
  | .exc c fs μ => .exc c fs μ
  | .bad => .bad
@[simp] theorem Out.bind_ok {α β : Type} (a : α) (μ : Store) (f : α → Store → Out β) : (Out.ok a μ).bind f = f a μ := rfl
@[simp] theorem Out.bind_exc {α β : Type} (c : D) (fs : List (Str × D)) (μ : Store) (f : α → Store → Out β) : (Out.exc c fs μ : Out α).bind f = .exc c fs μ := rfl
@[simp] theorem Out.bind_bad {α β : Type} (f : α → Store → Out β) : (Out.bad : Out α).bind f = .bad := rfl
def opt (o : Option D) (μ : Store) : Out D := match o with
  | some d => .ok d μ
  | none => .bad
@[simp] theorem opt_some (d : D) (μ : Store) : opt (some d) μ = .ok d μ := rfl
@[simp] theorem opt_none (μ : Store) : opt none μ = .bad := rfl

inductive BOp where | add | sub | mul | fdiv | mod | pow
inductive COp where | eq | ne | lt | le | gt | ge | is_ | isnot | in_ | notin
inductive Blt where | len | abs | max2 | min2 | int1 | list1 | tuple1 | isinst | all1 | any1 | sorted1
inductive Mth where | join | tindex | lindex
/-- targets: a name's slot; a tuple of names -/
inductive Tg where | name (i : Nat) | tup (is : List Nat)
/-- which bounds a slice has -/
inductive SK where | all | lo | hi | both
/-- what is walked: a value; range(b); range(a, b) -/
inductive IK where | val | rng1 | rng2 | zip
  deriving DecidableEq

mutual
inductive Ex where
  | con (d : D) | var (i : Nat) | glob (x : Str)
  | bin (op : BOp) (a b : Ex) | neg (a : Ex)
  | cmp (op : COp) (a b : Ex) | chain (op op' : COp) (a b c : Ex)
  | and_ (a b : Ex) | or_ (a b : Ex) | not_ (a : Ex) | ite (c a b : Ex)
  | tup (es : Exs) | lst (es : Exs) | newl (es : Exs)
  | idx (a b : Ex) | slice (k : SK) (a : Ex) (es : Exs) | dict (es : Exs)
  | bidx (i : Nat) (b : Ex) | rev (a : Ex) | popl (o k : Ex) | llen (a : Ex) | newc (a : Ex)
  | call (f : Str) (es : Exs) | blt (f : Blt) (es : Exs) | meth (m : Mth) (o : Ex) (es : Exs)
  | comp (elt : Ex) (t : Tg) (k : IK) (its : Exs) (cond : Option Ex)
inductive Exs where
  | nil | cons (e : Ex) (es : Exs)
end

mutual
inductive Sm where
  | expr (e : Ex) | asg (t : Tg) (e : Ex) | own (i : Nat) (e : Ex) | app (i : Nat) (e : Ex) | seti (i : Nat) (k e : Ex) | setl (o k e : Ex)
  | par (is : List (Nat × Bool)) (es : Exs)
  | ret (e : Ex) | retn | ite (c : Ex) (a b : Sms) | for_ (t : Tg) (k : IK) (its : Exs) (body : Sms) | while_ (c : Ex) (body : Sms)
  | raise_ (c : Str) (es : Exs) | rais (c : Str) | try_ (body : Sms) (c : Str) (z : Str) | brk | cont | pass | fre (i : Nat)
inductive Sms where
  | nil | cons (s : Sm) (ss : Sms)
end

structure Fn where
  ps : Nat
  n : Nat
  body : Sms

/-! ### operations on values -/
def LINE : Nat := 16777216
def small (i : Int) : Bool := decide (-(2 ^ 64) < i ∧ i < 2 ^ 64)
def powOk (i j : Int) : Bool := decide (1 ≤ j ∧ 2 ≤ i ∧ ((i.natAbs.log2 + 1 : Nat) : Int) * j ≤ 1000000)
def binop : BOp → D → D → Option D
  | .add, .int i, .int j => some (.int (i + j))
  | .add, .str a, .str b => if a.length + b.length ≤ LINE then some (.str (a ++ b)) else none
  | .add, .lst a, .lst b => if a.length + b.length ≤ LINE then some (.lst (a ++ b)) else none
  | .add, .tup a, .tup b => if a.length + b.length ≤ LINE then some (.tup (a ++ b)) else none
  | .sub, .int i, .int j => some (.int (i - j))
  | .mul, .int i, .int j => if small i || small j then some (.int (i * j)) else none
  | .fdiv, .int i, .int j => if j ≠ 0 ∧ j.natAbs < 1073741824 then some (.int (i.fdiv j)) else none
  | .mod, .int i, .int j => if j ≠ 0 then some (.int (i.fmod j)) else none
  | .pow, .int i, .int j => if powOk i j then some (.int (i ^ j.toNat)) else none
  | _, _, _ => none
mutual
def toP : D → Option PyData
  | .non => some .none
  | .bl b => some (.bool b)
  | .int i => some (.int i)
  | .str s => some (.str s)
  | .tup xs => (toPs xs).map .tuple
  | .lst xs => (toPs xs).map .list
  | _ => none
def toPs : List D → Option (List PyData)
  | [] => some []
  | x :: xs => match toP x, toPs xs with
    | some p, some ps => some (p :: ps)
    | _, _ => none
end
/-- == of data without dicts -/
def eqD (a b : D) : Option Bool := match toP a, toP b with
  | some p, some q => if SeqAt.shaped p && SeqAt.shaped q then some (PyData.eqv p q) else none
  | _, _ => none
/-- == of elements: data without dicts; a dict and a text -/
def eqE : D → D → Option Bool
  | .dct _, .str _ => some false
  | a, b => match toP a, toP b with
    | some p, some q => if SeqAt.shaped p && SeqAt.shaped q && decide (p.depth ≤ 63) then some (PyData.eqv p q) else none
    | _, _ => none
def zipE : List D → List D → Option Bool
  | [], [] => some true
  | x :: xs, y :: ys => match eqE x y, zipE xs ys with
    | some b, some r => some (b && r)
    | _, _ => none
  | _, _ => some false
/-- != where a dict is in sight -/
def neX : D → D → Option Bool
  | .dct _, .tup _ => some true
  | .tup xs, .tup ys => (zipE xs ys).map (!·)
  | _, _ => none
def neD (a b : D) : Option Bool := match eqD a b with
  | some k => some (!k)
  | none => neX a b
def flat : D → Bool
  | .non => true
  | .bl _ => true
  | .int _ => true
  | .str _ => true
  | _ => false
def eqF : D → D → Bool
  | .non, .non => true
  | .bl a, .bl b => a == b
  | .bl a, .int b => (if a then 1 else 0) == b
  | .int a, .bl b => a == (if b then 1 else 0)
  | .int a, .int b => a == b
  | .str a, .str b => a == b
  | _, _ => false
/-- x in xs, of data without dicts -/
def inData (x : D) (xs : List D) : Option Bool := match toP x, toPs xs with
  | some p, some qs => if SeqAt.shaped p && decide (p.depth ≤ 63) && PyData.canLayAll0 qs then some (qs.any fun y => PyData.eqv y p) else none
  | _, _ => none
def inSeq (x : D) (xs : List D) : Option Bool := if flat x && xs.all flat then some (xs.any fun y => eqF y x) else inData x xs
def strIn (a b : Str) : Option Bool := match a.cps.toList with
  | [c] => some (decide (c ∈ b.cps.toList))
  | _ => none
def isNon : D → Bool
  | .non => true
  | _ => false
def cmpop : COp → D → D → Option Bool
  | .eq, a, b => eqD a b
  | .ne, a, b => neD a b
  | .lt, .int i, .int j => some (decide (i < j))
  | .le, .int i, .int j => some (decide (i ≤ j))
  | .gt, .int i, .int j => some (decide (j < i))
  | .ge, .int i, .int j => some (decide (j ≤ i))
  | .lt, .str x, .str y => some (decide (x.cps.toList < y.cps.toList))
  | .is_, .bl a, .bl b => some (decide (a = b))
  | .isnot, .bl a, .bl b => some (!decide (a = b))
  | .is_, a, .non => some (isNon a)
  | .isnot, a, .non => some (!isNon a)
  | .in_, x, .tup ys => inSeq x ys
  | .in_, x, .lst ys => inSeq x ys
  | .notin, x, .tup ys => (inSeq x ys).map (!·)
  | .notin, x, .lst ys => (inSeq x ys).map (!·)
  | .in_, .str x, .str y => strIn x y
  | .notin, .str x, .str y => (strIn x y).map (!·)
  | _, _, _ => none
def truthy : D → Option Bool
  | .non => some false
  | .bl b => some b
  | .int i => some (i != 0)
  | .str s => some (s.length != 0)
  | .tup xs => some (!xs.isEmpty)
  | .lst xs => some (!xs.isEmpty)
  | _ => none
def lenD : D → Option Nat
  | .str s => some s.length
  | .tup xs => some xs.length
  | .lst xs => some xs.length
  | .scr ns => some ns.length
  | _ => none
def idxD : D → D → Store → Option D
  | .tup xs, .int i, _ => atI xs i
  | .lst xs, .int i, _ => atI xs i
  | .scr ns, .int i, _ => (atI ns i).map .int
  | .str s, .int i, _ => (atI s.cps.toList i).map fun c => .str ⟨#[c]⟩
  | .loc l, .int i, μ => match μ[l]? with
    | some (.lst xs) => atI xs i
    | _ => none
  | _, _, _ => none
def tyN : D → Option String
  | .non => some "NoneType"
  | .bl _ => some "bool"
  | .int _ => some "int"
  | .str _ => some "str"
  | .tup _ => some "tuple"
  | .lst _ => some "list"
  | .dct _ => some "dict"
  | _ => none
def isB (t T : String) : Option Bool :=
  if T = "int" then some (t = "int" || t = "bool") else if T = "bool" then some (t = "bool") else if T = "str" then some (t = "str") else if T = "tuple" then some (t = "tuple")
  else if T = "list" then some (t = "list") else if T = "dict" then some (t = "dict") else none
def bools : List D → Option (List Bool)
  | [] => some []
  | .bl b :: r => (bools r).map (b :: ·)
  | _ => none
/-! ### sorted texts -/
def insS (x : Str) : List Str → List Str
  | [] => [x]
  | y :: ys => if decide (y.cps.toList < x.cps.toList) then y :: insS x ys else x :: y :: ys
def sortS : List Str → List Str
  | [] => []
  | x :: xs => insS x (sortS xs)
def strsD : List D → Option (List Str)
  | [] => some []
  | .str s :: r => (strsD r).map (s :: ·)
  | _ => none
def blt : Blt → List D → Option D
  | .len, [x] => (lenD x).map fun n : Nat => D.int (n : Int)
  | .abs, [.int i] => some (.int (if i < 0 then -i else i))
  | .max2, [.int i, .int j] => some (.int (if j > i then j else i))
  | .min2, [.int i, .int j] => some (.int (if j < i then j else i))
  | .int1, [.int i] => some (.int i)
  | .int1, [.bl b] => some (.int (if b then 1 else 0))
  | .list1, [.tup xs] => some (.lst xs)
  | .list1, [.lst xs] => some (.lst xs)
  | .list1, [.str s] => some (.lst (s.cps.toList.map fun c => .str ⟨#[c]⟩))
  | .tuple1, [.tup xs] => some (.tup xs)
  | .tuple1, [.lst xs] => some (.tup xs)
  | .isinst, [x, .ty T] => match tyN x with
    | some t => (isB t T).map .bl
    | none => none
  | .all1, [.lst xs] => (bools xs).map fun bs => .bl (bs.all id)
  | .any1, [.lst xs] => (bools xs).map fun bs => .bl (bs.any id)
  | .sorted1, [.lst xs] => match strsD xs with
    | some ys => if ys.length < 64 then some (.lst ((sortS ys).map D.str)) else none
    | none => none
  | _, _ => none
def index (y : D) : List D → Nat → Option Nat
  | [], _ => none
  | x :: xs, n => if eqF x y then some n else index y xs (n + 1)
def meth : Mth → D → List D → Option D
  | .join, .str a, [.lst xs] => match strsD xs with
    | some ys => if (ys.map (·.length)).sum + ys.length * a.length ≤ LINE then some (.str (Str.join a ys)) else none
    | none => none
  | .tindex, .tup xs, [y] => if flat y && xs.all flat then (index y xs 0).map fun n : Nat => D.int (n : Int) else none
  | .lindex, .lst xs, [y] => if flat y && xs.all flat then (index y xs 0).map fun n : Nat => D.int (n : Int) else none
  | _, _, _ => none
def mthOk : Mth → D → Bool
  | .join, .str _ => true
  | .tindex, .tup _ => true
  | .lindex, .lst _ => true
  | _, _ => false
def rangeL (lo hi : Int) : List D := (List.range (hi - lo).toNat).map fun i => .int (lo + (i : Nat))
def zipD (xs ys : List D) : List D := (xs.zip ys).map fun p => .tup [p.1, p.2]
def iterD : IK → List D → Option (List D)
  | .zip, [.tup xs, .tup ys] => some (zipD xs ys)
  | .zip, [.lst xs, .lst ys] => some (zipD xs ys)
  | .val, [.tup xs] => some xs
  | .val, [.lst xs] => some xs
  | .val, [.str s] => some (s.cps.toList.map fun c => .str ⟨#[c]⟩)
  | .rng1, [.int j] => if -(2 ^ 62) ≤ j ∧ j < LINE then some (rangeL 0 j) else none
  | .rng2, [.int i, .int j] => if -(2 ^ 62) ≤ i ∧ i < 2 ^ 62 ∧ -(2 ^ 62) ≤ j ∧ j < 2 ^ 62 ∧ j - i ≤ LINE then some (rangeL i j) else none
  | _, _ => none
def part : SK → List D → Option (Option Int × Option Int)
  | .all, [] => some (none, none)
  | .lo, [.int i] => some (some i, none)
  | .hi, [.int j] => some (none, some j)
  | .both, [.int i, .int j] => some (some i, some j)
  | _, _ => none
def cutD {α : Type} (xs : List α) (lo hi : Option Int) : List α := (xs.drop (HT.sIx xs.length 0 lo)).take (HT.sIx xs.length xs.length hi - HT.sIx xs.length 0 lo)
def sliceD : D → Option Int × Option Int → Option D
  | .str z, (lo, hi) => some (.str (L2.cutS z lo hi))
  | .tup xs, (lo, hi) => some (.tup (cutD xs lo hi))
  | .lst xs, (lo, hi) => some (.lst (cutD xs lo hi))
  | _, _ => none
def keyD : D → Option L2.Key
  | .int i => some (.inl i)
  | .str s => some (.inr s)
  | _ => none
def pairD : List D → Option (List (D × D))
  | [] => some []
  | [_] => none
  | k :: v :: r => (pairD r).map ((k, v) :: ·)
def keysOk (kvs : List (D × D)) : Bool := decide (kvs.length ≤ 15) && kvs.all (fun p => (keyD p.1).isSome) && decide ((kvs.map fun p => keyD p.1).Nodup)
def dictD (ds : List D) : Option (List (D × D)) := match pairD ds with
  | some kvs => if keysOk kvs then some kvs else none
  | none => none

/-- list.pop(j): the place -/
def popIx (n : Nat) (j : Int) : Option Nat := if 0 ≤ j ∧ j < n ∧ j < 2 ^ 62 then some j.toNat else none
def popD (l : Nat) (y : D) (μ : Store) : Out D := match y with
  | .int j => (match μ[l]? with
    | some (.lst xs) => (match popIx xs.length j with
      | some n => (match xs[n]? with
        | some d => .ok d (μ.set l (.lst (xs.eraseIdx n)))
        | none => .bad)
      | none => .bad)
    | _ => .bad)
  | _ => .bad
/-! ### the environment -/
inductive Slot where
  | no | val (d : D) | own (xs : List D)
abbrev Env := List Slot
def Env.get (ρ : Env) (i : Nat) : Option D := match ρ[i]? with
  | some (.val d) => some d
  | _ => none
def Env.put (ρ : Env) (i : Nat) (d : D) : Option Env := if i < ρ.length then some (ρ.set i (.val d)) else none
def putAll : Env → List Nat → List D → Option Env
  | ρ, [], [] => some ρ
  | ρ, i :: is, d :: ds => (ρ.put i d).bind fun ρ' => putAll ρ' is ds
  | _, _, _ => none
def bindT (ρ : Env) : Tg → D → Option Env
  | .name i, d => ρ.put i d
  | .tup is, .tup ds => putAll ρ is ds
  | .tup _, _ => none

/-- names stored together; true: the value is a new list that the name owns -/
def putMix : Env → List (Nat × Bool) → List D → Option Env
  | ρ, [], [] => some ρ
  | ρ, (i, false) :: is, d :: ds => (ρ.put i d).bind fun ρ' => putMix ρ' is ds
  | ρ, (i, true) :: is, .lst xs :: ds => if i < ρ.length then putMix (ρ.set i (.own xs)) is ds else none
  | _, _, _ => none
def Tg.slots : Tg → List Nat
  | .name i => [i]
  | .tup is => is
/-- the slots of a comprehension's own names, emptied -/
def wipeE (ρ : Env) : List Nat → Env
  | [] => ρ
  | i :: is => (wipeE ρ is).set i .no
/-- the global table: the module's constants (and names of types), its functions -/
structure GT where
  con : Str → Option D
  call : Str → List D → Store → Out D

/-- a comprehension's loop: f one turn -/
def compLoop (f : D → Store → Out (Option D)) : List D → List D → Store → Out (List D)
  | [], acc, μ => .ok acc μ
  | x :: xs, acc, μ => match f x μ with
    | .ok (some y) μ' => compLoop f xs (acc ++ [y]) μ'
    | .ok none μ' => compLoop f xs acc μ'
    | _ => .bad
def testOf (o : Out D) : Out Bool := o.bind fun d μ => match truthy d with
  | some b => .ok b μ
  | none => .bad

mutual
def ev (G : GT) : Ex → Env → Store → Out D
  | .con d, _, μ => .ok d μ
  | .var i, ρ, μ => opt (ρ.get i) μ
  | .glob x, _, μ => opt (G.con x) μ
  | .bin op a b, ρ, μ => (ev G a ρ μ).bind fun x μ => (ev G b ρ μ).bind fun y μ => opt (binop op x y) μ
  | .neg a, ρ, μ => (ev G a ρ μ).bind fun x μ => match x with
    | .int i => .ok (.int (-i)) μ
    | _ => .bad
  | .cmp op a b, ρ, μ => (ev G a ρ μ).bind fun x μ => (ev G b ρ μ).bind fun y μ => opt ((cmpop op x y).map .bl) μ
  | .chain op op' a b c, ρ, μ => (ev G a ρ μ).bind fun x μ => (ev G b ρ μ).bind fun y μ => match cmpop op x y with
    | some true => (ev G c ρ μ).bind fun z μ => opt ((cmpop op' y z).map .bl) μ
    | some false => .ok (.bl false) μ
    | none => .bad
  | .and_ a b, ρ, μ => (ev G a ρ μ).bind fun x μ => match truthy x with
    | some true => ev G b ρ μ
    | some false => .ok x μ
    | none => .bad
  | .or_ a b, ρ, μ => (ev G a ρ μ).bind fun x μ => match truthy x with
    | some true => .ok x μ
    | some false => ev G b ρ μ
    | none => .bad
  | .not_ a, ρ, μ => (ev G a ρ μ).bind fun x μ => opt ((truthy x).map fun b => .bl (!b)) μ
  | .ite c a b, ρ, μ => (ev G c ρ μ).bind fun x μ => match truthy x with
    | some true => ev G a ρ μ
    | some false => ev G b ρ μ
    | none => .bad
  | .tup es, ρ, μ => (evs G es ρ μ).bind fun ds μ => if ds.length ≤ LINE then .ok (.tup ds) μ else .bad
  | .lst es, ρ, μ => (evs G es ρ μ).bind fun ds μ => if ds.length ≤ LINE then .ok (.lst ds) μ else .bad
  | .newl es, ρ, μ => (evs G es ρ μ).bind fun ds μ => if ds.length ≤ LINE then .ok (.loc μ.length) (μ ++ [.lst ds]) else .bad
  | .idx a b, ρ, μ => (ev G a ρ μ).bind fun x μ => (ev G b ρ μ).bind fun y μ => opt (idxD x y μ) μ
  | .slice k a es, ρ, μ => (ev G a ρ μ).bind fun x μ => match evs G es ρ μ with
    | .ok ds μ => (match part k ds with
      | some p => opt (sliceD x p) μ
      | none => .bad)
    | _ => .bad
  | .dict es, ρ, μ => (evs G es ρ μ).bind fun ds μ => match dictD ds with
    | some kvs => .ok (.dct kvs) μ
    | none => .bad
  | .bidx i b, ρ, μ => match ρ[i]? with
    | some (.own xs) => (ev G b ρ μ).bind fun y μ => match y with
      | .int k => opt (atI xs k) μ
      | _ => .bad
    | _ => .bad
  | .rev a, ρ, μ => (ev G a ρ μ).bind fun x μ => match x with
    | .tup xs => .ok (.tup xs.reverse) μ
    | _ => .bad
  | .popl o k, ρ, μ => (ev G o ρ μ).bind fun x μ => match x with
    | .loc l => (match μ[l]? with
      | some (.lst _) => (ev G k ρ μ).bind fun y μ => popD l y μ
      | _ => .bad)
    | _ => .bad
  | .llen a, ρ, μ => (ev G a ρ μ).bind fun x μ => match x with
    | .loc l => (match μ[l]? with
      | some (.lst xs) => .ok (.int (xs.length : Nat)) μ
      | _ => .bad)
    | _ => .bad
  | .newc a, ρ, μ => (ev G a ρ μ).bind fun x μ => match x with
    | .lst xs => .ok (.loc μ.length) (μ ++ [.lst xs])
    | .tup xs => .ok (.loc μ.length) (μ ++ [.lst xs])
    | _ => .bad
  | .call f es, ρ, μ => (evs G es ρ μ).bind fun ds μ => G.call f ds μ
  | .blt f es, ρ, μ => (evs G es ρ μ).bind fun ds μ => opt (blt f ds) μ
  | .meth m o es, ρ, μ => (ev G o ρ μ).bind fun x μ => if mthOk m x then (evs G es ρ μ).bind fun ds μ => opt (meth m x ds) μ else .bad
  | .comp elt t k its none, ρ, μ => (evs G its ρ μ).bind fun ds μ => match iterD k ds with
    | some xs => (compLoop (fun x μ => match bindT (wipeE ρ t.slots) t x with
        | some ρ' => (ev G elt ρ' μ).bind fun y μ => .ok (some y) μ
        | none => .bad) xs [] μ).bind fun ys μ => .ok (.lst ys) μ
    | none => .bad
  | .comp elt t k its (some c), ρ, μ => (evs G its ρ μ).bind fun ds μ => match iterD k ds with
    | some xs => (compLoop (fun x μ => match bindT (wipeE ρ t.slots) t x with
        | some ρ' => (testOf (ev G c ρ' μ)).bind fun b μ => if b then (ev G elt ρ' μ).bind fun y μ => .ok (some y) μ else .ok none μ
        | none => .bad) xs [] μ).bind fun ys μ => .ok (.lst ys) μ
    | none => .bad
def evs (G : GT) : Exs → Env → Store → Out (List D)
  | .nil, _, μ => .ok [] μ
  | .cons e es, ρ, μ => (ev G e ρ μ).bind fun d μ => (evs G es ρ μ).bind fun ds μ => .ok (d :: ds) μ
end

/-! ### statements -/
inductive Fl where
  | nx (ρ : Env) (μ : Store) | ret (d : D) (μ : Store) | brk (ρ : Env) (μ : Store) | cont (ρ : Env) (μ : Store)
  | exc (c : D) (fs : List (Str × D)) (ρ : Env) (μ : Store) | bad
def Fl.of {α : Type} (ρ : Env) (o : Out α) (f : α → Store → Fl) : Fl := match o with
  | .ok a μ => f a μ
  | .exc c fs μ => .exc c fs ρ μ
  | .bad => .bad
def Fl.next (r : Fl) (f : Env → Store → Fl) : Fl := match r with
  | .nx ρ μ => f ρ μ
  | r => r
def Fl.opt (o : Option Env) (μ : Store) : Fl := match o with
  | some ρ => .nx ρ μ
  | none => .bad
/-- a for loop: b its turn -/
def forLoop (t : Tg) (b : Env → Store → Fl) : List D → Env → Store → Fl
  | [], ρ, μ => .nx ρ μ
  | x :: xs, ρ, μ => match bindT ρ t x with
    | some ρ' => match b ρ' μ with
      | .nx ρ μ => forLoop t b xs ρ μ
      | .cont ρ μ => forLoop t b xs ρ μ
      | .brk ρ μ => .nx ρ μ
      | r => r
    | none => .bad
def whileLoop (c : Env → Store → Out Bool) (b : Env → Store → Fl) : Nat → Env → Store → Fl
  | 0, _, _ => .bad
  | n + 1, ρ, μ => Fl.of ρ (c ρ μ) fun k μ => if k then (match b ρ μ with
      | .nx ρ μ => whileLoop c b n ρ μ
      | .cont ρ μ => whileLoop c b n ρ μ
      | .brk ρ μ => .nx ρ μ
      | r => r) else .nx ρ μ
mutual
def exS (G : GT) (fuel : Nat) : Sm → Env → Store → Fl
  | .expr e, ρ, μ => Fl.of ρ (ev G e ρ μ) fun _ μ => .nx ρ μ
  | .asg t e, ρ, μ => Fl.of ρ (ev G e ρ μ) fun d μ => Fl.opt (bindT ρ t d) μ
  | .own i e, ρ, μ => Fl.of ρ (ev G e ρ μ) fun d μ => match d with
    | .lst xs => if i < ρ.length then .nx (ρ.set i (.own xs)) μ else .bad
    | _ => .bad
  | .app i e, ρ, μ => match ρ[i]? with
    | some (.own xs) => Fl.of ρ (ev G e ρ μ) fun d μ => if xs.length < LINE then .nx (ρ.set i (.own (xs ++ [d]))) μ else .bad
    | _ => .bad
  | .seti i k e, ρ, μ => match ρ[i]? with
    | some (.own xs) => Fl.of ρ (ev G e ρ μ) fun d μ => Fl.of ρ (ev G k ρ μ) fun y μ => match y with
      | .int j => match ixN xs.length j with
        | some n => .nx (ρ.set i (.own (xs.set n d))) μ
        | none => .bad
      | _ => .bad
    | _ => .bad
  | .setl o k e, ρ, μ => Fl.of ρ (ev G e ρ μ) fun d μ => Fl.of ρ (ev G o ρ μ) fun x μ => Fl.of ρ (ev G k ρ μ) fun y μ => match x, y with
    | .loc l, .int j => match μ[l]? with
      | some (.lst xs) => match ixN xs.length j with
        | some n => .nx ρ (μ.set l (.lst (xs.set n d)))
        | none => .bad
      | _ => .bad
    | _, _ => .bad
  | .par is es, ρ, μ => Fl.of ρ (evs G es ρ μ) fun ds μ => Fl.opt (putMix ρ is ds) μ
  | .ret e, ρ, μ => Fl.of ρ (ev G e ρ μ) fun d μ => .ret d μ
  | .retn, _, μ => .ret .non μ
  | .ite c a b, ρ, μ => Fl.of ρ (testOf (ev G c ρ μ)) fun k μ => if k then exSs G fuel a ρ μ else exSs G fuel b ρ μ
  | .for_ t k its body, ρ, μ => Fl.of ρ (evs G its ρ μ) fun ds μ => match iterD k ds with
    | some xs => forLoop t (exSs G fuel body) xs ρ μ
    | none => .bad
  | .while_ c body, ρ, μ => whileLoop (fun ρ μ => testOf (ev G c ρ μ)) (exSs G fuel body) fuel ρ μ
  | .raise_ _ _, _, _ => .bad
  | .rais c, ρ, μ => .exc (.glob c) [] ρ μ
  | .try_ body c z, ρ, μ => match exSs G fuel body ρ μ with
    | .exc (.glob x) _ _ μ => if x = c then .ret (.str z) μ else .bad
    | .exc _ _ _ _ => .bad
    | r => r
  | .brk, ρ, μ => .brk ρ μ
  | .cont, ρ, μ => .cont ρ μ
  | .pass, ρ, μ => .nx ρ μ
  | .fre i, ρ, μ => match ρ[i]? with
    | some (.own xs) => .nx (ρ.set i (.val (.lst xs))) μ
    | _ => .bad
def exSs (G : GT) (fuel : Nat) : Sms → Env → Store → Fl
  | .nil, ρ, μ => .nx ρ μ
  | .cons s ss, ρ, μ => (exS G fuel s ρ μ).next fun ρ μ => exSs G fuel ss ρ μ
end
/-- a function's call, given what its callees do -/
def runF (G : GT) (fuel : Nat) (f : Fn) (ds : List D) (μ : Store) : Out D :=
  if ds.length = f.ps then match exSs G fuel f.body (ds.map Slot.val ++ List.replicate (f.n - f.ps) Slot.no) μ with
    | .ret d μ => .ok d μ
    | .nx _ μ => .ok .non μ
    | .exc c fs _ μ => .exc c fs μ
    | _ => .bad
  else .bad
/-- calls, by the depth that is left -/
def callD (con : Str → Option D) (fn : Str → Option Fn) (fuel : Nat) : Nat → Str → List D → Store → Out D
  | 0, _, _, _ => .bad
  | d + 1, f, ds, μ => match fn f with
    | some b => runF ⟨con, callD con fn fuel d⟩ fuel b ds μ
    | none => .bad
end LD

set_option Elab.async false
set_option linter.all false
set_option maxRecDepth 100000
set_option maxHeartbeats 1000000
/-! LD2: how values, the store, the environment stand in the abstract heap. -/
namespace LD
open PySem PySem.Spec PyProof.Rows L2

theorem line_eq : (LINE : Nat) = sizeLine := by rw [sizeLine_eq]; rfl

/-- a tuple: tracked with its object, or written; no dict of its own -/
def TupOk (K : PySem.W.Frag) (H : Hp) (a : Addr) (vs : List V) : Prop :=
  (∃ o : Obj, H a = some (.frz o (.tup vs)) ∧ o.dict = none) ∨
    ∃ (o : Obj) (its : Array Value) (n : Nat), K.lookup a = some o ∧ o.cls = .type "tuple" ∧ o.dict = none ∧ o.data = .seq its n ∧ its.size ≤ sizeLine ∧ Vals vs its.toList
theorem TupOk.seq {K : PySem.W.Frag} {H : Hp} {a : Addr} {vs : List V} (h : TupOk K H a vs) : SqT K H a vs := by
  rcases h with ⟨o, h, _⟩ | ⟨o, its, n, h1, h2, _, h3, h4, h5⟩
  · exact .inl (.inr ⟨o, h⟩)
  · exact .inr ⟨o, its, n, h1, h2, h3, h4, h5⟩
theorem TupOk.mono {K : PySem.W.Frag} {Γ Γ' : Hp} {a : Addr} {xs : List V} (e : Same Γ Γ') (h : TupOk K Γ a xs) : TupOk K Γ' a xs := by
  rcases h with ⟨o, h, hd⟩ | h
  · exact .inl ⟨o, e _ _ h, hd⟩
  · exact .inr h
section
variable (K : PySem.W.Frag) (ga : Str → Addr) (ms : List Addr) (Γ : Hp)
mutual
/-- v stands for the value d: what is not shared stands in Γ, or is written -/
def Rep : D → V → Prop
  | .non, v => v = .non
  | .bl b, v => v = .bl b
  | .int i, v => v = .int i
  | .str s, v => v = .str s ∧ s.length ≤ sizeLine
  | .tup xs, v => ∃ a vs, v = .ref a ∧ TupOk K Γ a vs ∧ xs.length ≤ sizeLine ∧ Reps xs vs
  | .lst xs, v => ∃ a vs, v = .ref a ∧ Γ a = some (.lst vs) ∧ xs.length ≤ sizeLine ∧ Reps xs vs
  | .dct kvs, v => ∃ a ks, v = .ref a ∧ Γ a = some (.dK ks) ∧ RepKV kvs ks
  | .ins _ _, _ => False
  | .loc l, v => ∃ a, v = .ref a ∧ ms[l]? = some a
  | .ty n, v => v = .ty n
  | .glob x, v => v = .ref (ga x)
  | .scr ns, v => ∃ a, v = .ref a ∧ SqL K Γ a (ns.map V.int) ∧ ns.length ≤ sizeLine
def Reps : List D → List V → Prop
  | [], vs => vs = []
  | x :: xs, vs => ∃ v r, vs = v :: r ∧ Rep x v ∧ Reps xs r
def RepKV : List (D × D) → List (Key × V) → Prop
  | [], ks => ks = []
  | (k, x) :: kvs, ks => ∃ q v r, ks = (q, v) :: r ∧ keyD k = some q ∧ Rep x v ∧ RepKV kvs r
end
end

section
variable {K : PySem.W.Frag} {ga : Str → Addr} {ms ms' : List Addr} {Γ Γ' : Hp}
theorem pre_get {l : Nat} {a : Addr} (p : ms <+: ms') (h : ms[l]? = some a) : ms'[l]? = some a := by
  obtain ⟨t, rfl⟩ := p
  have hl : l < ms.length := (List.getElem?_eq_some_iff.mp h).1
  rw [List.getElem?_append_left hl]
  exact h
mutual
theorem Rep.mono (e : Same Γ Γ') (p : ms <+: ms') : ∀ (d : D) (v : V), Rep K ga ms Γ d v → Rep K ga ms' Γ' d v
  | .non, _, h => by unfold Rep at h ⊢; exact h
  | .bl _, _, h => by unfold Rep at h ⊢; exact h
  | .int _, _, h => by unfold Rep at h ⊢; exact h
  | .str _, _, h => by unfold Rep at h ⊢; exact h
  | .tup xs, v, h => by
    unfold Rep at h ⊢
    obtain ⟨a, vs, h1, h2, h3, h4⟩ := h
    exact ⟨a, vs, h1, h2.mono e, h3, Reps.mono e p xs vs h4⟩
  | .lst xs, v, h => by
    unfold Rep at h ⊢
    obtain ⟨a, vs, h1, h2, h3, h4⟩ := h
    exact ⟨a, vs, h1, e _ _ h2, h3, Reps.mono e p xs vs h4⟩
  | .dct kvs, v, h => by
    unfold Rep at h ⊢
    obtain ⟨a, ks, h1, h2, h3⟩ := h
    exact ⟨a, ks, h1, e _ _ h2, RepKV.mono e p kvs ks h3⟩
  | .ins _ _, _, h => by unfold Rep at h; exact h.elim
  | .loc l, v, h => by
    unfold Rep at h ⊢
    obtain ⟨a, h1, h2⟩ := h
    exact ⟨a, h1, pre_get p h2⟩
  | .ty _, _, h => by unfold Rep at h ⊢; exact h
  | .glob _, _, h => by unfold Rep at h ⊢; exact h
  | .scr ns, v, h => by
    unfold Rep at h ⊢
    obtain ⟨a, h1, h2, h3⟩ := h
    exact ⟨a, h1, e.seq h2, h3⟩
theorem Reps.mono (e : Same Γ Γ') (p : ms <+: ms') : ∀ (ds : List D) (vs : List V), Reps K ga ms Γ ds vs → Reps K ga ms' Γ' ds vs
  | [], _, h => by unfold Reps at h ⊢; exact h
  | x :: xs, vs, h => by
    unfold Reps at h ⊢
    obtain ⟨v, r, h1, h2, h3⟩ := h
    exact ⟨v, r, h1, Rep.mono e p x v h2, Reps.mono e p xs r h3⟩
theorem RepKV.mono (e : Same Γ Γ') (p : ms <+: ms') : ∀ (kvs : List (D × D)) (ks : List (Key × V)), RepKV K ga ms Γ kvs ks → RepKV K ga ms' Γ' kvs ks
  | [], _, h => by unfold RepKV at h ⊢; exact h
  | (k, x) :: kvs, ks, h => by
    unfold RepKV at h ⊢
    obtain ⟨q, v, r, h1, h2, h3, h4⟩ := h
    exact ⟨q, v, r, h1, h2, Rep.mono e p x v h3, RepKV.mono e p kvs r h4⟩
end
theorem Reps.length : ∀ {ds : List D} {vs : List V}, Reps K ga ms Γ ds vs → ds.length = vs.length
  | [], vs, h => by unfold Reps at h; subst h; rfl
  | x :: xs, vs, h => by
    unfold Reps at h
    obtain ⟨v, r, rfl, _, h3⟩ := h
    rw [List.length_cons, List.length_cons, h3.length]
theorem Reps.get : ∀ {ds : List D} {vs : List V} {i : Nat} {d : D}, Reps K ga ms Γ ds vs → ds[i]? = some d → ∃ v, vs[i]? = some v ∧ Rep K ga ms Γ d v
  | [], _, _, _, _, e => by simp at e
  | x :: xs, vs, 0, d, h, e => by
    unfold Reps at h
    obtain ⟨v, r, rfl, h2, _⟩ := h
    have e' : x = d := by simpa using e
    subst e'
    exact ⟨v, rfl, h2⟩
  | x :: xs, vs, i + 1, d, h, e => by
    unfold Reps at h
    obtain ⟨v, r, rfl, _, h3⟩ := h
    obtain ⟨u, h4, h5⟩ := h3.get (i := i) (d := d) (by simpa using e)
    exact ⟨u, by simpa using h4, h5⟩
theorem Reps.append : ∀ {as bs : List D} {vs us : List V}, Reps K ga ms Γ as vs → Reps K ga ms Γ bs us → Reps K ga ms Γ (as ++ bs) (vs ++ us)
  | [], bs, vs, us, h, h' => by unfold Reps at h; subst h; exact h'
  | x :: xs, bs, vs, us, h, h' => by
    unfold Reps at h
    obtain ⟨v, r, rfl, h2, h3⟩ := h
    show Reps K ga ms Γ (x :: (xs ++ bs)) (v :: (r ++ us))
    unfold Reps
    exact ⟨v, r ++ us, rfl, h2, h3.append h'⟩
theorem Reps.nil : Reps K ga ms Γ [] [] := by unfold Reps; rfl
theorem Reps.cons {d : D} {ds : List D} {v : V} {vs : List V} (h : Rep K ga ms Γ d v) (r : Reps K ga ms Γ ds vs) : Reps K ga ms Γ (d :: ds) (v :: vs) := by
  unfold Reps
  exact ⟨v, vs, rfl, h, r⟩
theorem Reps.set {d : D} {v : V} (h : Rep K ga ms Γ d v) : ∀ {ds : List D} {vs : List V} (i : Nat), Reps K ga ms Γ ds vs → Reps K ga ms Γ (ds.set i d) (vs.set i v)
  | [], vs, i, r => by unfold Reps at r; subst r; cases i <;> exact Reps.nil
  | x :: xs, vs, 0, r => by
    unfold Reps at r
    obtain ⟨w, s, rfl, _, h3⟩ := r
    exact Reps.cons h h3
  | x :: xs, vs, i + 1, r => by
    unfold Reps at r
    obtain ⟨w, s, rfl, h2, h3⟩ := r
    exact Reps.cons h2 (h3.set h i)
theorem Reps.cons_iff {d : D} {ds : List D} {vs : List V} (h : Reps K ga ms Γ (d :: ds) vs) : ∃ v r, vs = v :: r ∧ Rep K ga ms Γ d v ∧ Reps K ga ms Γ ds r := by
  unfold Reps at h
  exact h
theorem Reps.nil_iff {vs : List V} (h : Reps K ga ms Γ [] vs) : vs = [] := by
  unfold Reps at h
  exact h
theorem Reps.ints : ∀ ns : List Int, Reps K ga ms Γ (ns.map D.int) (ns.map V.int)
  | [] => Reps.nil
  | n :: ns => Reps.cons (by unfold Rep; rfl) (Reps.ints ns)
end

/-- a store object's abstract object -/
def SRep (K : PySem.W.Frag) (ga : Str → Addr) (ms : List Addr) (Γ : Hp) (H : Hp) (a : Addr) : SO → Prop
  | .lst xs => ∃ vs, H a = some (.lst vs) ∧ xs.length ≤ sizeLine ∧ Reps K ga ms Γ xs vs
  | .ins _ _ => False
  | .dead => True

/-- the store and the shared part stand in H -/
structure SI (K : PySem.W.Frag) (ga : Str → Addr) (ms : List Addr) (Γ : Hp) (μ : Store) (H : Hp) : Prop where
  sub : Same Γ H
  len : ms.length = μ.length
  st : ∀ (l : Nat) (o : SO) (a : Addr), μ[l]? = some o → ms[l]? = some a → SRep K ga ms Γ H a o
  fr : ∀ a ∈ ms, Γ a = none
  there : ∀ a ∈ ms, ∃ o, H a = some o
  nd : ms.Nodup

/-- from (ms, Γ, H) to (ms', Γ', μ', H'): only store objects changed; what is new in the shared part or the store is a new object -/
structure After (K : PySem.W.Frag) (ga : Str → Addr) (ms : List Addr) (Γ : Hp) (H : Hp) (ms' : List Addr) (Γ' : Hp) (μ' : Store) (H' : Hp) : Prop where
  si : SI K ga ms' Γ' μ' H'
  le : Same Γ Γ'
  pre : ms <+: ms'
  keep : ∀ a o, H a = some o → a ∉ ms → H' a = some o
  newm : ∀ a ∈ ms', a ∈ ms ∨ H a = none
  newg : ∀ a o, Γ' a = some o → Γ a = some o ∨ H a = none

section
variable {K : PySem.W.Frag} {ga : Str → Addr} {ms ms1 ms2 : List Addr} {Γ Γ1 Γ2 : Hp} {μ μ1 μ2 : Store} {H H1 H2 : Hp}
theorem After.refl (h : SI K ga ms Γ μ H) : After K ga ms Γ H ms Γ μ H := ⟨h, fun _ _ e => e, List.prefix_rfl, fun _ _ e _ => e, fun _ h => .inl h, fun _ _ e => .inl e⟩
theorem After.none_back (A : After K ga ms Γ H ms1 Γ1 μ1 H1) {a : Addr} (h : H1 a = none) (hm : a ∉ ms) : H a = none := by
  cases e : H a with
  | none => rfl
  | some o => rw [A.keep a o e hm] at h; cases h
theorem After.trans (A : After K ga ms Γ H ms1 Γ1 μ1 H1) (B : After K ga ms1 Γ1 H1 ms2 Γ2 μ2 H2) : After K ga ms Γ H ms2 Γ2 μ2 H2 where
  si := B.si
  le := A.le.trans B.le
  pre := A.pre.trans B.pre
  keep := fun a o e hm => B.keep a o (A.keep a o e hm) fun h1 => by
    rcases A.newm a h1 with h | h
    · exact hm h
    · rw [e] at h; cases h
  newm := fun a h2 => by
    rcases B.newm a h2 with h | h
    · exact A.newm a h
    · by_cases hm : a ∈ ms
      · exact .inl hm
      · exact .inr (A.none_back h hm)
  newg := fun a o e => by
    rcases B.newg a o e with h | h
    · exact A.newg a o h
    · by_cases hm : a ∈ ms
      · have hm2 : a ∈ ms2 := (A.pre.trans B.pre).subset hm
        rw [B.si.fr a hm2] at e; cases e
      · exact .inr (A.none_back h hm)
/-- a new shared object -/
theorem After.lay (h : SI K ga ms Γ μ H) {p : Addr} {o : HO} (hp : H p = none) : After K ga ms Γ H ms (upd Γ p o) μ (upd H p o) := by
  have hΓ : Γ p = none := by
    cases e : Γ p with
    | none => rfl
    | some u => rw [h.sub _ _ e] at hp; cases hp
  have hpm : p ∉ ms := fun hm => by
    obtain ⟨u, e⟩ := h.there p hm
    rw [hp] at e; cases e
  have le : Same Γ (upd Γ p o) := fun a u e => by rw [upd_ne (ne_of_none e hΓ)]; exact e
  have keep : ∀ a u, H a = some u → upd H p o a = some u := fun a u e => by rw [upd_ne (ne_of_none e hp)]; exact e
  refine ⟨⟨fun a u e => ?_, h.len, fun l so a e1 e2 => ?_, fun a ha => ?_, fun a ha => ?_, h.nd⟩, le, List.prefix_rfl, fun a u e _ => keep a u e, fun _ h => .inl h, fun a u e => ?_⟩
  · by_cases q : a = p
    · subst q; rw [upd_same] at e ⊢; exact e
    · rw [upd_ne q] at e ⊢; exact h.sub _ _ e
  · have z := h.st l so a e1 e2
    cases so with
    | lst xs =>
      obtain ⟨vs, z1, z2, z3⟩ := z
      exact ⟨vs, keep _ _ z1, z2, z3.mono le List.prefix_rfl⟩
    | ins c fs => exact z
    | dead => exact z
  · rw [upd_ne (fun q : a = p => hpm (by rw [← q]; exact ha))]; exact h.fr a ha
  · obtain ⟨u, e⟩ := h.there a ha
    exact ⟨u, keep a u e⟩
  · by_cases q : a = p
    · subst q; exact .inr hp
    · rw [upd_ne q] at e; exact .inl e
/-- an object of the abstract heap that nobody shares (a local's own list): laid, not shared -/
theorem After.layOwn (h : SI K ga ms Γ μ H) {p : Addr} {o : HO} (hp : H p = none) : After K ga ms Γ H ms Γ μ (upd H p o) := by
  have keep : ∀ a u, H a = some u → upd H p o a = some u := fun a u e => by rw [upd_ne (ne_of_none e hp)]; exact e
  refine ⟨⟨fun a u e => keep a u (h.sub _ _ e), h.len, fun l so a e1 e2 => ?_, h.fr, fun a ha => ?_, h.nd⟩, fun _ _ e => e, List.prefix_rfl, fun a u e _ => keep a u e, fun _ h => .inl h, fun a u e => .inl e⟩
  · have z := h.st l so a e1 e2
    cases so with
    | lst xs =>
      obtain ⟨vs, z1, z2, z3⟩ := z
      exact ⟨vs, keep _ _ z1, z2, z3⟩
    | ins c fs => exact z
    | dead => exact z
  · obtain ⟨u, e⟩ := h.there a ha
    exact ⟨u, keep a u e⟩
/-- .. an own list is given away: it is shared from now on -/
theorem SI.share (h : SI K ga ms Γ μ H) {p : Addr} {o : HO} (hp : H p = some o) (hΓ : Γ p = none) (hm : p ∉ ms) : SI K ga ms (upd Γ p o) μ H := by
  have le : Same Γ (upd Γ p o) := fun a u e => by rw [upd_ne (ne_of_none e hΓ)]; exact e
  refine ⟨fun a u e => ?_, h.len, fun l so a e1 e2 => ?_, fun a ha => ?_, h.there, h.nd⟩
  · by_cases q : a = p
    · subst q; rw [upd_same] at e; rw [hp]; exact e
    · rw [upd_ne q] at e; exact h.sub _ _ e
  · have z := h.st l so a e1 e2
    cases so with
    | lst xs =>
      obtain ⟨vs, z1, z2, z3⟩ := z
      exact ⟨vs, z1, z2, z3.mono le List.prefix_rfl⟩
    | ins c fs => exact z
    | dead => exact z
  · rw [upd_ne (fun q : a = p => hm (by rw [← q]; exact ha))]; exact h.fr a ha
/-- .. an own list becomes an object of the store -/
theorem SI.store (h : SI K ga ms Γ μ H) {p : Addr} {vs : List V} {xs : List D} (hp : H p = some (.lst vs)) (hΓ : Γ p = none) (hm : p ∉ ms) (hl : xs.length ≤ sizeLine) (r : Reps K ga ms Γ xs vs) : SI K ga (ms ++ [p]) Γ (μ ++ [.lst xs]) H := by
  have pre : ms <+: ms ++ [p] := List.prefix_append _ _
  refine ⟨h.sub, by rw [List.length_append, List.length_append, h.len]; rfl, fun l so a e1 e2 => ?_, fun a ha => ?_, fun a ha => ?_, ?_⟩
  · by_cases q : l < ms.length
    · rw [List.getElem?_append_left (by rw [← h.len]; exact q)] at e1
      rw [List.getElem?_append_left q] at e2
      have z := h.st l so a e1 e2
      cases so with
      | lst ys =>
        obtain ⟨ws, z1, z2, z3⟩ := z
        exact ⟨ws, z1, z2, z3.mono (fun _ _ e => e) pre⟩
      | ins c fs => exact z
      | dead => exact z
    · have e2' := e2
      rw [List.getElem?_append_right (Nat.le_of_not_lt q)] at e2
      rw [List.getElem?_append_right (by rw [← h.len]; exact Nat.le_of_not_lt q)] at e1
      have q1 : l - ms.length = 0 := by
        cases e : l - ms.length with
        | zero => rfl
        | succ n => rw [e] at e2; simp at e2
      rw [q1] at e2
      rw [← h.len, q1] at e1
      have e2 : p = a := by simpa using e2
      have e1 : SO.lst xs = so := by simpa using e1
      subst e2 e1
      exact ⟨vs, hp, hl, r.mono (fun _ _ e => e) pre⟩
  · rcases List.mem_append.mp ha with ha | ha
    · exact h.fr a ha
    · have e : a = p := by simpa using ha
      rw [e]; exact hΓ
  · rcases List.mem_append.mp ha with ha | ha
    · exact h.there a ha
    · have e : a = p := by simpa using ha
      rw [e]; exact ⟨_, hp⟩
  · rw [List.nodup_append]
    refine ⟨h.nd, by simp, fun a ha b hb e => ?_⟩
    have q : b = p := by simpa using hb
    subst e
    exact hm (q ▸ ha)
/-- a store list is changed -/
theorem After.put (h : SI K ga ms Γ μ H) {l : Nat} {p : Addr} {vs : List V} {xs : List D} {so : SO} (hl : μ[l]? = some so) (hp : ms[l]? = some p) (hn : xs.length ≤ sizeLine) (r : Reps K ga ms Γ xs vs) :
    After K ga ms Γ H ms Γ (μ.set l (.lst xs)) (upd H p (.lst vs)) := by
  have hpm : p ∈ ms := List.mem_of_getElem? hp
  have ne : ∀ a u, Γ a = some u → a ≠ p := fun a u e q => by subst q; rw [h.fr _ hpm] at e; cases e
  refine ⟨⟨fun a u e => by rw [upd_ne (ne a u e)]; exact h.sub _ _ e, by rw [List.length_set]; exact h.len, fun j so' a e1 e2 => ?_, h.fr, fun a ha => ?_, h.nd⟩, fun _ _ e => e, List.prefix_rfl, fun a u e hm => by rw [upd_ne (fun q : a = p => hm (by rw [q]; exact hpm))]; exact e, fun _ h => .inl h, fun a u e => .inl e⟩
  · by_cases q : j = l
    · subst q
      rw [hp] at e2
      have e2 : p = a := Option.some.inj e2
      subst e2
      have hj : j < μ.length := (List.getElem?_eq_some_iff.mp hl).1
      rw [List.getElem?_set_self hj] at e1
      have e1 : SO.lst xs = so' := Option.some.inj e1
      subst e1
      exact ⟨vs, upd_same, hn, r⟩
    · rw [List.getElem?_set_ne (Ne.symm q)] at e1
      have z := h.st j so' a e1 e2
      have na : a ≠ p := fun e => by
        subst e
        exact q ((List.getElem?_inj (List.getElem?_eq_some_iff.mp e2).1 h.nd).mp (e2.trans hp.symm))
      cases so' with
      | lst ys =>
        obtain ⟨ws, z1, z2, z3⟩ := z
        exact ⟨ws, by rw [upd_ne na]; exact z1, z2, z3⟩
      | ins c fs => exact z
      | dead => exact z
  · by_cases q : a = p
    · subst q; exact ⟨_, upd_same⟩
    · obtain ⟨u, e⟩ := h.there a ha
      exact ⟨u, by rw [upd_ne q]; exact e⟩
end

/-! ### the environment -/
def SlotRep (K : PySem.W.Frag) (ga : Str → Addr) (ms : List Addr) (Γ : Hp) (H : Hp) : Slot → Option V → Prop
  | .no, _ => True
  | .val d, ov => ∃ v, ov = some v ∧ Rep K ga ms Γ d v
  | .own xs, ov => ∃ a vs, ov = some (.ref a) ∧ H a = some (.lst vs) ∧ Γ a = none ∧ a ∉ ms ∧ xs.length ≤ sizeLine ∧ Reps K ga ms Γ xs vs
structure ER (K : PySem.W.Frag) (ga : Str → Addr) (ms : List Addr) (Γ : Hp) (H : Hp) (ρ : Env) (σ : L2.St) : Prop where
  len : ρ.length = σ.length
  at_ : ∀ (i : Nat) (s : Slot) (ov : Option V), ρ[i]? = some s → σ[i]? = some ov → SlotRep K ga ms Γ H s ov
  sep : ∀ (i j : Nat) (xs ys : List D) (a b : Addr), i ≠ j → ρ[i]? = some (.own xs) → ρ[j]? = some (.own ys) → σ[i]? = some (some (.ref a)) → σ[j]? = some (some (.ref b)) → a ≠ b
section
variable {K : PySem.W.Frag} {ga : Str → Addr} {ms ms1 ms2 : List Addr} {Γ Γ1 Γ2 : Hp} {μ μ1 μ2 : Store} {H H1 H2 : Hp} {ρ : Env} {σ : L2.St}
theorem ER.mono (R : ER K ga ms Γ H ρ σ) (A : After K ga ms Γ H ms1 Γ1 μ1 H1) : ER K ga ms1 Γ1 H1 ρ σ := by
  refine ⟨R.len, fun i s ov e1 e2 => ?_, R.sep⟩
  have z := R.at_ i s ov e1 e2
  cases s with
  | no => trivial
  | val d =>
    obtain ⟨v, z1, z2⟩ := z
    exact ⟨v, z1, z2.mono A.le A.pre⟩
  | own xs =>
    obtain ⟨a, vs, z1, z2, z3, z4, z5, z6⟩ := z
    refine ⟨a, vs, z1, A.keep _ _ z2 z4, ?_, fun hm => ?_, z5, z6.mono A.le A.pre⟩
    · cases e : Γ1 a with
      | none => rfl
      | some o =>
        rcases A.newg a o e with q | q
        · rw [z3] at q; cases q
        · rw [z2] at q; cases q
    · rcases A.newm a hm with q | q
      · exact z4 q
      · rw [z2] at q; cases q
theorem ER.get (R : ER K ga ms Γ H ρ σ) {i : Nat} {d : D} (h : ρ.get i = some d) : ∃ v, σ[i]? = some (some v) ∧ Rep K ga ms Γ d v := by
  unfold Env.get at h
  cases e : ρ[i]? with
  | none => rw [e] at h; cases h
  | some s =>
    rw [e] at h
    cases s with
    | val d' =>
      have h : d' = d := Option.some.inj h
      subst h
      have hi : i < σ.length := by rw [← R.len]; exact (List.getElem?_eq_some_iff.mp e).1
      obtain ⟨v, z1, z2⟩ := R.at_ i _ _ e (List.getElem?_eq_getElem hi)
      exact ⟨v, by rw [List.getElem?_eq_getElem hi, z1], z2⟩
    | no => cases h
    | own xs => cases h
theorem ER.own (R : ER K ga ms Γ H ρ σ) {i : Nat} {xs : List D} (e : ρ[i]? = some (.own xs)) :
    ∃ a vs, σ[i]? = some (some (.ref a)) ∧ H a = some (.lst vs) ∧ Γ a = none ∧ a ∉ ms ∧ xs.length ≤ sizeLine ∧ Reps K ga ms Γ xs vs := by
  have hi : i < σ.length := by rw [← R.len]; exact (List.getElem?_eq_some_iff.mp e).1
  obtain ⟨a, vs, z1, z⟩ := R.at_ i _ _ e (List.getElem?_eq_getElem hi)
  exact ⟨a, vs, by rw [List.getElem?_eq_getElem hi, z1], z⟩
/-- a value is stored at a slot -/
theorem ER.put (R : ER K ga ms Γ H ρ σ) {i : Nat} {d : D} {v : V} (h : Rep K ga ms Γ d v) : ER K ga ms Γ H (ρ.set i (.val d)) (σ.set i (some v)) := by
  refine ⟨by rw [List.length_set, List.length_set]; exact R.len, fun j s ov e1 e2 => ?_, fun j k xs ys a b ne e1 e2 e3 e4 => ?_⟩
  · by_cases q : i = j
    · subst q
      have hi : i < ρ.length := by have := (List.getElem?_eq_some_iff.mp e1).1; rwa [List.length_set] at this
      have hi2 : i < σ.length := by rw [← R.len]; exact hi
      rw [List.getElem?_set_self hi] at e1
      rw [List.getElem?_set_self hi2] at e2
      cases e1; cases e2
      exact ⟨v, rfl, h⟩
    · rw [List.getElem?_set_ne q] at e1 e2
      exact R.at_ j s ov e1 e2
  · have hj : i ≠ j := fun q => by
      subst q
      have hi : i < ρ.length := by have := (List.getElem?_eq_some_iff.mp e1).1; rwa [List.length_set] at this
      rw [List.getElem?_set_self hi] at e1; cases e1
    have hk : i ≠ k := fun q => by
      subst q
      have hi : i < ρ.length := by have := (List.getElem?_eq_some_iff.mp e2).1; rwa [List.length_set] at this
      rw [List.getElem?_set_self hi] at e2; cases e2
    rw [List.getElem?_set_ne hj] at e1 e3
    rw [List.getElem?_set_ne hk] at e2 e4
    exact R.sep j k xs ys a b ne e1 e2 e3 e4
/-- an own list is stored at a slot: it stands at an address that no own slot has -/
theorem ER.putOwn (R : ER K ga ms Γ H ρ σ) {i : Nat} {xs : List D} {p : Addr} {vs : List V} (h1 : H p = some (.lst vs)) (h2 : Γ p = none) (h3 : p ∉ ms) (h4 : xs.length ≤ sizeLine) (h5 : Reps K ga ms Γ xs vs)
    (hd : ∀ (j : Nat) (ys : List D) (b : Addr), j ≠ i → ρ[j]? = some (.own ys) → σ[j]? = some (some (.ref b)) → b ≠ p) : ER K ga ms Γ H (ρ.set i (.own xs)) (σ.set i (some (.ref p))) := by
  refine ⟨by rw [List.length_set, List.length_set]; exact R.len, fun j s ov e1 e2 => ?_, fun j k xs' ys a b ne e1 e2 e3 e4 => ?_⟩
  · by_cases q : i = j
    · subst q
      have hi : i < ρ.length := by have := (List.getElem?_eq_some_iff.mp e1).1; rwa [List.length_set] at this
      have hi2 : i < σ.length := by rw [← R.len]; exact hi
      rw [List.getElem?_set_self hi] at e1
      rw [List.getElem?_set_self hi2] at e2
      cases e1; cases e2
      exact ⟨p, vs, rfl, h1, h2, h3, h4, h5⟩
    · rw [List.getElem?_set_ne q] at e1 e2
      exact R.at_ j s ov e1 e2
  · by_cases hj : i = j
    · subst hj
      have hi : i < ρ.length := by have := (List.getElem?_eq_some_iff.mp e1).1; rwa [List.length_set] at this
      have hi2 : i < σ.length := by rw [← R.len]; exact hi
      rw [List.getElem?_set_self hi2] at e3
      rw [List.getElem?_set_ne ne] at e2 e4
      have e3 : p = a := by simpa using e3
      subst e3
      exact (hd k ys b ne.symm e2 e4).symm
    · rw [List.getElem?_set_ne hj] at e1 e3
      by_cases hk : i = k
      · subst hk
        have hi : i < ρ.length := by have := (List.getElem?_eq_some_iff.mp e2).1; rwa [List.length_set] at this
        have hi2 : i < σ.length := by rw [← R.len]; exact hi
        rw [List.getElem?_set_self hi2] at e4
        have e4 : p = b := by simpa using e4
        subst e4
        exact hd j xs' a (Ne.symm hj) e1 e3
      · rw [List.getElem?_set_ne hk] at e2 e4
        exact R.sep j k xs' ys a b ne e1 e2 e3 e4
end
end LD

set_option Elab.async false
set_option linter.all false
set_option maxRecDepth 100000
set_option maxHeartbeats 1000000
/-! LD3: rules of the hand layer once more, with a new tuple's object told (it has no dict of its own). -/
namespace LD
open PySem PySem.Spec PyProof.Rows L2 HT
section
variable {X : Cx} {es : List Expr} {t : TA} {pos : Pos}
/-- a new tuple at p, with its object -/
def NewT (H : Hp) (vs : List V) (Q : VK) : Prop := ∀ (p : Addr) (o : Obj), H p = none → o.dict = none → Q (.ref p) (upd H p (.frz o (.tup vs)))
def tTupF (t : TA) : TE := fun σ H Q => t σ H fun xs H1 => xs.length ≤ sizeLine ∧ NewT H1 xs Q
theorem pe_tupF {x1} (h : PA X es t) : PE X (.Tuple es x1 pos) (tTupF t) := by
  refine ⟨fun pins s σ H Q I hq => ?_⟩
  refine wpAny_Tuple_spliced (thn (h.run pos pins s σ H _ I hq) fun us s1 ⟨xs, H1, I1, r, z, q⟩ => ⟨by rw [← r.length]; exact z, ?_⟩)
  have hf : H1 s1.heap.objs.size = none := I1.hok.fresh (Nat.le_refl _)
  refine ⟨.ref s1.heap.objs.size, upd H1 s1.heap.objs.size (.frz { cls := .type "tuple", data := .seq us.toArray } (.tup xs)), I1.laid (t' := s1.toks) (fun b u e => Heap.get?_push_of_some _ e) (Nat.le_refl _) ?_, rfl, q _ _ hf rfl⟩
  exact ⟨Heap.get?_push_size _ rfl, z, us, r, ⟨_, Heap.get?_push_size _ rfl, rfl, _, rfl⟩⟩
theorem call_tuple_ofF : CallR X (.type "tuple") (fun xs H Q => ∃ p ys, xs = [.ref p] ∧ ((SqL X.K H p ys ∧ NewT H ys Q) ∨ (SqT X.K H p ys ∧ Q (.ref p) H))) := by
  intro pins s σ H xs us Q I r h
  obtain ⟨p, ys, rfl, h⟩ := h
  obtain ⟨u, rfl, rx⟩ := vals1 r
  cases rx
  rcases h with ⟨hq, q⟩ | ⟨hq, q⟩
  · obtain ⟨its, r', pl, hz⟩ := I.list hq
    have hlen := r'.length
    refine call_tuple_list pl.isList (fun h' kp => ?_) (by simp only [List.size_toArray] <;> omega)
    have I1 : Inv X pins σ H { s with heap := h' } := I.kept (t' := s.toks) kp
    have I2 : Inv X pins σ (upd H h'.objs.size (.frz { cls := .type "tuple", data := .seq its.toArray } (.tup ys))) { s with heap := h'.push { cls := .type "tuple", data := .seq its.toArray } } :=
      I1.laid (t' := s.toks) (fun b o e => Heap.get?_push_of_some _ e) (Nat.le_refl _) (show ObjOk X.prog X.w _ _ _ (.frz _ (.tup ys)) from ⟨Heap.get?_push_size _ rfl, hz, its, r', IsTup.new _ _⟩)
    exact ⟨.ref h'.objs.size, _, I2, rfl, q _ _ (I1.hok.fresh (Nat.le_refl _)) rfl⟩
  · obtain ⟨its, r', pl, hz⟩ := I.tuple hq
    exact call_tuple_same pl ⟨.ref p, H, I, rfl, q⟩
def rCatF (K : PySem.W.Frag) : R2 := fun x y H Q => ∃ a b xs ys, x = .ref a ∧ y = .ref b ∧ SqT K H a xs ∧ SqT K H b ys ∧ xs.length + ys.length ≤ sizeLine ∧
  (xs = [] → Q (.ref b) H) ∧ (xs ≠ [] → ys = [] → Q (.ref a) H) ∧ (xs ≠ [] → ys ≠ [] → NewT H (xs ++ ys) Q)
theorem op_catF : OpR X (binaryOp .Add) (rCatF X.K) := by
  intro pins s σ H x y v u Q I rx ry h
  obtain ⟨a, b, xs, ys, rfl, rfl, ha, hb, hz, q0, q1, q2⟩ := h
  by_cases hx : xs = []
  · subst hx
    cases rx
    cases ry
    obtain ⟨its, r1, p1, _⟩ := I.tuple ha
    obtain ⟨its2, r2, p2, _⟩ := I.tuple hb
    cases r1
    exact cat_tup0 p1 p2 ⟨.ref b, H, I, rfl, q0 rfl⟩
  · cases rx
    cases ry
    obtain ⟨its, r1, p1, _⟩ := I.tuple ha
    obtain ⟨its2, r2, p2, _⟩ := I.tuple hb
    refine HT.cat_tup p1 p2 (fun z => hx (r1.nil_iff.mp z)) (fun z => ⟨.ref a, H, I, rfl, q1 hx (r2.nil_iff.mp z)⟩) (fun z => ?_) (by rw [← r1.length, ← r2.length]; exact hz)
    refine ⟨.ref s.heap.objs.size, _, I.laid (t' := s.toks) (o := .frz { cls := .type "tuple", data := .seq (its ++ its2).toArray } (.tup (xs ++ ys))) (fun b ob q => Heap.get?_push_of_some _ q) (Nat.le_refl _) ?_, rfl, q2 hx (fun w => z (r2.nil_iff.mpr w)) _ _ (I.hok.fresh (Nat.le_refl _)) rfl⟩
    exact ⟨Heap.get?_push_size _ rfl, by rw [List.length_append]; exact hz, _, r1.append r2, IsTup.new _ _⟩
def rSlF (K : PySem.W.Frag) : V → Option Int → Option Int → Hp → VK → Prop := fun x lo hi H Q => ∃ a xs, x = .ref a ∧ SqT K H a xs ∧
  (HT.sIx xs.length 0 lo = 0 ∧ HT.sIx xs.length xs.length hi = xs.length → Q (.ref a) H) ∧ (¬ (HT.sIx xs.length 0 lo = 0 ∧ HT.sIx xs.length xs.length hi = xs.length) → NewT H (cutV xs lo hi) Q)
theorem sl_tupF : SlR X (rSlF X.K) := by
  intro pins s σ H x v vl vu lo hi sl Q I rx hs pl pu h
  obtain ⟨a, xs, rfl, hx, q1, q2⟩ := h
  cases rx
  obtain ⟨its, r, ht, hz⟩ := I.tuple hx
  have hlen : its.toArray.size = xs.length := by rw [List.size_toArray]; exact r.length.symm
  refine ⟨"tuple", _, PyProof.Rows.slot_tuple_getitem.lookup, ht.typeIs, ?_⟩
  by_cases hw : HT.sIx xs.length 0 lo = 0 ∧ HT.sIx xs.length xs.length hi = xs.length
  · exact getItem_tuple_whole ht hs pl pu (by rw [hlen]; exact hw) ⟨.ref a, H, I, rfl, q1 hw⟩
  · refine HT.getItem_tuple_cut ht hs pl pu (by rw [hlen]; exact hw) ?_ (by rw [hlen]; exact hz)
    rw [hlen]
    refine ⟨.ref s.heap.objs.size, _, I.laid (t' := s.toks) (o := .frz { cls := .type "tuple", data := .seq (List.take (sIx xs.length xs.length hi - sIx xs.length 0 lo) (List.drop (sIx xs.length 0 lo) its.toArray.toList)).toArray } (.tup (cutV xs lo hi))) (fun b ob q => Heap.get?_push_of_some _ q) (Nat.le_refl _) ?_, rfl, q2 hw _ _ (I.hok.fresh (Nat.le_refl _)) rfl⟩
    exact ⟨Heap.get?_push_size _ rfl, Nat.le_trans (cutV_length xs lo hi) hz, _, (r.drop (HT.sIx xs.length 0 lo)).take (HT.sIx xs.length xs.length hi - HT.sIx xs.length 0 lo), IsTup.new _ _⟩
end
/-! ### methods of a built-in type, the receiver a tuple too -/
section
variable {X : Cx} {o e : Expr} {es : List Expr} {to : TE} {t : TA} {name : Str} {apos cpos : Pos} {T id : String} {r : V → List V → Hp → VK → Prop}
def tyW (K : PySem.W.Frag) (T : String) (x : V) (H : Hp) : Prop := tyV K T x H ∨ (T = "tuple" ∧ ∃ a vs, x = .ref a ∧ TupOk K H a vs)
theorem tyW_is {pins : List (Addr × Obj)} {σ : L2.St} {H : Hp} {s : Shared} {T : String} {x : V} {v : Value} (I : Inv X pins σ H s) (r : RelV x v) (ty : tyW X.K T x H) :
    s.TypeIs v T ∧ ∀ a, v = .ref a → ∃ ob, s.heap.get? a = some ob ∧ ob.dict = none := by
  rcases ty with ty | ⟨rfl, a, vs, rfl, ty⟩
  · exact tyV_is I r ty
  · cases r
    obtain ⟨its, _, pl, _⟩ := I.tuple ty.seq
    refine ⟨pl.typeIs, fun b e => ?_⟩
    cases e
    rcases ty with ⟨ob, h, hd⟩ | ⟨ob, its2, n, h1, h2, hd, _⟩
    · have z : ObjOk X.prog X.w H s.heap a (.frz ob (.tup vs)) := I.hok a _ h
      exact ⟨ob, z.1, hd⟩
    · exact ⟨ob, I.kIn _ _ h1, hd⟩
def tBW (K : PySem.W.Frag) (T : String) (r : V → List V → Hp → VK → Prop) (to : TE) (t : TA) : TE := fun σ H Q => to σ H fun x H1 => tyW K T x H1 ∧ t σ H1 fun xs H2 => r x xs H2 Q
theorem pe_bw (pa : PlainAttrs T) (slot : PySem.Slot T name id) (hty : typeOf (.builtin id) = pure (.type "method_descriptor")) (hm : MtR X id r) (ho : PE X o to) (ha : PA X (e :: es) t)
    (hbase : attributeBase o name X.env (eval o X.env) = eval o X.env)
    (hfew : ((backTo cpos (starEach (e :: es) X.env)).all (fun x => !x.1) && (backToKw cpos (keywordEach [] X.env)).all (fun x => x.1.isSome)
      && decide ((e :: es).length + ([] : List Keyword).length + (if ([] : List Keyword).isEmpty then 0 else 1) < 30)) = true)
    (hline : (apos.endLine == cpos.line) = true) (hs : starEach (e :: es) X.env = (false, eval e X.env) :: starEach es X.env) (hplain : (backTo cpos (starEach es X.env)).any (·.1) = false) :
    PE X (.Call (.Attribute o name apos) (e :: es) [] cpos) (tBW X.K T r to t) := by
  refine ⟨fun pins s σ H Q I h => ?_⟩
  refine wpAny_Call_method_late hbase hfew hline rfl (thn (ho.run pins s σ H _ I h) fun v s1 ⟨x, H1, I1, r1, ty, q1⟩ => ?_)
  obtain ⟨h1, h2⟩ := tyW_is I1 r1 ty
  refine ⟨T, id, pa, slot, hty, h1, h2, ?_⟩
  have hA := ha.run cpos pins s1 σ H1 _ I1 q1
  rw [hs] at hA ⊢
  refine Calls.callWith_builtin (by show (false || (backTo cpos (starEach es X.env)).any (·.1)) = false; rw [hplain] <;> rfl) (Calls.evalArgs_plain ?_)
  exact thn hA fun us s2 ⟨vs, H2, I2, r2, q2⟩ => hm pins s2 σ H2 x vs v us Q I2 r1 r2 q2
end
end LD
namespace LD
open PySem PySem.SeqAt PySem.MeetsSeq
open PySem.AutoSeq1 (wpAny_loadPart')
/-! ### == of a dict and what is no dict -/
def IsDic (h : Heap) (d : Addr) : Prop := ∃ o es ep, h.get? d = some o ∧ o.cls = .type "dict" ∧ o.dict = none ∧ o.data = .dict es ep
theorem dict_eq_no_str (d : Addr) (o : Obj) (b : Str) (u : Tok) :
    Meets (Builtin.«dict.__eq__» ⟨[.ref d, .str b u], []⟩) (fun _ R s => s.heap.get? d = some o ∧ o.cls = .type "dict" ∧ R (.ok (.ret .notImplemented)) s) :=
  .of_wp fun prog w A R s h => by obtain ⟨hp, g, dd, tk, os⟩ := s; obtain ⟨hl, hc, h⟩ := h; have f1 := F.sub_str_dict; wp_walk using wpAny_load hl; exact ⟨_, rfl, h⟩
theorem str_eq_no_dict (d : Addr) (o : Obj) (es : Array DictEntry) (ep : Nat) (b : Str) (u : Tok) :
    Meets (Builtin.«str.__eq__» ⟨[.str b u, .ref d], []⟩) (fun _ R s => s.heap.get? d = some o ∧ o.cls = .type "dict" ∧ o.data = .dict es ep ∧ R (.ok (.ret .notImplemented)) s) :=
  .of_wp fun prog w A R s h => by obtain ⟨hp, g, dd, tk, os⟩ := s; obtain ⟨hl, hc, hda, h⟩ := h; obtain ⟨c, a2, a3, a4⟩ := o; cases hc; cases hda; have f1 := F.sub_dict_str; wp_walk using wpAny_load hl; exact ⟨_, rfl, h⟩
theorem dict_ne_no_tuple (d b : Addr) (o : Obj) (items : Array Value) (n : Nat) (dd : Option Addr) (sl : Array (Option Value)) :
    Meets (Builtin.«dict.__ne__» ⟨[.ref d, .ref b], []⟩) (fun _ R s => s.heap.get? d = some o ∧ o.cls = .type "dict" ∧ s.heap.get? b = some { cls := .type "tuple", dict := dd, data := .seq items n, slots := sl } ∧ R (.ok (.ret .notImplemented)) s) :=
  .of_wp fun prog w A R s h => by obtain ⟨hp, g, d1, tk, os⟩ := s; obtain ⟨hl, hc, hb, h⟩ := h; obtain ⟨c, a2, a3, a4⟩ := o; cases hc; have f1 := F.sub_tuple_dict; wp_walk using wpAny_load hl, wpAny_load hb, wpAny_loadPart' hb; exact ⟨_, rfl, h⟩
theorem tuple_ne_no_dict (d b : Addr) (o : Obj) (items : Array Value) (n : Nat) (dd : Option Addr) (sl : Array (Option Value)) :
    Meets (Builtin.«tuple.__ne__» ⟨[.ref b, .ref d], []⟩) (fun _ R s => s.heap.get? d = some o ∧ o.cls = .type "dict" ∧ s.heap.get? b = some { cls := .type "tuple", dict := dd, data := .seq items n, slots := sl } ∧ R (.ok (.ret .notImplemented)) s) :=
  .of_wp fun prog w A R s h => by obtain ⟨hp, g, d1, tk, os⟩ := s; obtain ⟨hl, hc, hb, h⟩ := h; obtain ⟨c, a2, a3, a4⟩ := o; cases hc; have f1 := F.sub_dict_tuple; wp_walk using wpAny_load hl, wpAny_load hb, wpAny_loadPart' hb; exact ⟨_, rfl, h⟩
section
variable {A : Around} {s : Shared}
theorem EqAt.dict_str {d : Addr} (b : Str) (u : Tok) (hl : IsDic s.heap d) (hu : A.units < cLine) : EqAt A s (.ref d) (.str b u) false := fun prog w E Q h => by
  obtain ⟨o, es, ep, ho, hc, hd, hda⟩ := hl
  unfold eqBool
  refine wpAny_holding ?_
  refine wpAny_ite_split (fun hab => absurd (eq_of_beq hab) nofun) (fun _ => ?_)
  refine wpAny_bind ?_
  exact rc_eq_decline_or (k := false) ⟨o, ho, hc⟩ (typeIs_str s b u) (by decide) F.sub_str_dict F.slot_dict_eq F.slot_str_eq_refl
    (fun _ hq => call_meets F.slot_dict_eq ⟨o, ho, hc⟩ F.entry_dict_eq (F.args_dict_eq_2 _ _) (dict_eq_no_str d o b u) ⟨ho, hc, hq⟩)
    (fun _ hq => call_meets F.slot_str_eq_refl (typeIs_str s b u) F.entry_str_eq (F.args_str_eq_2 _ _) (str_eq_no_dict d o es ep b u) ⟨ho, hc, hda, hq⟩)
    (fun _ hq => wpAny_of_eq (rfl : isSame (.ref d) (.str b u) = pure false) hq) (.inr hu) (wpAny_truthy_bool h)
theorem RcNeAt.dict_tuple {d b : Addr} {items : Array Value} (hl : IsDic s.heap d) (hb : s.heap.IsTuple b items) (hu : A.units < cLine) : RcNeAt A s (.ref d) (.ref b) true := fun prog w E Q h => by
  obtain ⟨o, es, ep, ho, hc, hd, hda⟩ := hl
  obtain ⟨⟨cls2, dd2, data2, sl2⟩, ho2, hc2, n2, hd2⟩ := id hb
  simp only at hc2 hd2
  subst hc2 hd2
  have hne : d ≠ b := fun e => by
    subst e
    rw [ho] at ho2
    cases ho2
    simp at hc
  exact (rc_ne_decline_or (k := false) ⟨o, ho, hc⟩ ⟨_, ho2, rfl⟩ (by decide) F.sub_tuple_dict F.slot_dict_ne F.slot_tuple_ne_refl
    (fun _ hq => call_meets F.slot_dict_ne ⟨o, ho, hc⟩ F.entry_dict_ne (F.args_dict_ne_2 _ _) (dict_ne_no_tuple d b o items n2 dd2 sl2) ⟨ho, hc, ho2, hq⟩)
    (fun _ hq => call_meets F.slot_tuple_ne_refl ⟨_, ho2, rfl⟩ F.entry_tuple_ne (F.args_tuple_ne_2 _ _) (tuple_ne_no_dict d b o items n2 dd2 sl2) ⟨ho, hc, ho2, hq⟩)
    (fun _ hq => wpAny_isSame_ref_other hne ho ho2 (by rw [hc]; simp) hq) (.inr hu) h)
end
end LD

set_option Elab.async false
set_option linter.all false
set_option maxRecDepth 100000
set_option maxHeartbeats 1000000
/-! LD3s: sorted texts: the one result. -/
namespace LD
open PySem
abbrev sl (a b : Str) : Prop := a.cps.toList < b.cps.toList
theorem str_ext {a b : Str} (h : a.cps.toList = b.cps.toList) : a = b := by
  cases a; cases b
  congr 1
  exact Array.toList_inj.mp h
theorem sl_irrefl (a : Str) : ¬ sl a a := List.lt_irrefl _
theorem sl_trans {a b c : Str} (h : sl a b) (h' : sl b c) : sl a c := List.lt_trans h h'
theorem sl_anti {a b : Str} (h : ¬ sl a b) (h' : ¬ sl b a) : a = b := str_ext (List.le_antisymm (List.not_lt.mp h') (List.not_lt.mp h))
/-- rising: no one behind is less -/
def Ris (l : List Str) : Prop := l.Pairwise fun a b => ¬ sl b a
theorem nsl_trans {a b c : Str} (h : ¬ sl b a) (h' : ¬ sl c b) : ¬ sl c a := fun q => by
  have h1 : a.cps.toList ≤ b.cps.toList := List.not_lt.mp h
  have h2 : b.cps.toList ≤ c.cps.toList := List.not_lt.mp h'
  exact List.not_lt.mpr (List.le_trans h1 h2) q
theorem ins_perm (x : Str) : ∀ l : List Str, (insS x l).Perm (x :: l)
  | [] => List.Perm.refl _
  | y :: ys => by
    unfold insS
    split
    · exact (List.Perm.cons y (ins_perm x ys)).trans (List.Perm.swap x y ys)
    · exact List.Perm.refl _
theorem sort_perm : ∀ l : List Str, (sortS l).Perm l
  | [] => List.Perm.refl _
  | x :: xs => (ins_perm x (sortS xs)).trans (List.Perm.cons x (sort_perm xs))
theorem ins_ris (x : Str) : ∀ l : List Str, Ris l → Ris (insS x l)
  | [], _ => by simp [insS, Ris]
  | y :: ys, h => by
    have h1 := List.pairwise_cons.mp h
    unfold insS
    split
    · rename_i q
      have q := of_decide_eq_true q
      refine List.pairwise_cons.mpr ⟨fun z hz => ?_, ins_ris x ys h1.2⟩
      rcases List.mem_cons.mp ((ins_perm x ys).mem_iff.mp hz) with rfl | hz
      · exact fun w => sl_irrefl _ (sl_trans w q)
      · exact h1.1 z hz
    · rename_i q
      have q : ¬ sl y x := fun w => q (decide_eq_true w)
      refine List.pairwise_cons.mpr ⟨fun z hz => ?_, h⟩
      rcases List.mem_cons.mp hz with rfl | hz
      · exact q
      · exact nsl_trans q (h1.1 z hz)
theorem sort_ris : ∀ l : List Str, Ris (sortS l)
  | [] => List.Pairwise.nil
  | x :: xs => ins_ris x _ (sort_ris xs)
theorem ris_uniq : ∀ {l l' : List Str}, l.Perm l' → Ris l → Ris l' → l = l'
  | [], l', p, _, _ => (List.Perm.nil_eq p)
  | x :: xs, [], p, _, _ => absurd p.length_eq (by simp)
  | x :: xs, y :: ys, p, h, h' => by
    have h1 := List.pairwise_cons.mp h
    have h2 := List.pairwise_cons.mp h'
    have e : x = y := by
      have hx : x ∈ y :: ys := p.mem_iff.mp (List.mem_cons_self ..)
      have hy : y ∈ x :: xs := p.mem_iff.mpr (List.mem_cons_self ..)
      rcases List.mem_cons.mp hx with e | hx
      · exact e
      · rcases List.mem_cons.mp hy with e | hy
        · exact e.symm
        · exact sl_anti (h2.1 x hx) (h1.1 y hy)
    subst e
    rw [ris_uniq (List.Perm.cons_inv p) h1.2 h2.2]
theorem rising_ris : ∀ (l : List Str) (p : Str), PyProof.Rows.risingS p l = true → Ris (p :: l)
  | [], p, _ => by simp [Ris]
  | x :: r, p, h => by
    have h := Bool.and_eq_true_iff.mp (show ((!Spec.ltCps x.cps.toList p.cps.toList) && PyProof.Rows.risingS x r) = true from h)
    have ih := rising_ris r x h.2
    have h1 : ¬ sl x p := fun q => by
      have e := PyProof.Rows.ltCps_eq x.cps.toList p.cps.toList
      rw [decide_eq_true q] at e
      rw [e] at h
      exact absurd h.1 (by decide)
    refine List.pairwise_cons.mpr ⟨fun z hz => ?_, ih⟩
    rcases List.mem_cons.mp hz with rfl | hz
    · exact h1
    · exact nsl_trans h1 ((List.pairwise_cons.mp ih).1 z hz)
theorem sortedS_ris {l : List Str} (h : PyProof.Rows.sortedS l = true) : Ris l := by
  cases l with
  | nil => exact List.Pairwise.nil
  | cons x r => exact rising_ris r x h
theorem sorted_is {xs ys : List Str} (p : ys.Perm xs) (h : PyProof.Rows.sortedS ys = true) : ys = sortS xs :=
  ris_uniq (p.trans (sort_perm xs).symm) (sortedS_ris h) (sort_ris xs)
end LD

set_option Elab.async false
set_option linter.all false
set_option maxRecDepth 100000
set_option maxHeartbeats 1000000
/-! LD4: the operations on values are the model's. -/
namespace LD
open PySem PySem.Spec PyProof.Rows L2 HT
def opB : BOp → Operator
  | .add => .Add | .sub => .Sub | .mul => .Mult | .fdiv => .FloorDiv | .mod => .Mod | .pow => .Pow
def opC : COp → CmpOp
  | .eq => .Eq | .ne => .NotEq | .lt => .Lt | .le => .LtE | .gt => .Gt | .ge => .GtE | .is_ => .Is | .isnot => .IsNot | .in_ => .In | .notin => .NotIn

section
variable {X : Cx} {ga : Str → Addr} {ms : List Addr} {Γ : Hp} {μ : Store} {H : Hp}
/-- wanted of every heap and value that stand for the outcome d -/
def PD (X : Cx) (ga : Str → Addr) (ms : List Addr) (Γ : Hp) (μ : Store) (H : Hp) (d : D) (Q : VK) : Prop :=
  ∀ (v : V) (H' : Hp) (ms' : List Addr) (Γ' : Hp), After X.K ga ms Γ H ms' Γ' μ H' → Rep X.K ga ms' Γ' d v → Q v H'
theorem PD.here {d : D} {v : V} {Q : VK} (q : PD X ga ms Γ μ H d Q) (S : SI X.K ga ms Γ μ H) (r : Rep X.K ga ms Γ d v) : Q v H := q v H ms Γ (After.refl S) r
theorem PD.bl {b : Bool} {Q : VK} (q : PD X ga ms Γ μ H (.bl b) Q) (S : SI X.K ga ms Γ μ H) : Q (.bl b) H := q.here S (by unfold Rep; rfl)
theorem PD.int {i : Int} {Q : VK} (q : PD X ga ms Γ μ H (.int i) Q) (S : SI X.K ga ms Γ μ H) : Q (.int i) H := q.here S (by unfold Rep; rfl)
theorem PD.str {z : Str} {Q : VK} (q : PD X ga ms Γ μ H (.str z) Q) (S : SI X.K ga ms Γ μ H) (h : z.length ≤ sizeLine) : Q (.str z) H := q.here S (by unfold Rep; exact ⟨rfl, h⟩)
theorem PD.newT {xs : List D} {vs : List V} {Q : VK} (q : PD X ga ms Γ μ H (.tup xs) Q) (S : SI X.K ga ms Γ μ H) (r : Reps X.K ga ms Γ xs vs) (h : xs.length ≤ sizeLine) : NewT H vs Q := fun p o hp hd => by
  have A := After.lay (o := HO.frz o (.tup vs)) S hp
  refine q _ _ _ _ A ?_
  unfold Rep
  exact ⟨p, vs, rfl, .inl ⟨o, upd_same, hd⟩, h, r.mono A.le A.pre⟩
theorem PD.newL {xs : List D} {vs : List V} {Q : VK} (q : PD X ga ms Γ μ H (.lst xs) Q) (S : SI X.K ga ms Γ μ H) (r : Reps X.K ga ms Γ xs vs) (h : xs.length ≤ sizeLine) : ∀ p, H p = none → Q (.ref p) (upd H p (.lst vs)) := fun p hp => by
  have A := After.lay (o := HO.lst vs) S hp
  refine q _ _ _ _ A ?_
  unfold Rep
  exact ⟨p, vs, rfl, upd_same, h, r.mono A.le A.pre⟩
/-- the values x, y stand for dx, dy -/
structure At2 (X : Cx) (ga : Str → Addr) (ms : List Addr) (Γ : Hp) (μ : Store) (H : Hp) (dx dy : D) (x y : V) : Prop where
  si : SI X.K ga ms Γ μ H
  rx : Rep X.K ga ms Γ dx x
  ry : Rep X.K ga ms Γ dy y
def r2D (X : Cx) (ga : Str → Addr) (f : D → D → Option D) : R2 := fun x y H Q => ∃ ms Γ μ dx dy d, At2 X ga ms Γ μ H dx dy x y ∧ f dx dy = some d ∧ PD X ga ms Γ μ H d Q

theorem pow_ok {i j : Int} (h : powOk i j = true) : 0 ≤ j ∧ (Builtin.Int.intBits i : Int) * j ≤ 2 ^ 27 := by
  have h := of_decide_eq_true (show decide (1 ≤ j ∧ 2 ≤ i ∧ ((i.natAbs.log2 + 1 : Nat) : Int) * j ≤ 1000000) = true from h)
  refine ⟨by omega, ?_⟩
  unfold Builtin.Int.intBits
  have hi : (i == 0) = false := by
    refine beq_eq_false_iff_ne.mpr ?_
    omega
  rw [hi, if_neg Bool.false_ne_true]
  have := h.2.2
  omega
theorem small_ok {i : Int} (h : small i = true) : -(2 ^ 64) < i ∧ i < 2 ^ 64 := of_decide_eq_true h
theorem op_bin (ga : Str → Addr) (op : BOp) : OpR X (binaryOp (opB op)) (r2D X ga (binop op)) := by
  intro pins s σ H x y v u Q I rx ry h
  obtain ⟨ms, Γ, μ, dx, dy, d, ⟨S, hx, hy⟩, e, q⟩ := h
  unfold binop at e
  split at e
  · cases e
    unfold Rep at hx hy
    exact op_add pins s σ H x y v u Q I rx ry ⟨_, _, hx, hy, q.int S⟩
  · split at e
    · rename_i hz
      cases e
      unfold Rep at hx hy
      rw [line_eq] at hz
      exact op_add_str pins s σ H x y v u Q I rx ry ⟨_, _, hx.1, hy.1, hz, q.str S (by rw [PySem.strLen_append]; exact hz)⟩
    · cases e
  · split at e
    · rename_i hz
      cases e
      unfold Rep at hx hy
      obtain ⟨a, vs, rfl, h1, h2, h3⟩ := hx
      obtain ⟨b, us, rfl, g1, g2, g3⟩ := hy
      rw [line_eq] at hz
      refine op_cat pins s σ H _ _ v u Q I rx ry ⟨a, b, vs, us, rfl, rfl, S.sub _ _ h1, S.sub _ _ g1, by rw [← h3.length, ← g3.length]; exact hz, q.newL S (h3.append g3) (by rw [List.length_append]; exact hz)⟩
    · cases e
  · split at e
    · rename_i hz
      cases e
      have hx' := hx
      have hy' := hy
      unfold Rep at hx hy
      obtain ⟨a, vs, rfl, h1, h2, h3⟩ := hx
      obtain ⟨b, us, rfl, g1, g2, g3⟩ := hy
      rw [line_eq] at hz
      refine op_catF pins s σ H _ _ v u Q I rx ry ⟨a, b, vs, us, rfl, rfl, (h1.mono S.sub).seq, (g1.mono S.sub).seq, by rw [← h3.length, ← g3.length]; exact hz, fun z => ?_, fun z z2 => ?_, fun _ _ => q.newT S (h3.append g3) (by rw [List.length_append]; exact hz)⟩
      · rename_i as bs
        have z1 : as = [] := List.eq_nil_of_length_eq_zero (by rw [h3.length, z]; rfl)
        subst z1
        exact q.here S hy'
      · rename_i as bs
        have z1 : bs = [] := List.eq_nil_of_length_eq_zero (by rw [g3.length, z2]; rfl)
        subst z1
        rw [List.append_nil] at q
        exact q.here S hx'
    · cases e
  · cases e
    unfold Rep at hx hy
    exact op_sub pins s σ H x y v u Q I rx ry ⟨_, _, hx, hy, q.int S⟩
  · split at e
    · rename_i hz
      cases e
      unfold Rep at hx hy
      refine op_mul pins s σ H x y v u Q I rx ry ⟨_, _, hx, hy, ?_, q.int S⟩
      rcases Bool.or_eq_true_iff.mp hz with z | z
      · exact .inl (small_ok z)
      · exact .inr (small_ok z)
    · cases e
  · split at e
    · rename_i hz
      cases e
      unfold Rep at hx hy
      exact op_fdivN pins s σ H x y v u Q I rx ry ⟨_, _, hx, hy, hz, q.int S⟩
    · cases e
  · split at e
    · rename_i hz
      cases e
      unfold Rep at hx hy
      exact op_modN pins s σ H x y v u Q I rx ry ⟨_, _, hx, hy, hz, q.int S⟩
    · cases e
  · split at e
    · rename_i hz
      cases e
      unfold Rep at hx hy
      subst hx hy
      obtain ⟨t, rfl⟩ := rx
      obtain ⟨t', rfl⟩ := ry
      obtain ⟨p1, p2⟩ := pow_ok hz
      exact pow_int p1 p2 ⟨.int _, H, I.tok _, ⟨_, rfl⟩, q.int S⟩
    · cases e
  · cases e
/-! ### == -/
mutual
theorem rep_dp {H : Hp} (le : Same Γ H) : ∀ (d : D) (v : V) (p : PyData), Rep X.K ga ms Γ d v → toP d = some p → Dp X.K H v p
  | .non, _, _, h, e => by unfold Rep at h; unfold toP at e; cases e; subst h; exact .non
  | .bl b, _, _, h, e => by unfold Rep at h; unfold toP at e; cases e; subst h; exact .bl b
  | .int i, _, _, h, e => by unfold Rep at h; unfold toP at e; cases e; subst h; exact .int i
  | .str z, _, _, h, e => by unfold Rep at h; unfold toP at e; cases e; obtain ⟨h, _⟩ := h; subst h; exact .str z
  | .tup xs, v, p, h, e => by
    unfold Rep at h; unfold toP at e
    obtain ⟨a, vs, rfl, h1, _, h3⟩ := h
    cases q : toPs xs with
    | none => rw [q] at e; cases e
    | some ps =>
      rw [q] at e; cases e
      exact .tup (h1.mono le).seq (reps_dp le xs vs ps h3 q)
  | .lst xs, v, p, h, e => by
    unfold Rep at h; unfold toP at e
    obtain ⟨a, vs, rfl, h1, _, h3⟩ := h
    cases q : toPs xs with
    | none => rw [q] at e; cases e
    | some ps =>
      rw [q] at e; cases e
      exact .lst (SqL.of (le _ _ h1)) (reps_dp le xs vs ps h3 q)
  | .dct _, _, _, _, e => by unfold toP at e; cases e
  | .ins _ _, _, _, _, e => by unfold toP at e; cases e
  | .loc _, _, _, _, e => by unfold toP at e; cases e
  | .ty _, _, _, _, e => by unfold toP at e; cases e
  | .glob _, _, _, _, e => by unfold toP at e; cases e
  | .scr _, _, _, _, e => by unfold toP at e; cases e
theorem reps_dp {H : Hp} (le : Same Γ H) : ∀ (ds : List D) (vs : List V) (ps : List PyData), Reps X.K ga ms Γ ds vs → toPs ds = some ps → DpAll X.K H vs ps
  | [], vs, ps, h, e => by unfold Reps at h; unfold toPs at e; cases e; subst h; exact .nil
  | x :: xs, vs, ps, h, e => by
    unfold Reps at h; unfold toPs at e
    obtain ⟨v, r, rfl, h1, h2⟩ := h
    cases q : toP x with
    | none => rw [q] at e; cases e
    | some p =>
      cases q2 : toPs xs with
      | none => rw [q, q2] at e; cases e
      | some ps' =>
        rw [q, q2] at e; cases e
        exact .cons (rep_dp le x v p h1 q) (reps_dp le xs r ps' h2 q2)
end
theorem eqD_some {a b : D} {k : Bool} (h : eqD a b = some k) : ∃ p q, toP a = some p ∧ toP b = some q ∧ SeqAt.shaped p = true ∧ SeqAt.shaped q = true ∧ k = PyData.eqv p q := by
  unfold eqD at h
  cases q1 : toP a with
  | none => rw [q1] at h; cases h
  | some p =>
    cases q2 : toP b with
    | none => rw [q1, q2] at h; cases h
    | some q =>
      rw [q1, q2] at h
      have h : (if (SeqAt.shaped p && SeqAt.shaped q) = true then some (PyData.eqv p q) else none) = some k := h
      split at h
      · rename_i z
        cases h
        obtain ⟨z1, z2⟩ := Bool.and_eq_true_iff.mp z
        exact ⟨p, q, rfl, rfl, z1, z2, rfl⟩
      · cases h
theorem flat_rep {d : D} {v : V} (h : Rep X.K ga ms Γ d v) (f : flat d = true) : flatV v = true := by
  cases d with
  | non => unfold Rep at h; subst h; rfl
  | bl b => unfold Rep at h; subst h; rfl
  | int i => unfold Rep at h; subst h; rfl
  | str z => unfold Rep at h; obtain ⟨h, _⟩ := h; subst h; rfl
  | _ => exact absurd f (by simp [flat])
theorem eqF_rep {d e : D} {v u : V} (h : Rep X.K ga ms Γ d v) (h' : Rep X.K ga ms Γ e u) (f : flat d = true) (f' : flat e = true) : eqV v u = eqF d e := by
  cases d with
  | non =>
    unfold Rep at h; subst h
    cases e with
    | non => unfold Rep at h'; subst h'; rfl
    | bl b => unfold Rep at h'; subst h'; rfl
    | int i => unfold Rep at h'; subst h'; rfl
    | str z => unfold Rep at h'; obtain ⟨h', _⟩ := h'; subst h'; rfl
    | _ => exact absurd f' (by simp [flat])
  | bl b =>
    unfold Rep at h; subst h
    cases e with
    | non => unfold Rep at h'; subst h'; rfl
    | bl b => unfold Rep at h'; subst h'; rfl
    | int i => unfold Rep at h'; subst h'; rfl
    | str z => unfold Rep at h'; obtain ⟨h', _⟩ := h'; subst h'; rfl
    | _ => exact absurd f' (by simp [flat])
  | int i =>
    unfold Rep at h; subst h
    cases e with
    | non => unfold Rep at h'; subst h'; rfl
    | bl b => unfold Rep at h'; subst h'; rfl
    | int i => unfold Rep at h'; subst h'; rfl
    | str z => unfold Rep at h'; obtain ⟨h', _⟩ := h'; subst h'; rfl
    | _ => exact absurd f' (by simp [flat])
  | str z =>
    unfold Rep at h; obtain ⟨h, _⟩ := h; subst h
    cases e with
    | non => unfold Rep at h'; subst h'; rfl
    | bl b => unfold Rep at h'; subst h'; rfl
    | int i => unfold Rep at h'; subst h'; rfl
    | str z => unfold Rep at h'; obtain ⟨h', _⟩ := h'; subst h'; rfl
    | _ => exact absurd f' (by simp [flat])
  | _ => exact absurd f (by simp [flat])
theorem flats_rep : ∀ {ds : List D} {vs : List V}, Reps X.K ga ms Γ ds vs → ds.all flat = true → vs.all flatV = true
  | [], vs, h, _ => by rw [h.nil_iff]; rfl
  | x :: xs, vs, h, f => by
    obtain ⟨v, r, rfl, h1, h2⟩ := h.cons_iff
    have f := Bool.and_eq_true_iff.mp (show (flat x && xs.all flat) = true from f)
    show (flatV v && r.all flatV) = true
    rw [flat_rep h1 f.1, flats_rep h2 f.2]
    rfl
theorem any_rep {d : D} {v : V} (h : Rep X.K ga ms Γ d v) (fd : flat d = true) : ∀ {ds : List D} {vs : List V}, Reps X.K ga ms Γ ds vs → ds.all flat = true → inV v vs = ds.any fun y => eqF y d
  | [], vs, h', _ => by rw [h'.nil_iff]; rfl
  | x :: xs, vs, h', f => by
    obtain ⟨u, r, rfl, h1, h2⟩ := h'.cons_iff
    have f := Bool.and_eq_true_iff.mp (show (flat x && xs.all flat) = true from f)
    show (eqV u v || inV v r) = (eqF x d || xs.any fun y => eqF y d)
    rw [eqF_rep h1 h f.1 fd, any_rep h fd h2 f.2]
theorem inSeq_some {x : D} {xs : List D} {k : Bool} (h : inSeq x xs = some k) : (flat x = true ∧ xs.all flat = true ∧ k = xs.any fun y => eqF y x) ∨
    ∃ p qs, toP x = some p ∧ toPs xs = some qs ∧ SeqAt.shaped p = true ∧ p.depth ≤ 63 ∧ PyData.canLayAll0 qs = true ∧ k = qs.any fun y => PyData.eqv y p := by
  unfold inSeq at h
  split at h
  · rename_i z
    cases h
    obtain ⟨z1, z2⟩ := Bool.and_eq_true_iff.mp z
    exact .inl ⟨z1, z2, rfl⟩
  · unfold inData at h
    split at h
    · rename_i p qs e1 e2
      split at h
      · rename_i z
        cases h
        simp only [Bool.and_eq_true] at z
        exact .inr ⟨p, qs, e1, e2, z.1.1, of_decide_eq_true z.1.2, z.2, rfl⟩
      · cases h
    · cases h
theorem strIn_some {a b : Str} {k : Bool} (h : strIn a b = some k) : ∃ c : Nat, a = ⟨#[c]⟩ ∧ k = decide (c ∈ b.cps.toList) := by
  unfold strIn at h
  split at h
  · rename_i c e
    cases h
    refine ⟨c, ?_, rfl⟩
    obtain ⟨arr⟩ := a
    obtain ⟨l⟩ := arr
    have e : l = [c] := e
    rw [e]
  · cases h
theorem map_not {o : Option Bool} {k : Bool} (h : o.map (!·) = some k) : ∃ b, o = some b ∧ k = !b := by
  cases o with
  | none => cases h
  | some b => cases h; exact ⟨b, rfl, rfl⟩
theorem rep_isNon {d : D} {v : V} (h : Rep X.K ga ms Γ d v) : decide (v = .non) = isNon d := by
  cases d with
  | non => unfold Rep at h; subst h; rfl
  | bl b => unfold Rep at h; subst h; rfl
  | int b => unfold Rep at h; subst h; rfl
  | str b => unfold Rep at h; obtain ⟨h, _⟩ := h; subst h; rfl
  | tup b => unfold Rep at h; obtain ⟨_, _, h, _⟩ := h; subst h; rfl
  | lst b => unfold Rep at h; obtain ⟨_, _, h, _⟩ := h; subst h; rfl
  | dct b => unfold Rep at h; obtain ⟨_, _, h, _⟩ := h; subst h; rfl
  | ins b c => unfold Rep at h; exact h.elim
  | loc b => unfold Rep at h; obtain ⟨_, h, _⟩ := h; subst h; rfl
  | ty b => unfold Rep at h; subst h; rfl
  | glob b => unfold Rep at h; subst h; rfl
  | scr b => unfold Rep at h; obtain ⟨_, h, _⟩ := h; subst h; rfl
def r2B (X : Cx) (ga : Str → Addr) (f : D → D → Option Bool) : R2 := fun x y H Q => ∃ ms Γ μ dx dy d, At2 X ga ms Γ μ H dx dy x y ∧ f dx dy = some d ∧ PD X ga ms Γ μ H (.bl d) Q
def rInP (K : PySem.W.Frag) (neg : Bool) : R2 := fun x y H Q => ∃ p qs, Dp K H x p ∧ (Dp K H y (.tuple qs) ∨ Dp K H y (.list qs)) ∧ SeqAt.shaped p = true ∧ p.depth ≤ 63 ∧ PyData.canLayAll0 qs = true ∧ Q (.bl (if neg then !(qs.any fun y => PyData.eqv y p) else qs.any fun y => PyData.eqv y p)) H
theorem op_inP (hu : X.A.units + 64 < cLine) : OpR X (compareOp .In) (rInP X.K false) := by
  intro pins s σ H x y v u Q I rx ry h
  obtain ⟨p, qs, hx, hy, s1, s2, s3, q⟩ := h
  obtain ⟨as, r1⟩ := Dp.reads I p x v hx rx
  have hm : X.A.units + 1 + min (PyData.depthAll qs) p.depth < cLine := by
    have : min (PyData.depthAll qs) p.depth ≤ p.depth := Nat.min_le_right _ _
    omega
  rcases hy with hy | hy
  · obtain ⟨bs, r2⟩ := Dp.reads I _ y u hy ry
    exact SeqAt.in_tuple_reads r2 r1 s3 (SeqAt.canLay_of_shaped s1) hm ⟨.bl _, H, I, rfl, q⟩
  · obtain ⟨bs, r2⟩ := Dp.reads I _ y u hy ry
    exact SeqAt.in_list_reads r2 r1 s3 (SeqAt.canLay_of_shaped s1) hm ⟨.bl _, H, I, rfl, q⟩
theorem op_notInP (hu : X.A.units + 64 < cLine) : OpR X (compareOp .NotIn) (rInP X.K true) := by
  intro pins s σ H x y v u Q I rx ry h
  obtain ⟨p, qs, hx, hy, s1, s2, s3, q⟩ := h
  obtain ⟨as, r1⟩ := Dp.reads I p x v hx rx
  have hm : X.A.units + 1 + min (PyData.depthAll qs) p.depth < cLine := by
    have : min (PyData.depthAll qs) p.depth ≤ p.depth := Nat.min_le_right _ _
    omega
  rcases hy with hy | hy
  · obtain ⟨bs, r2⟩ := Dp.reads I _ y u hy ry
    exact SeqAt.notIn_tuple_reads r2 r1 s3 (SeqAt.canLay_of_shaped s1) hm ⟨.bl _, H, I, rfl, q⟩
  · obtain ⟨bs, r2⟩ := Dp.reads I _ y u hy ry
    exact SeqAt.notIn_list_reads r2 r1 s3 (SeqAt.canLay_of_shaped s1) hm ⟨.bl _, H, I, rfl, q⟩
theorem dic_at {pins : List (Addr × Obj)} {σ : L2.St} {s : Shared} {kvs : List (D × D)} {x : V} {u : Value} (I : Inv X pins σ H s) (S : SI X.K ga ms Γ μ H) (h : Rep X.K ga ms Γ (.dct kvs) x) (r : L2.RelV x u) : ∃ a, u = .ref a ∧ IsDic s.heap a := by
  unfold Rep at h
  obtain ⟨a, ks, rfl, h1, _⟩ := h
  obtain ⟨_, _, _, _, o, es, ep, e, ex, hd, _⟩ := I.hok a _ (S.sub _ _ h1)
  exact ⟨a, r, o, es, ep, e, ex.1, ex.2.1, hd⟩
theorem eqE_at {pins : List (Addr × Obj)} {σ : L2.St} {s : Shared} {dx dy : D} {x y : V} {v u : Value} {k : Bool} (hu : X.A.units + 64 < cLine) (I : Inv X pins σ H s) (S : SI X.K ga ms Γ μ H) (hx : Rep X.K ga ms Γ dx x) (hy : Rep X.K ga ms Γ dy y) (rx : L2.RelV x v) (ry : L2.RelV y u)
    (e : eqE dx dy = some k) : SeqAt.EqAt X.A.in1 s v u k := by
  unfold eqE at e
  split at e
  · cases e
    obtain ⟨a, rfl, hd⟩ := dic_at I S hx rx
    unfold Rep at hy
    obtain ⟨rfl, _⟩ := hy
    obtain ⟨t, rfl⟩ := ry
    exact EqAt.dict_str _ _ hd (by show X.A.units + 1 < cLine; omega)
  · split at e
    · rename_i p q e1 e2
      split at e
      · rename_i z
        cases e
        simp only [Bool.and_eq_true] at z
        have hd := of_decide_eq_true z.2
        obtain ⟨as, r1⟩ := Dp.reads I p x v (rep_dp S.sub _ _ _ hx e1) rx
        obtain ⟨bs, r2⟩ := Dp.reads I q y u (rep_dp S.sub _ _ _ hy e2) ry
        refine SeqAt.eqAt_reads p q X.A.in1 s v u _ _ r1 r2 (SeqAt.canLay_of_shaped z.1.1) (SeqAt.canLay_of_shaped z.1.2) ?_
        have : min p.depth q.depth ≤ p.depth := Nat.min_le_left _ _
        show X.A.units + 1 + min p.depth q.depth < cLine
        omega
      · cases e
    · cases e
def pairE (xs ys : List D) (j : Nat) : Bool := match xs[j]?, ys[j]? with
  | some x, some y => (eqE x y).getD false
  | _, _ => false
theorem zipE_eq : ∀ {xs ys : List D} {r : Bool}, zipE xs ys = some r → r = ((List.range (min xs.length ys.length)).all (pairE xs ys) && xs.length == ys.length)
  | [], [], r, h => by cases h; rfl
  | [], y :: ys, r, h => by cases h; simp
  | x :: xs, [], r, h => by cases h; simp
  | x :: xs, y :: ys, r, h => by
    unfold zipE at h
    cases e1 : eqE x y with
    | none => rw [e1] at h; cases h
    | some b =>
      cases e2 : zipE xs ys with
      | none => rw [e1, e2] at h; cases h
      | some r' =>
        rw [e1, e2] at h
        cases h
        have ih := zipE_eq e2
        have e3 : min (x :: xs).length (y :: ys).length = min xs.length ys.length + 1 := by
          simp only [List.length_cons]
          omega
        rw [e3, List.range_succ_eq_map, List.all_cons, List.all_map]
        have e4 : pairE (x :: xs) (y :: ys) 0 = b := by
          show (eqE x y).getD false = b
          rw [e1]; rfl
        have e5 : (pairE (x :: xs) (y :: ys) ∘ Nat.succ) = pairE xs ys := by funext j; rfl
        rw [e4, e5, ih]
        simp [Bool.and_assoc]
theorem zipE_at : ∀ {xs ys : List D} {r : Bool}, zipE xs ys = some r → ∀ j x y, xs[j]? = some x → ys[j]? = some y → ∃ b, eqE x y = some b ∧ pairE xs ys j = b
  | [], _, _, _, j, x, y, h1, _ => by simp at h1
  | x :: xs, [], _, _, j, x', y', _, h2 => by simp at h2
  | x :: xs, y :: ys, r, h, j, x', y', h1, h2 => by
    unfold zipE at h
    cases e1 : eqE x y with
    | none => rw [e1] at h; cases h
    | some b =>
      cases e2 : zipE xs ys with
      | none => rw [e1, e2] at h; cases h
      | some r' =>
        cases j with
        | zero =>
          cases h1; cases h2
          exact ⟨b, e1, by show (eqE x y).getD false = b; rw [e1]; rfl⟩
        | succ j => exact zipE_at e2 j x' y' (by simpa using h1) (by simpa using h2)
theorem op_neX {pins : List (Addr × Obj)} {σ : L2.St} {s : Shared} {dx dy : D} {x y : V} {v u : Value} {d : Bool} {Q : VK} (hu : X.A.units + 64 < cLine) (I : Inv X pins σ H s) (rx : L2.RelV x v) (ry : L2.RelV y u) (S : SI X.K ga ms Γ μ H) (hx : Rep X.K ga ms Γ dx x) (hy : Rep X.K ga ms Γ dy y)
    (e : neX dx dy = some d) (q : Q (.bl d) H) : wpAny (model X.prog X.w) X.A (compareOp .NotEq v u) (EP X pins σ Q) X.xe s := by
  unfold neX at e
  split at e
  · cases e
    obtain ⟨a, rfl, hd⟩ := dic_at I S hx rx
    unfold Rep at hy
    obtain ⟨b, vs, rfl, h1, _, _⟩ := hy
    cases ry
    obtain ⟨its, rv, p, hz⟩ := I.tuple (h1.mono S.sub).seq
    exact RcNeAt.dict_tuple hd p (by omega) X.prog X.w X.xe _ ⟨.bl true, H, I, rfl, q⟩
  · rename_i xs ys
    obtain ⟨r, e0, rfl⟩ := map_not e
    unfold Rep at hx hy
    obtain ⟨a, vs, rfl, h1, _, h3⟩ := hx
    obtain ⟨b, us, rfl, g1, _, g3⟩ := hy
    cases rx; cases ry
    obtain ⟨its, rv, p, hz⟩ := I.tuple (h1.mono S.sub).seq
    obtain ⟨its2, rv2, p2, hz2⟩ := I.tuple (g1.mono S.sub).seq
    have n1 : its.toArray.size = xs.length := by rw [List.size_toArray, ← rv.length, h3.length]
    have n2 : its2.toArray.size = ys.length := by rw [List.size_toArray, ← rv2.length, g3.length]
    refine SeqAt.RcNeAt.tuples (e := pairE xs ys) p p2 (by omega) (fun j j1 j2 => ?_) X.prog X.w X.xe _ ⟨.bl (!r), H, I, ?_, q⟩
    · have hx : xs[j]? = some xs[j] := List.getElem?_eq_getElem (by rw [← n1]; exact j1)
      have hy : ys[j]? = some ys[j] := List.getElem?_eq_getElem (by rw [← n2]; exact j2)
      obtain ⟨bb, z1, z2⟩ := zipE_at e0 j _ _ hx hy
      obtain ⟨x', w1, w2⟩ := h3.get hx
      obtain ⟨y', w3, w4⟩ := g3.get hy
      obtain ⟨u1, w5, w6⟩ := rv.get w1
      obtain ⟨u2, w7, w8⟩ := rv2.get w3
      rw [z2]
      have f1 : its.toArray[j] = u1 := by
        simpa using (List.getElem?_eq_some_iff.mp (show its[j]? = some u1 from w5)).2
      have f2 : its2.toArray[j] = u2 := by
        simpa using (List.getElem?_eq_some_iff.mp (show its2[j]? = some u2 from w7)).2
      rw [f1, f2]
      exact eqE_at hu I S w2 w4 w6 w8 z1
    · rw [zipE_eq e0, n1, n2]
      rfl
  · cases e
theorem op_cmp (ga : Str → Addr) (op : COp) (hu : X.A.units + 64 < cLine) : OpR X (compareOp (opC op)) (r2B X ga (cmpop op)) := by
  intro pins s σ H x y v u Q I rx ry h
  obtain ⟨ms, Γ, μ, dx, dy, d, ⟨S, hx, hy⟩, e, q⟩ := h
  have q := q.bl S
  have eqv_of : ∀ {k : Bool}, eqD dx dy = some k → ∃ p p', Dp X.K H x p ∧ Dp X.K H y p' ∧ SeqAt.shaped p = true ∧ SeqAt.shaped p' = true ∧ k = PyData.eqv p p' := fun {k} h => by
    obtain ⟨p, p', e1, e2, s1, s2, e3⟩ := eqD_some h
    exact ⟨p, p', rep_dp S.sub _ _ _ hx e1, rep_dp S.sub _ _ _ hy e2, s1, s2, e3⟩
  unfold cmpop at e
  split at e
  · obtain ⟨p, p', h1, h2, s1, s2, e3⟩ := eqv_of e
    subst e3
    exact op_eqD hu pins s σ H x y v u Q I rx ry ⟨p, p', h1, h2, s1, s2, q⟩
  · unfold neD at e
    cases e0 : eqD dx dy with
    | some b =>
      rw [e0] at e
      cases e
      obtain ⟨p, p', h1, h2, s1, s2, e3⟩ := eqv_of e0
      subst e3
      exact op_neD hu pins s σ H x y v u Q I rx ry ⟨p, p', h1, h2, s1, s2, q⟩
    | none =>
      rw [e0] at e
      exact op_neX hu I rx ry S hx hy (show neX dx dy = some d from e) q
  · cases e; unfold Rep at hx hy
    exact op_lt pins s σ H x y v u Q I rx ry ⟨_, _, hx, hy, q⟩
  · cases e; unfold Rep at hx hy
    exact op_le pins s σ H x y v u Q I rx ry ⟨_, _, hx, hy, q⟩
  · cases e; unfold Rep at hx hy
    exact op_gt pins s σ H x y v u Q I rx ry ⟨_, _, hx, hy, q⟩
  · cases e; unfold Rep at hx hy
    exact op_ge pins s σ H x y v u Q I rx ry ⟨_, _, hx, hy, q⟩
  · cases e; unfold Rep at hx hy
    exact op_lt_str pins s σ H x y v u Q I rx ry ⟨_, _, hx.1, hy.1, q⟩
  · cases e; unfold Rep at hx hy
    exact op_isBl pins s σ H x y v u Q I rx ry ⟨_, _, hx, hy, q⟩
  · cases e; unfold Rep at hx hy
    exact op_notBl pins s σ H x y v u Q I rx ry ⟨_, _, hx, hy, q⟩
  · cases e
    have hy' := hy
    unfold Rep at hy'
    exact op_isN pins s σ H x y v u Q I rx ry ⟨hy', by rw [rep_isNon hx]; exact q⟩
  · cases e
    have hy' := hy
    unfold Rep at hy'
    exact op_notN pins s σ H x y v u Q I rx ry ⟨hy', by rw [rep_isNon hx]; exact q⟩
  · rcases inSeq_some e with ⟨f1, f2, rfl⟩ | ⟨p, qs, e1, e2, s1, s2, s3, rfl⟩
    · unfold Rep at hy
      obtain ⟨a, vs, rfl, h1, h2, h3⟩ := hy
      refine op_in_seq pins s σ H x _ v u Q I rx ry ⟨a, vs, rfl, .inr (h1.mono S.sub).seq, flat_rep hx f1, flats_rep h3 f2, ?_⟩
      rw [any_rep hx f1 h3 f2]; exact q
    · exact op_inP hu pins s σ H x y v u Q I rx ry ⟨p, qs, rep_dp S.sub _ _ _ hx e1, .inl (rep_dp S.sub (.tup _) _ _ hy (by unfold toP; rw [e2]; rfl)), s1, s2, s3, q⟩
  · rcases inSeq_some e with ⟨f1, f2, rfl⟩ | ⟨p, qs, e1, e2, s1, s2, s3, rfl⟩
    · unfold Rep at hy
      obtain ⟨a, vs, rfl, h1, h2, h3⟩ := hy
      refine op_in_seq pins s σ H x _ v u Q I rx ry ⟨a, vs, rfl, .inl (SqL.of (S.sub _ _ h1)), flat_rep hx f1, flats_rep h3 f2, ?_⟩
      rw [any_rep hx f1 h3 f2]; exact q
    · exact op_inP hu pins s σ H x y v u Q I rx ry ⟨p, qs, rep_dp S.sub _ _ _ hx e1, .inr (rep_dp S.sub (.lst _) _ _ hy (by unfold toP; rw [e2]; rfl)), s1, s2, s3, q⟩
  · obtain ⟨b, e0, rfl⟩ := map_not e
    rcases inSeq_some e0 with ⟨f1, f2, rfl⟩ | ⟨p, qs, e1, e2, s1, s2, s3, rfl⟩
    · unfold Rep at hy
      obtain ⟨a, vs, rfl, h1, h2, h3⟩ := hy
      refine op_notIn_seq pins s σ H x _ v u Q I rx ry ⟨a, vs, rfl, .inr (h1.mono S.sub).seq, flat_rep hx f1, flats_rep h3 f2, ?_⟩
      rw [any_rep hx f1 h3 f2]; exact q
    · exact op_notInP hu pins s σ H x y v u Q I rx ry ⟨p, qs, rep_dp S.sub _ _ _ hx e1, .inl (rep_dp S.sub (.tup _) _ _ hy (by unfold toP; rw [e2]; rfl)), s1, s2, s3, q⟩
  · obtain ⟨b, e0, rfl⟩ := map_not e
    rcases inSeq_some e0 with ⟨f1, f2, rfl⟩ | ⟨p, qs, e1, e2, s1, s2, s3, rfl⟩
    · unfold Rep at hy
      obtain ⟨a, vs, rfl, h1, h2, h3⟩ := hy
      refine op_notIn_seq pins s σ H x _ v u Q I rx ry ⟨a, vs, rfl, .inl (SqL.of (S.sub _ _ h1)), flat_rep hx f1, flats_rep h3 f2, ?_⟩
      rw [any_rep hx f1 h3 f2]; exact q
    · exact op_notInP hu pins s σ H x y v u Q I rx ry ⟨p, qs, rep_dp S.sub _ _ _ hx e1, .inr (rep_dp S.sub (.lst _) _ _ hy (by unfold toP; rw [e2]; rfl)), s1, s2, s3, q⟩
  · obtain ⟨c, e1, rfl⟩ := strIn_some e
    unfold Rep at hx hy
    refine op_in_sign pins s σ H x y v u Q I rx ry ⟨c, _, ?_, hy.1, q⟩
    rw [← e1]; exact hx.1
  · obtain ⟨b, e0, rfl⟩ := map_not e
    obtain ⟨c, e1, rfl⟩ := strIn_some e0
    unfold Rep at hx hy
    refine op_notIn_sign pins s σ H x y v u Q I rx ry ⟨c, _, ?_, hy.1, q⟩
    rw [← e1]; exact hx.1
  · cases e
/-! ### truth -/
theorem tru_rep {d : D} {v : V} {k : Bool} (le : Same Γ H) (h : Rep X.K ga ms Γ d v) (e : truthy d = some k) : TruV X.K v H k := by
  cases d with
  | non => cases e; unfold Rep at h; subst h; rfl
  | bl b => cases e; unfold Rep at h; subst h; rfl
  | int i => cases e; unfold Rep at h; subst h; rfl
  | str z =>
    cases e; unfold Rep at h
    obtain ⟨h, hz⟩ := h
    subst h
    refine ⟨hz, ?_⟩
    cases z.length with
    | zero => rfl
    | succ n => simp; omega
  | tup xs =>
    cases e; unfold Rep at h
    obtain ⟨a, vs, rfl, h1, _, h3⟩ := h
    refine .inr (.inl ⟨vs, (h1.mono le).seq, ?_⟩)
    cases xs with
    | nil => rw [h3.nil_iff]; rfl
    | cons x xs => obtain ⟨_, _, rfl, _⟩ := h3.cons_iff; rfl
  | lst xs =>
    cases e; unfold Rep at h
    obtain ⟨a, vs, rfl, h1, _, h3⟩ := h
    refine .inl ⟨vs, SqL.of (le _ _ h1), ?_⟩
    cases xs with
    | nil => rw [h3.nil_iff]; rfl
    | cons x xs => obtain ⟨_, _, rfl, _⟩ := h3.cons_iff; rfl
  | _ => cases e
/-! ### subscripts -/
def r2I (X : Cx) (ga : Str → Addr) : R2 := fun x y H Q => ∃ ms Γ μ dx dy d, At2 X ga ms Γ μ H dx dy x y ∧ idxD dx dy μ = some d ∧ PD X ga ms Γ μ H d Q
theorem atI_rep {xs : List D} {vs : List V} {i : Int} {d : D} (r : Reps X.K ga ms Γ xs vs) (h : L2.atI xs i = some d) : ∃ v, L2.atI vs i = some v ∧ Rep X.K ga ms Γ d v := by
  unfold L2.atI at h ⊢
  rw [← r.length]
  cases e : L2.ixN xs.length i with
  | none => rw [e] at h; cases h
  | some j =>
    rw [e] at h
    have h : xs[j]? = some d := h
    obtain ⟨v, h1, h2⟩ := r.get h
    exact ⟨v, h1, h2⟩
theorem map_some {α β : Type} {o : Option α} {f : α → β} {b : β} (h : o.map f = some b) : ∃ a, o = some a ∧ b = f a := by
  cases o with
  | none => cases h
  | some a => cases h; exact ⟨a, rfl, rfl⟩
theorem op_idx (ga : Str → Addr) : IxR X (r2I X ga) := by
  intro value slice pins s σ H x y v u Q I rx ry h hs
  obtain ⟨ms, Γ, μ, dx, dy, d, ⟨S, hx, hy⟩, e, q⟩ := h
  unfold idxD at e
  split at e
  · unfold Rep at hx hy
    obtain ⟨a, vs, rfl, h1, _, h3⟩ := hx
    obtain ⟨w, e1, e2⟩ := atI_rep h3 e
    exact ix_tup value slice pins s σ H _ y v u Q I rx ry ⟨a, vs, _, w, rfl, hy, (h1.mono S.sub).seq, e1, q.here S e2⟩ hs
  · unfold Rep at hx hy
    obtain ⟨a, vs, rfl, h1, _, h3⟩ := hx
    obtain ⟨w, e1, e2⟩ := atI_rep h3 e
    exact ix_list value slice pins s σ H _ y v u Q I rx ry ⟨a, vs, _, w, rfl, hy, SqL.of (S.sub _ _ h1), e1, q.here S e2⟩ hs
  · unfold Rep at hx hy
    obtain ⟨a, rfl, h1, _⟩ := hx
    obtain ⟨n, e0, rfl⟩ := map_some e
    refine ix_list value slice pins s σ H _ y v u Q I rx ry ⟨a, _, _, .int n, rfl, hy, S.sub.seq h1, ?_, q.int S⟩ hs
    unfold L2.atI at e0 ⊢
    rw [List.length_map]
    rename_i ns i _
    cases e1 : L2.ixN ns.length i with
    | none => rw [e1] at e0; cases e0
    | some j =>
      rw [e1] at e0
      have e2 : ns[j]? = some n := e0
      show (List.map V.int ns)[j]? = _
      rw [List.getElem?_map, e2]
      rfl
  · unfold Rep at hx hy
    obtain ⟨c, e0, rfl⟩ := map_some e
    exact ix_str value slice pins s σ H x y v u Q I rx ry ⟨_, _, c, hx.1, hy, hx.2, e0, q.str S (by show 1 ≤ sizeLine; rw [sizeLine_eq]; decide)⟩ hs
  · split at e
    · rename_i xs hl
      unfold Rep at hx hy
      obtain ⟨a, rfl, h1⟩ := hx
      obtain ⟨vs, h2, _, h3⟩ := S.st _ _ a hl h1
      obtain ⟨w, e1, e2⟩ := atI_rep h3 e
      exact ix_list value slice pins s σ H _ y v u Q I rx ry ⟨a, vs, _, w, rfl, hy, SqL.of h2, e1, q.here S e2⟩ hs
    · cases e
  · cases e
/-! ### built-in functions -/
def bltVal : Blt → Value
  | .len => .builtin "len" | .abs => .builtin "abs" | .max2 => .builtin "max" | .min2 => .builtin "min" | .int1 => .type "int" | .list1 => .type "list" | .tuple1 => .type "tuple"
  | .isinst => .builtin "isinstance" | .all1 => .builtin "all" | .any1 => .builtin "any" | .sorted1 => .builtin "sorted"
def rBlt (X : Cx) (ga : Str → Addr) (f : Blt) : List V → Hp → VK → Prop := fun vs H Q => ∃ ms Γ μ ds d, SI X.K ga ms Γ μ H ∧ Reps X.K ga ms Γ ds vs ∧ blt f ds = some d ∧ PD X ga ms Γ μ H d Q
theorem isB_ok {t T : String} {b : Bool} (ht : t ∈ ["NoneType", "bool", "int", "str", "tuple", "list", "dict"]) (h : isB t T = some b) : kitB t T = some b := by
  have key : ∀ t ∈ ["NoneType", "bool", "int", "str", "tuple", "list", "dict"], ∀ T ∈ ["int", "bool", "str", "tuple", "list", "dict"], kitB t T = isB t T := by decide +kernel
  have hT : T ∈ ["int", "bool", "str", "tuple", "list", "dict"] := by
    unfold isB at h
    split at h
    · rename_i e; subst e; decide
    · split at h
      · rename_i e; subst e; decide
      · split at h
        · rename_i e; subst e; decide
        · split at h
          · rename_i e; subst e; decide
          · split at h
            · rename_i e; subst e; decide
            · split at h
              · rename_i e; subst e; decide
              · cases h
  rw [key t ht T hT, h]
theorem ty_rep {d : D} {v : V} {t : String} (le : Same Γ H) (h : Rep X.K ga ms Γ d v) (e : tyN d = some t) : TyX X.K H v (.type t) ∧ t ∈ ["NoneType", "bool", "int", "str", "tuple", "list", "dict"] := by
  cases d with
  | non => cases e; unfold Rep at h; subst h; exact ⟨.base .non, by decide⟩
  | bl b => cases e; unfold Rep at h; subst h; exact ⟨.base (.bl b), by decide⟩
  | int b => cases e; unfold Rep at h; subst h; exact ⟨.base (.int b), by decide⟩
  | str b => cases e; unfold Rep at h; obtain ⟨h, _⟩ := h; subst h; exact ⟨.base (.str b), by decide⟩
  | tup b =>
    cases e; unfold Rep at h
    obtain ⟨a, vs, rfl, h1, _⟩ := h
    rcases h1 with ⟨o, h1, _⟩ | ⟨o, its, n, h1, h2, _⟩
    · exact ⟨.fTuple (le _ _ h1), by decide⟩
    · exact ⟨.kTuple h1 h2, by decide⟩
  | lst b =>
    cases e; unfold Rep at h
    obtain ⟨a, vs, rfl, h1, _⟩ := h
    exact ⟨.base (.lst (le _ _ h1)), by decide⟩
  | dct b =>
    cases e; unfold Rep at h
    obtain ⟨a, vs, rfl, h1, _⟩ := h
    exact ⟨.base (.dK (le _ _ h1)), by decide⟩
  | _ => cases e
theorem bools_rep : ∀ {ds : List D} {vs : List V} {bs : List Bool}, Reps X.K ga ms Γ ds vs → bools ds = some bs → vs = bs.map V.bl
  | [], vs, bs, h, e => by unfold bools at e; cases e; exact h.nil_iff
  | d :: ds, vs, bs, h, e => by
    obtain ⟨v, r, rfl, h1, h2⟩ := h.cons_iff
    cases d with
    | bl b =>
      obtain ⟨cs, e1, rfl⟩ := map_some (show (bools ds).map (b :: ·) = some bs from e)
      unfold Rep at h1
      subst h1
      rw [bools_rep h2 e1]
      rfl
    | _ => simp [bools] at e
theorem reps1 {d : D} {vs : List V} (h : Reps X.K ga ms Γ [d] vs) : ∃ v, vs = [v] ∧ Rep X.K ga ms Γ d v := by
  obtain ⟨v, r, rfl, h1, h2⟩ := h.cons_iff
  rw [h2.nil_iff]
  exact ⟨v, rfl, h1⟩
theorem reps2 {d e : D} {vs : List V} (h : Reps X.K ga ms Γ [d, e] vs) : ∃ v u, vs = [v, u] ∧ Rep X.K ga ms Γ d v ∧ Rep X.K ga ms Γ e u := by
  obtain ⟨v, r, rfl, h1, h2⟩ := h.cons_iff
  obtain ⟨u, rfl, h3⟩ := reps1 h2
  exact ⟨v, u, rfl, h1, h3⟩
theorem strl_rep {K : PySem.W.Frag} {ga : Str → Addr} {ms : List Addr} {Γ : Hp} : ∀ cs : List Nat, Reps K ga ms Γ (cs.map fun c => D.str ⟨#[c]⟩) (cs.map fun c => V.str ⟨#[c]⟩)
  | [] => Reps.nil
  | c :: cs => Reps.cons (by unfold Rep; exact ⟨rfl, by show 1 ≤ sizeLine; rw [sizeLine_eq]; decide⟩) (strl_rep cs)
theorem signs_vals {z : Str} : ∀ {acc : List Value} {cs : List Nat}, acc.length = cs.length → (∀ (j : Nat) (v : Value), acc[j]? = some v → ∃ (c : Nat) (u : Tok), cs[j]? = some c ∧ v = Value.str ⟨#[c]⟩ u) → Vals (cs.map fun c => V.str ⟨#[c]⟩) acc
  | [], [], _, _ => .nil
  | [], _ :: _, h, _ => by simp at h
  | _ :: _, [], h, _ => by simp at h
  | v :: acc, c :: cs, h, f => by
    obtain ⟨c', u, e1, e2⟩ := f 0 v rfl
    have e1 : c = c' := by simpa using e1
    subst e1
    exact .cons ⟨u, e2⟩ (signs_vals (z := z) (by simpa using h) fun j w hj => by
      obtain ⟨c2, u2, e3, e4⟩ := f (j + 1) w (by simpa using hj)
      exact ⟨c2, u2, by simpa using e3, e4⟩)
theorem call_list_strL (hc : X.calm = true) : CallR X (.type "list") (fun xs H Q => ∃ z, xs = [.str z] ∧ z.length ≤ sizeLine ∧ ∀ l, H l = none → Q (.ref l) (upd H l (.lst (z.cps.toList.map fun c => V.str ⟨#[c]⟩)))) := by
  intro pins s σ H xs us Q I r h
  obtain ⟨z, rfl, hz, q⟩ := h
  obtain ⟨u, rfl, t, rfl⟩ := vals1 r
  refine PySem.call_list_str (I.ok.hd hc) z t (fun h' tk acc c' kp e hi => ?_) (by simpa [Str.length] using hz)
  have hv : Vals (z.cps.toList.map fun c => V.str ⟨#[c]⟩) acc.toList := by
    refine signs_vals (z := z) (by simpa using hi.1) fun j v hj => ?_
    obtain ⟨c, u, e1, e2⟩ := hi.2 j v (by simpa using hj)
    exact ⟨c, u, by simpa using e1, e2⟩
  refine ⟨.ref s.heap.objs.size, _, I.laid (t' := tk) (o := .lst (z.cps.toList.map fun c => V.str ⟨#[c]⟩)) kp (Nat.le_refl _) ?_, rfl, q _ (I.hok.fresh (Nat.le_refl _))⟩
  exact ⟨by rw [List.length_map]; simpa [Str.length] using hz, acc.toList, c', hv, by simpa using e⟩
theorem strs_rep : ∀ {ds : List D} {vs : List V} {ys : List Str}, Reps X.K ga ms Γ ds vs → strsD ds = some ys → vs = ys.map V.str
  | [], vs, ys, h, e => by unfold strsD at e; cases e; exact h.nil_iff
  | d :: ds, vs, ys, h, e => by
    obtain ⟨v, r, rfl, h1, h2⟩ := h.cons_iff
    cases d with
    | str b =>
      obtain ⟨cs, e1, rfl⟩ := map_some (show (strsD ds).map (b :: ·) = some ys from e)
      unfold Rep at h1
      obtain ⟨h1, _⟩ := h1
      subst h1
      rw [strs_rep h2 e1]
      rfl
    | _ => simp [strsD] at e
theorem strs_len : ∀ {ds : List D} {vs : List V} {ys : List Str}, Reps X.K ga ms Γ ds vs → strsD ds = some ys → ∀ z ∈ ys, z.length ≤ sizeLine
  | [], vs, ys, h, e => by unfold strsD at e; cases e; intro z hz; cases hz
  | d :: ds, vs, ys, h, e => by
    obtain ⟨v, r, rfl, h1, h2⟩ := h.cons_iff
    cases d with
    | str b =>
      obtain ⟨cs, e1, rfl⟩ := map_some (show (strsD ds).map (b :: ·) = some ys from e)
      unfold Rep at h1
      intro z hz
      rcases List.mem_cons.mp hz with rfl | hz
      · exact h1.2
      · exact strs_len h2 e1 z hz
    | _ => simp [strsD] at e
theorem strs_reps {K : PySem.W.Frag} {ga : Str → Addr} {ms : List Addr} {Γ : Hp} : ∀ {zs : List Str}, (∀ z ∈ zs, z.length ≤ sizeLine) → Reps K ga ms Γ (zs.map D.str) (zs.map V.str)
  | [], _ => Reps.nil
  | z :: zs, h => Reps.cons (by unfold Rep; exact ⟨rfl, h z (List.mem_cons_self ..)⟩) (strs_reps fun y hy => h y (List.mem_cons_of_mem _ hy))
theorem op_blt (ga : Str → Addr) (hc : X.calm = true) (f : Blt) : CallR X (bltVal f) (rBlt X ga f) := by
  intro pins s σ H vs us Q I r h
  obtain ⟨ms, Γ, μ, ds, d, S, hr, e, q⟩ := h
  unfold blt at e
  split at e
  · obtain ⟨n, e0, rfl⟩ := map_some e
    obtain ⟨v, rfl, hx⟩ := reps1 hr
    refine call_len pins s σ H _ us Q I r ⟨v, n, rfl, ?_, q.int S⟩
    rename_i x
    cases x with
    | str z => cases e0; unfold Rep at hx; obtain ⟨hx, hz⟩ := hx; subst hx; exact ⟨hz, rfl⟩
    | tup xs =>
      cases e0; unfold Rep at hx
      obtain ⟨a, vs, rfl, h1, _, h3⟩ := hx
      exact .inr ⟨vs, (h1.mono S.sub).seq, h3.length⟩
    | lst xs =>
      cases e0; unfold Rep at hx
      obtain ⟨a, vs, rfl, h1, _, h3⟩ := hx
      exact .inl ⟨vs, SqL.of (S.sub _ _ h1), h3.length⟩
    | scr ns =>
      cases e0; unfold Rep at hx
      obtain ⟨a, rfl, h1, _⟩ := hx
      exact .inl ⟨_, S.sub.seq h1, by rw [List.length_map]⟩
    | _ => cases e0
  · cases e
    obtain ⟨v, rfl, hx⟩ := reps1 hr
    unfold Rep at hx; subst hx
    exact call_abs pins s σ H _ us Q I r ⟨_, rfl, q.int S⟩
  · cases e
    obtain ⟨v, u, rfl, hx, hy⟩ := reps2 hr
    unfold Rep at hx hy; subst hx hy
    exact call_max2 hc pins s σ H _ us Q I r ⟨_, _, rfl, q.int S⟩
  · cases e
    obtain ⟨v, u, rfl, hx, hy⟩ := reps2 hr
    unfold Rep at hx hy; subst hx hy
    exact call_min2 hc pins s σ H _ us Q I r ⟨_, _, rfl, q.int S⟩
  · cases e
    obtain ⟨v, rfl, hx⟩ := reps1 hr
    unfold Rep at hx; subst hx
    exact call_int1 pins s σ H _ us Q I r (.inl ⟨_, rfl, q.int S⟩)
  · cases e
    obtain ⟨v, rfl, hx⟩ := reps1 hr
    unfold Rep at hx; subst hx
    exact call_int1 pins s σ H _ us Q I r (.inr ⟨_, rfl, q.int S⟩)
  · cases e
    obtain ⟨v, rfl, hx⟩ := reps1 hr
    unfold Rep at hx
    obtain ⟨a, vs, rfl, h1, h2, h3⟩ := hx
    exact call_list_of pins s σ H _ us Q I r ⟨a, vs, rfl, .inr (h1.mono S.sub).seq, q.newL S h3 h2⟩
  · cases e
    obtain ⟨v, rfl, hx⟩ := reps1 hr
    unfold Rep at hx
    obtain ⟨a, vs, rfl, h1, h2, h3⟩ := hx
    exact call_list_of pins s σ H _ us Q I r ⟨a, vs, rfl, .inl (SqL.of (S.sub _ _ h1)), q.newL S h3 h2⟩
  · cases e
    obtain ⟨v, rfl, hx⟩ := reps1 hr
    unfold Rep at hx
    obtain ⟨e, hz⟩ := hx
    subst e
    exact call_list_strL hc pins s σ H _ us Q I r ⟨_, rfl, hz, q.newL S (strl_rep _) (by rw [List.length_map]; simpa [Str.length] using hz)⟩
  · cases e
    obtain ⟨v, rfl, hx⟩ := reps1 hr
    have hx' := hx
    unfold Rep at hx
    obtain ⟨a, vs, rfl, h1, h2, h3⟩ := hx
    exact call_tuple_ofF pins s σ H _ us Q I r ⟨a, vs, rfl, .inr ⟨(h1.mono S.sub).seq, q.here S hx'⟩⟩
  · cases e
    obtain ⟨v, rfl, hx⟩ := reps1 hr
    unfold Rep at hx
    obtain ⟨a, vs, rfl, h1, h2, h3⟩ := hx
    exact call_tuple_ofF pins s σ H _ us Q I r ⟨a, vs, rfl, .inl ⟨SqL.of (S.sub _ _ h1), q.newT S h3 h2⟩⟩
  · obtain ⟨v, u, rfl, hx, hy⟩ := reps2 hr
    split at e
    · rename_i t ht
      obtain ⟨b, e0, rfl⟩ := map_some e
      obtain ⟨ty, hm⟩ := ty_rep S.sub hx ht
      unfold Rep at hy; subst hy
      exact call_isi pins s σ H _ us Q I r ⟨v, _, _, _, b, rfl, .ty _, ty, kit_ty (isB_ok hm e0), q.bl S⟩
    · cases e
  · obtain ⟨v, rfl, hx⟩ := reps1 hr
    obtain ⟨bs, e0, rfl⟩ := map_some e
    unfold Rep at hx
    obtain ⟨a, vs, rfl, h1, h2, h3⟩ := hx
    refine cr_all hc pins s σ H _ us Q I r ⟨a, bs, rfl, ?_, q.bl S⟩
    rw [← bools_rep h3 e0]
    exact SqL.of (S.sub _ _ h1)
  · obtain ⟨v, rfl, hx⟩ := reps1 hr
    obtain ⟨bs, e0, rfl⟩ := map_some e
    unfold Rep at hx
    obtain ⟨a, vs, rfl, h1, h2, h3⟩ := hx
    refine cr_any hc pins s σ H _ us Q I r ⟨a, bs, rfl, ?_, q.bl S⟩
    rw [← bools_rep h3 e0]
    exact SqL.of (S.sub _ _ h1)
  · obtain ⟨v, rfl, hx⟩ := reps1 hr
    split at e
    · rename_i ys hy
      split at e
      · rename_i hz
        cases e
        unfold Rep at hx
        obtain ⟨a, vs, rfl, h1, h2, h3⟩ := hx
        have ev := strs_rep h3 hy
        have hl := strs_len h3 hy
        refine cr_sortedS pins s σ H _ us Q I r ⟨a, ys, rfl, by rw [← ev]; exact SqL.of (S.sub _ _ h1), hz, fun zs p hp hs hn => ?_⟩
        rw [sorted_is hp hs]
        refine q.newL S (vs := (sortS ys).map V.str) (strs_reps fun z hm => hl z ((sort_perm ys).mem_iff.mp hm)) ?_ p hn
        rw [List.length_map, (sort_perm ys).length_eq]
        exact small64 hz
      · cases e
    · cases e
  · cases e
/-! ### methods -/
def rIndexT (K : PySem.W.Frag) : V → List V → Hp → VK → Prop := fun x xs H Q => ∃ (a : Addr) (ys : List V) (y : V) (j : Nat) (z : V), x = V.ref a ∧ xs = [y] ∧ SqT K H a ys ∧ flatV y = true ∧ ys.all flatV = true ∧ ys[j]? = some z ∧ eqV z y = true ∧
  (∀ (m : Nat) (z' : V), m < j → ys[m]? = some z' → eqV z' y = false) ∧ Q (.int (j : Nat)) H
theorem mt_tindex : MtR X "tuple.index" (rIndexT X.K) := by
  intro pins s σ H x xs v us Q I rx rxs h
  obtain ⟨a, ys, y, j, z, rfl, rfl, hs, fy, fys, hz, hzj, hno, q⟩ := h
  cases rx
  obtain ⟨uy, rfl, ry⟩ := vals1 rxs
  obtain ⟨its, rv, ⟨⟨cls, dd, data, sl⟩, ho, hc, n, hd⟩, hlen⟩ := I.tuple hs
  simp only at hc hd
  subst hc hd
  obtain ⟨u, hu, ru⟩ := rv.get hz
  obtain ⟨hjl, hje⟩ := List.getElem?_eq_some_iff.mp hu
  have hvl := rv.length
  have hj : j < its.toArray.size := by simpa using hjl
  refine call_meets PySem.F.slot_tuple_index ⟨_, ho, rfl⟩ PySem.F.entry_tuple_index (PySem.F.args_tuple_index_2 _ _)
    (TI.tuple_indexAt a its.toArray n dd sl uy (eqU y) j hj ?_ ?_) ⟨ho, fun u' hu' => mem_eqAt ry fy rv fys u' (by simpa using hu'), ?_⟩
  · have e1 : its.toArray[j] = u := by simpa using hje
    rw [e1, eqU_of ru (flat_at fys hz)]
    exact hzj
  · intro m hm hmj
    have hml : m < its.length := by simpa using hm
    have hmy : m < ys.length := by omega
    have hy' : ys[m]? = some ys[m] := List.getElem?_eq_getElem hmy
    obtain ⟨u2, hu2, ru2⟩ := rv.get hy'
    obtain ⟨_, hme⟩ := List.getElem?_eq_some_iff.mp hu2
    have e1 : its.toArray[m] = u2 := by simpa using hme
    rw [e1, eqU_of ru2 (flat_at fys hy')]
    exact hno m _ hmj hy'
  · exact ⟨.int (j : Nat), H, I.tok _, ⟨_, rfl⟩, q⟩
theorem index_rep {y : D} {w : V} (hy : Rep X.K ga ms Γ y w) (fy : flat y = true) : ∀ {ds : List D} {vs : List V} {n k : Nat}, Reps X.K ga ms Γ ds vs → ds.all flat = true → index y ds n = some k →
    n ≤ k ∧ ∃ z, vs[k - n]? = some z ∧ eqV z w = true ∧ ∀ (m : Nat) (z' : V), m < k - n → vs[m]? = some z' → eqV z' w = false
  | [], _, _, _, _, _, e => by unfold index at e; cases e
  | x :: xs, vs, n, k, h, f, e => by
    obtain ⟨v, r, rfl, h1, h2⟩ := h.cons_iff
    have f := Bool.and_eq_true_iff.mp (show (flat x && xs.all flat) = true from f)
    unfold index at e
    have ev := eqF_rep h1 hy f.1 fy
    split at e
    · rename_i he
      cases e
      refine ⟨Nat.le_refl _, v, by rw [Nat.sub_self]; rfl, by rw [ev]; exact he, fun m z' hm _ => ?_⟩
      rw [Nat.sub_self] at hm
      exact absurd hm (Nat.not_lt_zero _)
    · rename_i he
      obtain ⟨i1, z, i2, i3, i4⟩ := index_rep hy fy h2 f.2 e
      have e1 : k - n = (k - (n + 1)) + 1 := by omega
      refine ⟨by omega, z, by rw [e1, List.getElem?_cons_succ]; exact i2, i3, fun m z' hm hz => ?_⟩
      cases m with
      | zero =>
        have hz : v = z' := by simpa using hz
        subst hz
        rw [ev]
        exact Bool.eq_false_iff.mpr he
      | succ m => exact i4 m z' (by omega) (by simpa using hz)
def mthTy : Mth → String
  | .join => "str" | .tindex => "tuple" | .lindex => "list"
def mthNm : Mth → Str
  | .join => "join" | .tindex => "index" | .lindex => "index"
def mthId : Mth → String
  | .join => "str.join" | .tindex => "tuple.index" | .lindex => "list.index"
def rMth (X : Cx) (ga : Str → Addr) (m : Mth) : V → List V → Hp → VK → Prop := fun x vs H Q => ∃ ms Γ μ dx ds d, SI X.K ga ms Γ μ H ∧ Rep X.K ga ms Γ dx x ∧ Reps X.K ga ms Γ ds vs ∧ meth m dx ds = some d ∧ PD X ga ms Γ μ H d Q
theorem join_len (a : Str) (ys : List Str) (h : (ys.map (·.length)).sum + ys.length * a.length ≤ 16777216) : (Str.join a ys).length ≤ sizeLine := by
  rw [sizeLine_eq]
  exact Nat.le_trans (StrLaws.join_length_le a ys) h
theorem op_mth (ga : Str → Addr) (m : Mth) : MtR X (mthId m) (rMth X ga m) := by
  intro pins s σ H x vs v us Q I rx r h
  obtain ⟨ms, Γ, μ, dx, ds, d, S, hx, hr, e, q⟩ := h
  unfold meth at e
  split at e
  · split at e
    · rename_i ys he
      split at e
      · rename_i hz
        cases e
        obtain ⟨w, rfl, hy⟩ := reps1 hr
        unfold Rep at hx hy
        obtain ⟨p, vs, rfl, h1, h2, h3⟩ := hy
        refine mt_join pins s σ H x _ v us Q I rx r ⟨_, p, ys, hx.1, rfl, .inl ?_, hz, by rw [TL.join_eq]; exact q.str S (join_len _ _ hz)⟩
        rw [← strs_rep h3 he]
        exact SqL.of (S.sub _ _ h1)
      · cases e
    · cases e
  · split at e
    · rename_i hf
      obtain ⟨n, e0, rfl⟩ := map_some e
      obtain ⟨w, rfl, hy⟩ := reps1 hr
      obtain ⟨f1, f2⟩ := Bool.and_eq_true_iff.mp hf
      unfold Rep at hx
      obtain ⟨p, vs, rfl, h1, h2, h3⟩ := hx
      obtain ⟨_, z, i2, i3, i4⟩ := index_rep hy f1 h3 f2 e0
      exact mt_tindex pins s σ H _ _ v us Q I rx r ⟨p, vs, w, n, z, rfl, rfl, (h1.mono S.sub).seq, flat_rep hy f1, flats_rep h3 f2, i2, i3, i4, q.int S⟩
    · cases e
  · split at e
    · rename_i hf
      obtain ⟨n, e0, rfl⟩ := map_some e
      obtain ⟨w, rfl, hy⟩ := reps1 hr
      obtain ⟨f1, f2⟩ := Bool.and_eq_true_iff.mp hf
      unfold Rep at hx
      obtain ⟨p, vs, rfl, h1, h2, h3⟩ := hx
      obtain ⟨_, z, i2, i3, i4⟩ := index_rep hy f1 h3 f2 e0
      exact mt_index pins s σ H _ _ v us Q I rx r ⟨p, vs, w, n, z, rfl, rfl, SqL.of (S.sub _ _ h1), flat_rep hy f1, flats_rep h3 f2, i2, i3, i4, q.int S⟩
    · cases e
  · cases e
end
section
variable {X : Cx} {ga : Str → Addr} {ms : List Addr} {Γ : Hp} {μ : Store} {H : Hp}
/-! ### slices -/
theorem Reps.drop {K : PySem.W.Frag} : ∀ (n : Nat) {ds : List D} {vs : List V}, Reps K ga ms Γ ds vs → Reps K ga ms Γ (ds.drop n) (vs.drop n)
  | 0, _, _, h => h
  | n + 1, [], vs, h => by rw [h.nil_iff]; exact Reps.nil
  | n + 1, d :: ds, vs, h => by
    obtain ⟨v, r, rfl, _, h2⟩ := h.cons_iff
    exact Reps.drop n h2
theorem Reps.take {K : PySem.W.Frag} : ∀ (n : Nat) {ds : List D} {vs : List V}, Reps K ga ms Γ ds vs → Reps K ga ms Γ (ds.take n) (vs.take n)
  | 0, _, _, h => by rw [List.take_zero, List.take_zero]; exact Reps.nil
  | n + 1, [], vs, h => by rw [h.nil_iff]; exact Reps.nil
  | n + 1, d :: ds, vs, h => by
    obtain ⟨v, r, rfl, h1, h2⟩ := h.cons_iff
    exact Reps.cons h1 (Reps.take n h2)
theorem Reps.cut {K : PySem.W.Frag} {ds : List D} {vs : List V} (h : Reps K ga ms Γ ds vs) (lo hi : Option Int) : Reps K ga ms Γ (cutD ds lo hi) (L2.cutV vs lo hi) := by
  unfold cutD L2.cutV
  rw [h.length]
  exact (h.drop _).take _
theorem cutD_length {α : Type} (xs : List α) (lo hi : Option Int) : (cutD xs lo hi).length ≤ xs.length := by
  unfold cutD
  rw [List.length_take, List.length_drop]
  omega
def rSlD (X : Cx) (ga : Str → Addr) : V → Option Int → Option Int → Hp → VK → Prop := fun x lo hi H Q => ∃ ms Γ μ dx d, SI X.K ga ms Γ μ H ∧ Rep X.K ga ms Γ dx x ∧ sliceD dx (lo, hi) = some d ∧ PD X ga ms Γ μ H d Q
theorem op_sl (ga : Str → Addr) : SlR X (rSlD X ga) := by
  intro pins s σ H x v vl vu lo hi sl Q I rx hs pl pu h
  obtain ⟨ms, Γ, μ, dx, d, S, r, e, q⟩ := h
  cases dx with
  | str z =>
    cases e
    unfold Rep at r
    obtain ⟨rfl, hz⟩ := r
    exact sl_str pins s σ H _ v vl vu lo hi sl Q I rx hs pl pu ⟨z, rfl, hz, q.str S (Nat.le_trans (cutS_length z lo hi) hz)⟩
  | tup xs =>
    cases e
    have r' := r
    unfold Rep at r
    obtain ⟨a, vs, rfl, h1, h2, h3⟩ := r
    refine sl_tupF pins s σ H _ v vl vu lo hi sl Q I rx hs pl pu ⟨a, vs, rfl, (h1.mono S.sub).seq, fun hw => ?_, fun _ => q.newT S (h3.cut lo hi) (Nat.le_trans (cutD_length xs lo hi) h2)⟩
    rw [← h3.length] at hw
    refine q.here S ?_
    have e : cutD xs lo hi = xs := by
      unfold cutD
      rw [hw.1, hw.2, List.drop_zero, Nat.sub_zero, List.take_length]
    rw [e]
    exact r'
  | lst xs =>
    cases e
    unfold Rep at r
    obtain ⟨a, vs, rfl, h1, h2, h3⟩ := r
    exact sl_list pins s σ H _ v vl vu lo hi sl Q I rx hs pl pu ⟨a, vs, rfl, SqL.of (S.sub _ _ h1), q.newL S (h3.cut lo hi) (Nat.le_trans (cutD_length xs lo hi) h2)⟩
  | _ => cases e
end
end LD

set_option Elab.async false
set_option linter.all false
set_option maxRecDepth 100000
set_option maxHeartbeats 2000000
/-! LD5: the checker of expressions, and that expressions do what the interpreter says. -/
namespace LD
open PySem PySem.Spec PyProof.Rows L2 HT

/-! ### the checker -/
def visC (sc : Scope) (x : Str) : Bool := match sc.names.lookup x with
  | some .local => true | some .cell => true | some .free => true | _ => false
def locC (sc : Scope) (x : Str) : Bool := match sc.names.lookup x with
  | some .local => true | some .cell => true | _ => false
def cfC (sc : Scope) (x : Str) : Bool := match sc.names.lookup x with
  | some .cell => true | some .free => true | _ => false
def glC (sc : Scope) (x : Str) : Bool := match sc.names.lookup x with
  | some .globalImplicit => true | _ => false
def notStar : Expr → Bool
  | .Starred _ _ => false
  | _ => true
def notSet : Expr → Bool
  | .Set _ _ _ => false
  | _ => true
def plainIx : Expr → Bool
  | .Slice _ _ _ _ => false
  | _ => true
def notSuper : Expr → Bool
  | .Call (.Name _ _) [] [] _ => false
  | _ => true
def okName (x : Str) : Bool := !(x == ("__debug__" : Str)) && !(x == ("__classdict__" : Str)) && !(x == ("__name__" : Str))
def bltNm : Blt → Str
  | .len => "len" | .abs => "abs" | .max2 => "max" | .min2 => "min" | .int1 => "int" | .list1 => "list" | .tuple1 => "tuple" | .isinst => "isinstance" | .all1 => "all" | .any1 => "any" | .sorted1 => "sorted"
def types : List String := ["int", "bool", "str", "tuple", "list", "dict"]
def bltNames : List Str := ["len", "abs", "max", "min", "int", "list", "tuple", "isinstance", "all", "any", "range", "bool", "str", "dict", "sorted", "zip"]
def conC : D → Expr → Bool
  | .non, .Constant .none _ _ => true
  | .bl b, .Constant (.bool c) _ _ => b == c
  | .int i, .Constant (.int j) _ _ => decide (i = j)
  | .str s, .Constant (.str t) _ _ => decide (s = t) && decide (s.length ≤ LINE)
  | _, _ => false
def nIs (N : List Str) (sc : Scope) (i : Nat) (x : Str) : Bool := decide (N[i]? = some x) && visC sc x && okName x
def ownNames (N : List Str) (is : List Nat) : List (Str × Nat) := is.filterMap fun i => (N[i]?).map fun x => (x, i)
def tgsC (N : List Str) (sc : Scope) : List Nat → List Expr → Bool
  | [], [] => true
  | i :: is, .Name x _ :: es => decide (N[i]? = some x) && locC sc x && tgsC N sc is es
  | _, _ => false
def tgC (N : List Str) (sc : Scope) : Tg → Expr → Bool
  | .name i, .Name x _ => decide (N[i]? = some x) && locC sc x
  | .tup is, .Tuple es _ _ => tgsC N sc is es
  | _, _ => false
/-- a comprehension's block: its own names are those of the slots -/
def blkOkC (N : List Str) (sc scope : Scope) (is : List Nat) : Bool :=
  decide (scope.kind = .function) && (scope.names.all fun y => decide (scope.names.lookup y.1 = some y.2)) && (is.all fun i => (N[i]?).isSome) &&
    (scope.names.all fun y => match y.2 with
      | .free => cfC sc y.1
      | .local => decide (y.1 ∈ (ownNames N is).map (·.1)) || decide (y.1 ∉ N)
      | .cell => decide (y.1 ∈ (ownNames N is).map (·.1)) || decide (y.1 ∉ N)
      | _ => true)
def partsOf : SK → Option Expr → Option Expr → Option (List Expr)
  | .all, none, none => some []
  | .lo, some y, none => some [y]
  | .hi, none, some y => some [y]
  | .both, some y, some z => some [y, z]
  | _, _, _ => none
/-- zip's items are only taken apart -/
def zipT : IK → Tg → Bool
  | .zip, .name _ => false
  | _, _ => true
def zipX : IK → Expr → Bool
  | .zip, .Tuple _ _ _ => true
  | .zip, _ => false
  | _, _ => true
mutual
def chk (N : List Str) (T : List (Str × Nat)) : Scope → Ex → Expr → Bool
  | sc, .con (.ty T), .Name x _ => decide (x = Str.ofString T) && decide (T ∈ types) && glC sc x && okName x
  | _, .con d, e => conC d e
  | sc, .var i, .Name x _ => nIs N sc i x
  | sc, .glob x, .Name y _ => decide (x = y) && glC sc y && okName y
  | sc, .bin op a b, .BinOp x o y _ => decide (o = opB op) && chk N T sc a x && chk N T sc b y
  | sc, .neg a, .UnaryOp .USub x _ => chk N T sc a x
  | sc, .cmp op a b, .Compare x [o] [y] _ => decide (o = opC op) && chk N T sc a x && chk N T sc b y && notSet y
  | sc, .chain op op' a b c, .Compare x [o, o'] [y, z] _ => decide (o = opC op) && decide (o' = opC op') && chk N T sc a x && chk N T sc b y && chk N T sc c z && notSet z
  | sc, .and_ a b, .BoolOp .And [x, y] _ => chk N T sc a x && chk N T sc b y
  | sc, .and_ a b, .BoolOp .And (x :: y :: z :: r) p => chk N T sc a x && chk N T sc b (.BoolOp .And (y :: z :: r) p)
  | sc, .or_ a b, .BoolOp .Or [x, y] _ => chk N T sc a x && chk N T sc b y
  | sc, .or_ a b, .BoolOp .Or (x :: y :: z :: r) p => chk N T sc a x && chk N T sc b (.BoolOp .Or (y :: z :: r) p)
  | sc, .not_ a, .UnaryOp .Not x _ => chk N T sc a x
  | sc, .ite c a b, .IfExp t x y _ => chk N T sc c t && chk N T sc a x && chk N T sc b y
  | sc, .tup es, .Tuple xs _ _ => chks N T sc es xs
  | sc, .lst es, .List xs _ => chks N T sc es xs
  | sc, .newl es, .List xs _ => chks N T sc es xs
  | sc, .idx a b, .Subscript x y _ => chk N T sc a x && chk N T sc b y && plainIx y
  | sc, .bidx i b, .Subscript (.Name x _) y _ => nIs N sc i x && chk N T sc b y && plainIx y
  | sc, .rev a, .Subscript x (.Slice none none (some (.UnaryOp .USub (.Constant (.int i) _ _) _)) _) _ => decide (i = 1) && chk N T sc a x
  | sc, .popl o k, .Call (.Attribute x n ap) [y] [] cp => decide (n = ("pop" : Str)) && chk N T sc o x && notSuper x && chk N T sc k y && notStar y && decide (ap.endLine = cp.line)
  | sc, .llen a, .Call (.Name x _) [y] [] _ => decide (x = ("len" : Str)) && glC sc x && chk N T sc a y && notStar y
  | sc, .newc a, .Call (.Name x _) [y] [] _ => decide (x = ("list" : Str)) && glC sc x && chk N T sc a y && notStar y
  | sc, .call f es, .Call (.Name x _) xs [] _ => decide (f = x) && decide (xs.length ≠ 1000) && decide ((f, xs.length) ∈ T) && glC sc x && okName x && chks N T sc es xs
  | sc, .blt f es, .Call (.Name x _) (y :: ys) [] _ => decide (x = bltNm f) && glC sc x && chks N T sc es (y :: ys)
  | sc, .slice k a es, .Subscript x (.Slice lo hi none _) _ => chk N T sc a x && (match partsOf k lo hi with
    | some ys => chks N T sc es ys
    | none => false)
  | sc, .dict es, .Dict ks vs _ => chkD N T sc es ks vs && decide (ks.length ≤ 15) && decide (ks.length = vs.length) && ks.all (·.isSome)
  | sc, .meth m o es, .Call (.Attribute x n ap) [y] [] cp => decide (n = mthNm m) && chk N T sc o x && notSuper x && chks N T sc es [y] && decide (ap.endLine = cp.line)
  | sc, .comp elt t k its none, .ListComp e [⟨tg, it, [], as⟩] scope _ => zipT k t && decide (as = 0) && chk N T scope elt e && tgC N scope t tg && itC N T sc k its it && blkOkC N sc scope t.slots
  | sc, .comp elt t k its (some c), .ListComp e [⟨tg, it, [cc], as⟩] scope _ => zipT k t && decide (as = 0) && chk N T scope elt e && chk N T scope c cc && tgC N scope t tg && itC N T sc k its it && blkOkC N sc scope t.slots
  | _, _, _ => false
def chks (N : List Str) (T : List (Str × Nat)) : Scope → Exs → List Expr → Bool
  | _, .nil, [] => true
  | sc, .cons e es, x :: xs => chk N T sc e x && notStar x && chks N T sc es xs
  | _, _, _ => false
def chkD (N : List Str) (T : List (Str × Nat)) : Scope → Exs → List (Option Expr) → List Expr → Bool
  | _, .nil, [], [] => true
  | sc, .cons k (.cons v es), some x :: xs, y :: ys => chk N T sc k x && chk N T sc v y && chkD N T sc es xs ys
  | _, _, _, _ => false
def itC (N : List Str) (T : List (Str × Nat)) : Scope → IK → Exs → Expr → Bool
  | sc, .val, .cons e .nil, x => chk N T sc e x && notSet x
  | sc, .rng1, .cons a .nil, .Call (.Name x _) [y] [] _ => decide (x = ("range" : Str)) && glC sc x && chk N T sc a y && notStar y
  | sc, .zip, .cons a (.cons b .nil), .Call (.Name x _) [y, z] [] _ => decide (x = ("zip" : Str)) && glC sc x && chk N T sc a y && notStar y && chk N T sc b z && notStar z
  | sc, .rng2, .cons a (.cons b .nil), .Call (.Name x _) [y, z] [] _ => decide (x = ("range" : Str)) && glC sc x && chk N T sc a y && notStar y && chk N T sc b z && notStar z
  | _, _, _, _ => false
end

/-! ### outcomes -/
/-- an exception's class and its own dict stand for (c, fs) -/
def XRep (K : PySem.W.Frag) (ga : Str → Addr) (ms : List Addr) (Γ : Hp) (H : Hp) (c : D) (fs : List (Str × D)) (cls : Value) (dd : Option Addr) : Prop :=
  (match c with | .glob x => cls = .ref (ga x) | .ty n => cls = .type n | _ => False) ∧
    (fs = [] ∨ ∃ a vs, dd = some a ∧ H a = some (.xd vs) ∧ a ∉ ms ∧ ∀ f d, fs.lookup f = some d → ∃ v, vs.lookup f = some v ∧ Rep K ga ms Γ d v)
section
variable (X : Cx) (ga : Str → Addr) (ms : List Addr) (Γ : Hp) (H : Hp)
/-- what is wanted of an outcome: W of an exception (by the slots σ), Q of a value -/
def PO (o : Out D) (σ : L2.St) (W : WX) (Q : VK) : Prop := match o with
  | .ok d μ' => PD X ga ms Γ μ' H d Q
  | .exc c fs μ' => ∀ cls dd H' ms' Γ', After X.K ga ms Γ H ms' Γ' μ' H' → XRep X.K ga ms' Γ' H' c fs cls dd → W cls dd σ H'
  | .bad => False
def POs (o : Out (List D)) (σ : L2.St) (W : WX) (Q : List V → Hp → Prop) : Prop := match o with
  | .ok ds μ' => ∀ vs H' ms' Γ', After X.K ga ms Γ H ms' Γ' μ' H' → Reps X.K ga ms' Γ' ds vs → Q vs H'
  | .exc c fs μ' => ∀ cls dd H' ms' Γ', After X.K ga ms Γ H ms' Γ' μ' H' → XRep X.K ga ms' Γ' H' c fs cls dd → W cls dd σ H'
  | .bad => False
def POT (o : Out Bool) (σ : L2.St) (W : WX) (Q : Bool → Hp → Prop) : Prop := match o with
  | .ok b μ' => ∀ H' ms' Γ', After X.K ga ms Γ H ms' Γ' μ' H' → Q b H'
  | .exc c fs μ' => ∀ cls dd H' ms' Γ', After X.K ga ms Γ H ms' Γ' μ' H' → XRep X.K ga ms' Γ' H' c fs cls dd → W cls dd σ H'
  | .bad => False
end
section
variable {X : Cx} {ga : Str → Addr} {ms ms1 : List Addr} {Γ Γ1 : Hp} {μ μ1 : Store} {H H1 : Hp} {σ : L2.St} {W : WX}
theorem PD.shift {d : D} {Q : VK} {μ' : Store} (q : PD X ga ms Γ μ' H d Q) (A : After X.K ga ms Γ H ms1 Γ1 μ1 H1) : PD X ga ms1 Γ1 μ' H1 d Q := fun v H' ms' Γ' B r => q v H' ms' Γ' (A.trans B) r
theorem PO.shift {o : Out D} {Q : VK} (q : PO X ga ms Γ H o σ W Q) (A : After X.K ga ms Γ H ms1 Γ1 μ1 H1) : PO X ga ms1 Γ1 H1 o σ W Q := by
  cases o with
  | ok d μ' => exact PD.shift q A
  | exc c fs μ' => exact fun cls dd H' ms' Γ' B r => q cls dd H' ms' Γ' (A.trans B) r
  | bad => exact q
theorem POs.shift {o : Out (List D)} {Q : List V → Hp → Prop} (q : POs X ga ms Γ H o σ W Q) (A : After X.K ga ms Γ H ms1 Γ1 μ1 H1) : POs X ga ms1 Γ1 H1 o σ W Q := by
  cases o with
  | ok d μ' => exact fun v H' ms' Γ' B r => q v H' ms' Γ' (A.trans B) r
  | exc c fs μ' => exact fun cls dd H' ms' Γ' B r => q cls dd H' ms' Γ' (A.trans B) r
  | bad => exact q
theorem POT.shift {o : Out Bool} {Q : Bool → Hp → Prop} (q : POT X ga ms Γ H o σ W Q) (A : After X.K ga ms Γ H ms1 Γ1 μ1 H1) : POT X ga ms1 Γ1 H1 o σ W Q := by
  cases o with
  | ok d μ' => exact fun H' ms' Γ' B => q H' ms' Γ' (A.trans B)
  | exc c fs μ' => exact fun cls dd H' ms' Γ' B r => q cls dd H' ms' Γ' (A.trans B) r
  | bad => exact q
end
/-- the readings: of an expression, of arguments, of a test -/
def tE (X : Cx) (ga : Str → Addr) (G : GT) (W : WX) (e : Ex) : TE := fun σ H Q => ∃ ms Γ μ ρ, SI X.K ga ms Γ μ H ∧ ER X.K ga ms Γ H ρ σ ∧ PO X ga ms Γ H (ev G e ρ μ) σ W Q
def tA (X : Cx) (ga : Str → Addr) (G : GT) (W : WX) (es : Exs) : TA := fun σ H Q => ∃ ms Γ μ ρ, SI X.K ga ms Γ μ H ∧ ER X.K ga ms Γ H ρ σ ∧ POs X ga ms Γ H (evs G es ρ μ) σ W Q
def tT (X : Cx) (ga : Str → Addr) (G : GT) (W : WX) (e : Ex) : TT := fun σ H Q => ∃ ms Γ μ ρ, SI X.K ga ms Γ μ H ∧ ER X.K ga ms Γ H ρ σ ∧ POT X ga ms Γ H (testOf (ev G e ρ μ)) σ W Q
section
variable {X : Cx} {ga : Str → Addr} {G : GT} {W : WX} {ms : List Addr} {Γ : Hp} {μ : Store} {H : Hp} {σ : L2.St} {ρ : Env}
/-- an expression in a chain: what follows is a function f of its value -/
theorem step {e : Ex} {f : D → Store → Out D} {Q : VK} {T : VK} (S : SI X.K ga ms Γ μ H) (R : ER X.K ga ms Γ H ρ σ) (h : PO X ga ms Γ H ((ev G e ρ μ).bind f) σ W Q)
    (k : ∀ d μ1 v H1 ms1 Γ1, After X.K ga ms Γ H ms1 Γ1 μ1 H1 → Rep X.K ga ms1 Γ1 d v → ER X.K ga ms1 Γ1 H1 ρ σ → PO X ga ms1 Γ1 H1 (f d μ1) σ W Q → T v H1) : tE X ga G W e σ H T := by
  refine ⟨ms, Γ, μ, ρ, S, R, ?_⟩
  cases e1 : ev G e ρ μ with
  | ok d μ1 =>
    rw [e1] at h
    exact fun v H1 ms1 Γ1 A r => k d μ1 v H1 ms1 Γ1 A r (R.mono A) (PO.shift h A)
  | exc c fs μ1 => rw [e1] at h; exact h
  | bad => rw [e1] at h; exact h.elim
theorem stepT {e : Ex} {f : D → Store → Out Bool} {Q : Bool → Hp → Prop} {T : VK} (S : SI X.K ga ms Γ μ H) (R : ER X.K ga ms Γ H ρ σ) (h : POT X ga ms Γ H ((ev G e ρ μ).bind f) σ W Q)
    (k : ∀ d μ1 v H1 ms1 Γ1, After X.K ga ms Γ H ms1 Γ1 μ1 H1 → Rep X.K ga ms1 Γ1 d v → ER X.K ga ms1 Γ1 H1 ρ σ → POT X ga ms1 Γ1 H1 (f d μ1) σ W Q → T v H1) : tE X ga G W e σ H T := by
  refine ⟨ms, Γ, μ, ρ, S, R, ?_⟩
  cases e1 : ev G e ρ μ with
  | ok d μ1 =>
    rw [e1] at h
    exact fun v H1 ms1 Γ1 A r => k d μ1 v H1 ms1 Γ1 A r (R.mono A) (POT.shift h A)
  | exc c fs μ1 => rw [e1] at h; exact h
  | bad => rw [e1] at h; exact h.elim
theorem stepS {e : Ex} {f : D → Store → Out (List D)} {Q : List V → Hp → Prop} {T : VK} (S : SI X.K ga ms Γ μ H) (R : ER X.K ga ms Γ H ρ σ) (h : POs X ga ms Γ H ((ev G e ρ μ).bind f) σ W Q)
    (k : ∀ d μ1 v H1 ms1 Γ1, After X.K ga ms Γ H ms1 Γ1 μ1 H1 → Rep X.K ga ms1 Γ1 d v → ER X.K ga ms1 Γ1 H1 ρ σ → POs X ga ms1 Γ1 H1 (f d μ1) σ W Q → T v H1) : tE X ga G W e σ H T := by
  refine ⟨ms, Γ, μ, ρ, S, R, ?_⟩
  cases e1 : ev G e ρ μ with
  | ok d μ1 =>
    rw [e1] at h
    exact fun v H1 ms1 Γ1 A r => k d μ1 v H1 ms1 Γ1 A r (R.mono A) (POs.shift h A)
  | exc c fs μ1 => rw [e1] at h; exact h
  | bad => rw [e1] at h; exact h.elim
/-- arguments in a chain -/
theorem stepA {es : Exs} {f : List D → Store → Out D} {Q : VK} {T : List V → Hp → Prop} (S : SI X.K ga ms Γ μ H) (R : ER X.K ga ms Γ H ρ σ) (h : PO X ga ms Γ H ((evs G es ρ μ).bind f) σ W Q)
    (k : ∀ ds μ1 vs H1 ms1 Γ1, After X.K ga ms Γ H ms1 Γ1 μ1 H1 → Reps X.K ga ms1 Γ1 ds vs → ER X.K ga ms1 Γ1 H1 ρ σ → PO X ga ms1 Γ1 H1 (f ds μ1) σ W Q → T vs H1) : tA X ga G W es σ H T := by
  refine ⟨ms, Γ, μ, ρ, S, R, ?_⟩
  cases e1 : evs G es ρ μ with
  | ok d μ1 =>
    rw [e1] at h
    exact fun v H1 ms1 Γ1 A r => k d μ1 v H1 ms1 Γ1 A r (R.mono A) (PO.shift h A)
  | exc c fs μ1 => rw [e1] at h; exact h
  | bad => rw [e1] at h; exact h.elim
theorem stepAS {es : Exs} {f : List D → Store → Out (List D)} {Q : List V → Hp → Prop} {T : List V → Hp → Prop} (S : SI X.K ga ms Γ μ H) (R : ER X.K ga ms Γ H ρ σ) (h : POs X ga ms Γ H ((evs G es ρ μ).bind f) σ W Q)
    (k : ∀ ds μ1 vs H1 ms1 Γ1, After X.K ga ms Γ H ms1 Γ1 μ1 H1 → Reps X.K ga ms1 Γ1 ds vs → ER X.K ga ms1 Γ1 H1 ρ σ → POs X ga ms1 Γ1 H1 (f ds μ1) σ W Q → T vs H1) : tA X ga G W es σ H T := by
  refine ⟨ms, Γ, μ, ρ, S, R, ?_⟩
  cases e1 : evs G es ρ μ with
  | ok d μ1 =>
    rw [e1] at h
    exact fun v H1 ms1 Γ1 A r => k d μ1 v H1 ms1 Γ1 A r (R.mono A) (POs.shift h A)
  | exc c fs μ1 => rw [e1] at h; exact h
  | bad => rw [e1] at h; exact h.elim
/-- a test in a chain -/
theorem stepB {e : Ex} {f : Bool → Store → Out D} {Q : VK} {T : Bool → Hp → Prop} (S : SI X.K ga ms Γ μ H) (R : ER X.K ga ms Γ H ρ σ) (h : PO X ga ms Γ H ((testOf (ev G e ρ μ)).bind f) σ W Q)
    (k : ∀ b μ1 H1 ms1 Γ1, After X.K ga ms Γ H ms1 Γ1 μ1 H1 → ER X.K ga ms1 Γ1 H1 ρ σ → PO X ga ms1 Γ1 H1 (f b μ1) σ W Q → T b H1) : tT X ga G W e σ H T := by
  refine ⟨ms, Γ, μ, ρ, S, R, ?_⟩
  cases e1 : testOf (ev G e ρ μ) with
  | ok b μ1 =>
    rw [e1] at h
    exact fun H1 ms1 Γ1 A => k b μ1 H1 ms1 Γ1 A (R.mono A) (PO.shift h A)
  | exc c fs μ1 => rw [e1] at h; exact h
  | bad => rw [e1] at h; exact h.elim
theorem stepBT {e : Ex} {f : Bool → Store → Out Bool} {Q : Bool → Hp → Prop} {T : Bool → Hp → Prop} (S : SI X.K ga ms Γ μ H) (R : ER X.K ga ms Γ H ρ σ) (h : POT X ga ms Γ H ((testOf (ev G e ρ μ)).bind f) σ W Q)
    (k : ∀ b μ1 H1 ms1 Γ1, After X.K ga ms Γ H ms1 Γ1 μ1 H1 → ER X.K ga ms1 Γ1 H1 ρ σ → POT X ga ms1 Γ1 H1 (f b μ1) σ W Q → T b H1) : tT X ga G W e σ H T := by
  refine ⟨ms, Γ, μ, ρ, S, R, ?_⟩
  cases e1 : testOf (ev G e ρ μ) with
  | ok b μ1 =>
    rw [e1] at h
    exact fun H1 ms1 Γ1 A => k b μ1 H1 ms1 Γ1 A (R.mono A) (POT.shift h A)
  | exc c fs μ1 => rw [e1] at h; exact h
  | bad => rw [e1] at h; exact h.elim
theorem PO.opt {o : Option D} {Q : VK} (h : PO X ga ms Γ H (opt o μ) σ W Q) : ∃ d, o = some d ∧ PD X ga ms Γ μ H d Q := by
  cases o with
  | none => exact False.elim h
  | some d => exact ⟨d, rfl, h⟩
end

/-! ### the context -/
/-- a def's promise, by what the interpreter says of its call -/
def spC (K : PySem.W.Frag) (ga : Str → Addr) (c : List D → Store → Out D) : Sp := fun vs H Q E => ∃ ms Γ μ ds, SI K ga ms Γ μ H ∧ Reps K ga ms Γ ds vs ∧
  match c ds μ with
  | .ok d μ' => ∀ v H' ms' Γ', After K ga ms Γ H ms' Γ' μ' H' → Rep K ga ms' Γ' d v → Q v H'
  | .exc c fs μ' => ∀ cls dd H' ms' Γ', After K ga ms Γ H ms' Γ' μ' H' → XRep K ga ms' Γ' H' c fs cls dd → E cls dd H'
  | .bad => False
/-- what is known of the functions that may be called here, with ar arguments each -/
structure FnAt (X : Cx) (ga : Str → Addr) (G : GT) (f : Str) (n : Nat) : Prop where
  ex : ∃ (k : Nat) (a : Addr) (fd : FuncData) (ps : List Str), X.mg f = some (.ref a) ∧ PySem.W.keepIn X.K (.ref a) = true ∧ ps.length = n ∧
    FnOk X.prog X.w X.K X.mg X.base (L2.CX X.prog X.w) k a fd ps (spC X.K ga (G.call f)) ∧ Room k X.A ∧ Binds X.K fd ps []
/-- an own exception class, made with a text -/
structure XcAt (K : PySem.W.Frag) (mg : Str → Option Value) (ga : Str → Addr) (c : Str) : Prop where
  mg : mg c = some (.ref (ga c))
  exc : PySem.W.excIn K (ga c) He.veBase "ValueError.__new__" = true
  keep : PySem.W.keepIn K (.ref (ga c)) = true
  sub : PySem.W.subIn K (.ref (ga c)) (.type "BaseException") = some true
  ty : PySem.W.typeIn K (.ref (ga c)) = some (.type "type")
  exm : PySem.W.exmOne K (.ref (ga c)) (.ref (ga c)) = some true
structure GC (X : Cx) (ga : Str → Addr) (G : GT) (N : List Str) (T : List (Str × Nat)) (sc : Scope) : Prop where
  hN : X.N = N
  nd : N.Nodup
  kind : X.env.scope.kind = .function
  vis : ∀ x, visC sc x = true → Vis X.env.scope x
  loc : ∀ x, locC sc x = true → Loc X.env.scope x ∧ (X.fn x = true ∨ X.env.scope.names.lookup x = some .local)
  cf : ∀ x, cfC sc x = true → X.env.scope.names.lookup x = some .cell ∨ X.env.scope.names.lookup x = some .free
  gl : ∀ x, glC sc x = true → L2.Gl X x
  calm : X.calm = true
  hu : X.A.units + 64 < cLine
  blt : ∀ x ∈ bltNames, X.mg x = none
  con : ∀ x d, G.con x = some d → ∃ u v, X.mg x = some u ∧ RelV v u ∧ ∀ ms, Rep X.K ga ms (fun _ => none) d v
  fn : ∀ f n, (f, n) ∈ T → n ≠ 1000 → FnAt X ga G f n
  xc : ∀ c, (c, 1000) ∈ T → XcAt X.K X.mg ga c
end LD

set_option Elab.async false
set_option linter.all false
set_option maxRecDepth 100000
set_option maxHeartbeats 2000000
/-! LD6: each form of expression. -/
namespace LD
open PySem PySem.Spec PyProof.Rows L2 HT

theorem _root_.L2.PE.mono {X : Cx} {e : Expr} {t t' : TE} (h : PE X e t) (k : ∀ σ H Q, t' σ H Q → t σ H Q) : PE X e t' := ⟨fun pins s σ H Q I hw => h.run pins s σ H Q I (k σ H Q hw)⟩
theorem _root_.L2.PT.mono {X : Cx} {e : Expr} {t t' : TT} (h : PT X e t) (k : ∀ σ H Q, t' σ H Q → t σ H Q) : PT X e t' := ⟨fun pins s σ H Q I hw => h.run pins s σ H Q I (k σ H Q hw)⟩
theorem _root_.L2.PW.mono {X : Cx} {e : Expr} {t t' : TT} (h : PW X e t) (k : ∀ σ H Q, t' σ H Q → t σ H Q) : PW X e t' := ⟨fun wh pins s σ H Q I hw => h.run wh pins s σ H Q I (k σ H Q hw)⟩
theorem _root_.L2.PA.mono {X : Cx} {es : List Expr} {t t' : TA} (h : PA X es t) (k : ∀ σ H Q, t' σ H Q → t σ H Q) : PA X es t' := ⟨fun pos pins s σ H Q I hw => h.run pos pins s σ H Q I (k σ H Q hw)⟩
theorem _root_.L2.PI.mono {X : Cx} {tg it : Expr} {t t' : TI} (h : PI X tg it t) (k : ∀ σ H R, t' σ H R → t σ H R) : PI X tg it t' := ⟨fun pins s σ H Q I hw => h.run pins s σ H Q I (k σ H Q hw)⟩

section
variable (ga : Str → Addr) (G : GT) (N : List Str) (T : List (Str × Nat))
def SE (e : Ex) : Prop := ∀ (X : Cx) (sc : Scope) (x : Expr) (W : WX), GC X ga G N T sc → Takes X W → chk N T sc e x = true → PE X x (tE X ga G W e)
def ST (e : Ex) : Prop := ∀ (X : Cx) (sc : Scope) (x : Expr) (W : WX), GC X ga G N T sc → Takes X W → chk N T sc e x = true → PT X x (tT X ga G W e)
def SW (e : Ex) : Prop := ∀ (X : Cx) (sc : Scope) (op : BoolOp) (xs : List Expr) (p : Pos) (W : WX), GC X ga G N T sc → Takes X W → chk N T sc e (.BoolOp op xs p) = true → PW X (.BoolOp op xs p) (tT X ga G W e)
def SA (es : Exs) : Prop := ∀ (X : Cx) (sc : Scope) (xs : List Expr) (W : WX), GC X ga G N T sc → Takes X W → chks N T sc es xs = true → PA X xs (tA X ga G W es)
end

section
variable {X : Cx} {ga : Str → Addr} {G : GT} {N : List Str} {T : List (Str × Nat)} {sc : Scope} {W : WX}
theorem and3 {a b c : Bool} (h : (a && b && c) = true) : a = true ∧ b = true ∧ c = true := by
  rw [Bool.and_eq_true, Bool.and_eq_true] at h
  exact ⟨h.1.1, h.1.2, h.2⟩
theorem okName_debug {x : Str} (h : okName x = true) : (x == ("__debug__" : Str)) = false ∧ (x == ("__classdict__" : Str)) = false ∧ x ≠ "__name__" := by
  unfold okName at h
  rw [Bool.and_eq_true, Bool.and_eq_true] at h
  refine ⟨by simpa using h.1.1, by simpa using h.1.2, ?_⟩
  have := h.2
  simpa using this
theorem star_cons (e : Expr) (es : List Expr) (env : PySem.Env) (h : notStar e = true) : starEach (e :: es) env = (false, eval e env) :: starEach es env := by
  cases e <;> first | rfl | exact absurd h Bool.false_ne_true
theorem plain_any {es : List Expr} {env : PySem.Env} {pos : Pos} (h : es.all notStar = true) : (backTo pos (starEach es env)).any (·.1) = false := by
  induction es with
  | nil => rfl
  | cons e es ih =>
    have h := Bool.and_eq_true_iff.mp (show (notStar e && es.all notStar) = true from h)
    rw [star_cons e es env h.1]
    show (false || (backTo pos (starEach es env)).any (·.1)) = false
    rw [ih h.2]
    rfl
theorem chks_star : ∀ {es : Exs} {xs : List Expr}, chks N T sc es xs = true → xs.all notStar = true
  | .nil, [], _ => rfl
  | .nil, _ :: _, h => by simp [chks] at h
  | .cons e es, [], h => by simp [chks] at h
  | .cons e es, x :: xs, h => by
    obtain ⟨_, h2, h3⟩ := and3 (show (chk N T sc e x && notStar x && chks N T sc es xs) = true from h)
    show (notStar x && xs.all notStar) = true
    rw [h2, chks_star h3]
    rfl

/-! ### constants, names -/
theorem se_con (d : D) : SE ga G N T (.con d) := by
  intro X sc x W C tk h
  have fin : ∀ (v : V), (∀ ms Γ, Rep X.K ga ms Γ d v) → PE X x (tC v) → PE X x (tE X ga G W (.con d)) := fun v hv hp => hp.mono fun σ H Q ⟨ms, Γ, μ, ρ, S, R, q⟩ => PD.here q S (hv ms Γ)
  cases x with
  | Constant c j pos =>
    have h : conC d (.Constant c j pos) = true := by
      cases d <;> exact h
    cases d with
    | non =>
      cases c with
      | none => exact fin .non (fun _ _ => by unfold Rep; rfl) pe_non
      | _ => exact absurd h (by simp [conC])
    | bl b =>
      cases c with
      | bool b' =>
        have e : b = b' := by simpa [conC] using h
        subst e
        exact fin (.bl b) (fun _ _ => by unfold Rep; rfl) pe_bl
      | _ => exact absurd h (by simp [conC])
    | int b =>
      cases c with
      | int b' =>
        have e : b = b' := by simpa [conC] using h
        subst e
        exact fin (.int b) (fun _ _ => by unfold Rep; rfl) pe_int
      | _ => exact absurd h (by simp [conC])
    | str b =>
      cases c with
      | str b' =>
        have h2 := Bool.and_eq_true_iff.mp (show (decide (b = b') && decide (b.length ≤ LINE)) = true from h)
        have e : b = b' := of_decide_eq_true h2.1
        have e2 := of_decide_eq_true h2.2
        rw [line_eq] at e2
        subst e
        exact fin (.str b) (fun _ _ => by unfold Rep; exact ⟨rfl, e2⟩) pe_str
      | _ => exact absurd h (by simp [conC])
    | _ => exact absurd h (by simp [conC])
  | Name y pos =>
    cases d with
    | ty T =>
      have h2 : (decide (y = Str.ofString T) && decide (T ∈ types) && glC sc y && okName y) = true := h
      rw [Bool.and_eq_true, Bool.and_eq_true, Bool.and_eq_true] at h2
      obtain ⟨⟨⟨h1, h2⟩, h3⟩, h4⟩ := h2
      have e := of_decide_eq_true h1
      have ht := of_decide_eq_true h2
      subst e
      obtain ⟨o1, o2, o3⟩ := okName_debug h4
      have hb : bootBuiltins (Str.ofString T) = some (.type T) ∧ Str.ofString T ∈ bltNames := by
        have key : ∀ T ∈ types, bootBuiltins (Str.ofString T) = some (.type T) ∧ Str.ofString T ∈ bltNames := by decide +kernel
        exact key T ht
      exact fin (.ty T) (fun _ _ => by unfold Rep; rfl) (pe_bltn (C.gl _ h3) (C.blt _ hb.2) hb.1 rfl o3 o1)
    | _ => exact absurd h (by simp [chk, conC])
  | _ => cases d <;> exact absurd h (by simp [chk, conC])
theorem nIs_ok {i : Nat} {x : Str} (h : nIs N sc i x = true) : N[i]? = some x ∧ visC sc x = true ∧ (x == ("__debug__" : Str)) = false ∧ (x == ("__classdict__" : Str)) = false := by
  obtain ⟨h1, h2, h3⟩ := and3 (show (decide (N[i]? = some x) && visC sc x && okName x) = true from h)
  obtain ⟨o1, o2, _⟩ := okName_debug h3
  exact ⟨of_decide_eq_true h1, h2, o1, o2⟩
theorem se_var (i : Nat) : SE ga G N T (.var i) := by
  intro X sc x W C tk h
  cases x with
  | Name y pos =>
    obtain ⟨h1, h2, h3, h4⟩ := nIs_ok (show nIs N sc i y = true from h)
    refine (pe_var (i := i) (by rw [C.hN]; exact h1) (C.vis _ h2) h3 h4).mono fun σ H Q ⟨ms, Γ, μ, ρ, S, R, q⟩ => ?_
    obtain ⟨d, e, q⟩ := PO.opt (show PO X ga ms Γ H (opt (ρ.get i) μ) σ W Q from q)
    obtain ⟨v, e1, r⟩ := R.get e
    exact ⟨v, e1, q.here S r⟩
  | _ => exact absurd h (by simp [chk])
theorem se_glob (y : Str) : SE ga G N T (.glob y) := by
  intro X sc x W C tk h
  cases x with
  | Name z pos =>
    obtain ⟨h1, h2, h3⟩ := and3 (show (decide (y = z) && glC sc z && okName z) = true from h)
    have e := of_decide_eq_true h1
    subst e
    cases hc : G.con y with
    | none => exact ⟨fun pins s σ H Q I ⟨ms, Γ, μ, ρ, S, R, q⟩ => by
        have q : PO X ga ms Γ H (opt (G.con y) μ) σ W Q := q
        rw [hc] at q
        exact False.elim q⟩
    | some d =>
      obtain ⟨u, v, hm, r, hr⟩ := C.con y d hc
      refine (pe_glob (C.gl _ h2) hm r (okName_debug h3).1).mono fun σ H Q ⟨ms, Γ, μ, ρ, S, R, q⟩ => ?_
      have q : PO X ga ms Γ H (opt (G.con y) μ) σ W Q := q
      rw [hc] at q
      exact PD.here q S ((hr ms).mono (fun _ _ e => by cases e) List.prefix_rfl)
  | _ => exact absurd h (by simp [chk])
/-! ### operators -/
theorem se_bin (op : BOp) {a b : Ex} (ha : SE ga G N T a) (hb : SE ga G N T b) : SE ga G N T (.bin op a b) := by
  intro X sc x W C tk h
  cases x with
  | BinOp p o q pos =>
    obtain ⟨h1, h2, h3⟩ := and3 (show (decide (o = opB op) && chk N T sc a p && chk N T sc b q) = true from h)
    have e := of_decide_eq_true h1
    subst e
    refine (pe_op (op_bin ga op) (ha X sc p W C tk h2) (hb X sc q W C tk h3)).mono fun σ H Q ⟨ms, Γ, μ, ρ, S, R, q⟩ => ?_
    refine step S R q fun d μ1 v H1 ms1 Γ1 A r R1 q1 => step A.si R1 q1 fun d2 μ2 v2 H2 ms2 Γ2 A2 r2 R2 q2 => ?_
    obtain ⟨d3, e, q3⟩ := PO.opt q2
    exact ⟨ms2, Γ2, μ2, d, d2, d3, ⟨A2.si, r.mono A2.le A2.pre, r2⟩, e, q3⟩
  | _ => exact absurd h (by simp [chk])
theorem se_neg {a : Ex} (ha : SE ga G N T a) : SE ga G N T (.neg a) := by
  intro X sc x W C tk h
  cases x with
  | UnaryOp o p pos =>
    cases o with
    | USub =>
      refine (pe_un un_neg (ha X sc p W C tk h)).mono fun σ H Q ⟨ms, Γ, μ, ρ, S, R, q⟩ => ?_
      refine step S R q fun d μ1 v H1 ms1 Γ1 A r R1 q1 => ?_
      cases d with
      | int i =>
        unfold Rep at r
        exact ⟨i, r, PD.int q1 A.si⟩
      | _ => exact False.elim q1
    | _ => exact absurd h (by simp [chk])
  | _ => exact absurd h (by simp [chk])
theorem mark_ok {op : COp} {b : Expr} (h : notSet b = true) : behindInMarks (opC op) b = false := by
  cases b <;> first | rfl | exact absurd h Bool.false_ne_true
theorem se_cmp (op : COp) {a b : Ex} (ha : SE ga G N T a) (hb : SE ga G N T b) : SE ga G N T (.cmp op a b) ∧ ST ga G N T (.cmp op a b) := by
  have key : ∀ (X : Cx) (sc : Scope) (x : Expr) (W : WX), GC X ga G N T sc → Takes X W → chk N T sc (.cmp op a b) x = true → ∃ p q pos, x = .Compare p [opC op] [q] pos ∧ PE X p (tE X ga G W a) ∧ PE X q (tE X ga G W b) ∧ notSet q = true := by
    intro X sc x W C tk h
    cases x with
    | Compare p os qs pos =>
      match os, qs, h with
      | [o], [q], h =>
        have h : (decide (o = opC op) && chk N T sc a p && chk N T sc b q && notSet q) = true := h
        rw [Bool.and_eq_true, Bool.and_eq_true, Bool.and_eq_true] at h
        obtain ⟨⟨⟨h1, h2⟩, h3⟩, h4⟩ := h
        have e := of_decide_eq_true h1
        subst e
        exact ⟨p, q, pos, rfl, ha X sc p W C tk h2, hb X sc q W C tk h3, h4⟩
      | [], _, h => simp [chk] at h
      | [_], [], h => simp [chk] at h
      | [_], _ :: _ :: _, h => simp [chk] at h
      | _ :: _ :: _, _, h => simp [chk] at h
    | _ => exact absurd h (by simp [chk])
  refine ⟨fun X sc x W C tk h => ?_, fun X sc x W C tk h => ?_⟩
  · obtain ⟨p, q, pos, rfl, hp, hq, hn⟩ := key X sc x W C tk h
    refine (pe_cmpR (op_cmp ga op C.hu) hp hq (mark_ok hn)).mono fun σ H Q ⟨ms, Γ, μ, ρ, S, R, q⟩ => ?_
    refine step S R q fun d μ1 v H1 ms1 Γ1 A r R1 q1 => step A.si R1 q1 fun d2 μ2 v2 H2 ms2 Γ2 A2 r2 R2 q2 => ?_
    obtain ⟨d3, e, q3⟩ := PO.opt q2
    obtain ⟨k, e0, rfl⟩ := map_some e
    exact ⟨ms2, Γ2, μ2, d, d2, k, ⟨A2.si, r.mono A2.le A2.pre, r2⟩, e0, q3⟩
  · obtain ⟨p, q, pos, rfl, hp, hq, hn⟩ := key X sc x W C tk h
    refine (pt_cmpR (op_cmp ga op C.hu) hp hq (mark_ok hn)).mono fun σ H Q ⟨ms, Γ, μ, ρ, S, R, q⟩ => ?_
    have q : POT X ga ms Γ H (((ev G a ρ μ).bind fun x μ => (ev G b ρ μ).bind fun y μ => opt ((cmpop op x y).map .bl) μ).bind fun d μ => match truthy d with
      | some b => .ok b μ
      | none => .bad) σ W Q := q
    have as1 : ∀ {α β γ : Type} (o : Out α) (f : α → Store → Out β) (g : β → Store → Out γ), (o.bind f).bind g = o.bind fun a μ => (f a μ).bind g := fun o f g => by cases o <;> rfl
    rw [as1] at q
    refine stepT S R q fun d μ1 v H1 ms1 Γ1 A r R1 q1 => ?_
    rw [as1] at q1
    refine stepT A.si R1 q1 fun d2 μ2 v2 H2 ms2 Γ2 A2 r2 R2 q2 => ?_
    cases e : cmpop op d d2 with
    | none => rw [e] at q2; exact False.elim q2
    | some k =>
      rw [e] at q2
      refine ⟨ms2, Γ2, μ2, d, d2, k, ⟨A2.si, r.mono A2.le A2.pre, r2⟩, e, fun v' H' ms' Γ' A' r' => ?_⟩
      unfold Rep at r'
      exact ⟨k, r', q2 H' ms' Γ' A'⟩
/-! ### a test from a value -/
theorem tT_of {e : Ex} {σ : L2.St} {H : Hp} {Q : Bool → Hp → Prop} (h : tT X ga G W e σ H Q) : tE X ga G W e σ H fun x H' => ∃ k, TruV X.K x H' k ∧ Q k H' := by
  obtain ⟨ms, Γ, μ, ρ, S, R, q⟩ := h
  have q : POT X ga ms Γ H ((ev G e ρ μ).bind fun d μ => match truthy d with
      | some b => .ok b μ
      | none => .bad) σ W Q := q
  refine stepT S R q fun d μ1 v H1 ms1 Γ1 A r R1 q1 => ?_
  cases e : truthy d with
  | none => rw [e] at q1; exact False.elim q1
  | some k =>
    rw [e] at q1
    exact ⟨k, tru_rep A.si.sub r e, q1 H1 ms1 Γ1 (After.refl A.si)⟩
theorem pt_of {e : Ex} {x : Expr} (h : PE X x (tE X ga G W e)) (he : ∀ whole, isTrue x X.env whole = (do let v ← whole; standAt x.pos; holding [v] (PySem.truthy v))) : PT X x (tT X ga G W e) :=
  (pt_truth h he).mono fun σ H Q q => tT_of q
/-- and, or of values -/
theorem se_and {a b : Ex} (ha : SE ga G N T a) (hb : SE ga G N T b) : SE ga G N T (.and_ a b) := by
  intro X sc x W C tk h
  have main : ∀ {x y : Expr} {r : List Expr} {pos : Pos}, PE X x (tE X ga G W a) → PE X (.BoolOp .And (y :: r) pos) (tE X ga G W b) → PE X (.BoolOp .And (x :: y :: r) pos) (tE X ga G W (.and_ a b)) := fun h1 h2 => by
    refine (pe_andT h1 h2).mono fun σ H Q ⟨ms, Γ, μ, ρ, S, R, q⟩ => ?_
    refine step S R q fun d μ1 v H1 ms1 Γ1 A r R1 q1 => ?_
    cases e : truthy d with
    | none => rw [e] at q1; exact False.elim q1
    | some k =>
      rw [e] at q1
      refine ⟨k, tru_rep A.si.sub r e, ?_⟩
      cases k with
      | true => rw [if_pos rfl]; exact ⟨ms1, Γ1, μ1, ρ, A.si, R1, q1⟩
      | false => rw [if_neg Bool.false_ne_true]; exact PD.here q1 A.si r
  cases x with
  | BoolOp op xs pos =>
    match op, xs, h with
    | .And, [x, y], h =>
      have h := Bool.and_eq_true_iff.mp (show (chk N T sc a x && chk N T sc b y) = true from h)
      exact main (ha X sc x W C tk h.1) (pe_one (hb X sc y W C tk h.2))
    | .And, x :: y :: z :: r, h =>
      have h := Bool.and_eq_true_iff.mp (show (chk N T sc a x && chk N T sc b (.BoolOp .And (y :: z :: r) pos)) = true from h)
      exact main (ha X sc x W C tk h.1) (hb X sc _ W C tk h.2)
    | .And, [], h => simp [chk] at h
    | .And, [_], h => simp [chk] at h
    | .Or, _, h => simp [chk] at h
  | _ => exact absurd h (by simp [chk])
theorem se_or {a b : Ex} (ha : SE ga G N T a) (hb : SE ga G N T b) : SE ga G N T (.or_ a b) := by
  intro X sc x W C tk h
  have main : ∀ {x y : Expr} {r : List Expr} {pos : Pos}, PE X x (tE X ga G W a) → PE X (.BoolOp .Or (y :: r) pos) (tE X ga G W b) → PE X (.BoolOp .Or (x :: y :: r) pos) (tE X ga G W (.or_ a b)) := fun h1 h2 => by
    refine (pe_orT h1 h2).mono fun σ H Q ⟨ms, Γ, μ, ρ, S, R, q⟩ => ?_
    refine step S R q fun d μ1 v H1 ms1 Γ1 A r R1 q1 => ?_
    cases e : truthy d with
    | none => rw [e] at q1; exact False.elim q1
    | some k =>
      rw [e] at q1
      refine ⟨k, tru_rep A.si.sub r e, ?_⟩
      cases k with
      | true => rw [if_pos rfl]; exact PD.here q1 A.si r
      | false => rw [if_neg Bool.false_ne_true]; exact ⟨ms1, Γ1, μ1, ρ, A.si, R1, q1⟩
  cases x with
  | BoolOp op xs pos =>
    match op, xs, h with
    | .Or, [x, y], h =>
      have h := Bool.and_eq_true_iff.mp (show (chk N T sc a x && chk N T sc b y) = true from h)
      exact main (ha X sc x W C tk h.1) (pe_one (hb X sc y W C tk h.2))
    | .Or, x :: y :: z :: r, h =>
      have h := Bool.and_eq_true_iff.mp (show (chk N T sc a x && chk N T sc b (.BoolOp .Or (y :: z :: r) pos)) = true from h)
      exact main (ha X sc x W C tk h.1) (hb X sc _ W C tk h.2)
    | .Or, [], h => simp [chk] at h
    | .Or, [_], h => simp [chk] at h
    | .And, _, h => simp [chk] at h
  | _ => exact absurd h (by simp [chk])
theorem bind_assoc' {α β γ : Type} (o : Out α) (f : α → Store → Out β) (g : β → Store → Out γ) : (o.bind f).bind g = o.bind fun a μ => (f a μ).bind g := by cases o <;> rfl
theorem testOf_and (a b : Ex) (ρ : Env) (μ : Store) : testOf (ev G (.and_ a b) ρ μ) = (testOf (ev G a ρ μ)).bind fun k μ => if k = true then testOf (ev G b ρ μ) else .ok false μ := by
  show Out.bind (Out.bind (ev G a ρ μ) _) _ = Out.bind (Out.bind (ev G a ρ μ) _) _
  rw [bind_assoc', bind_assoc']
  cases ev G a ρ μ with
  | ok d μ1 =>
    show Out.bind (match truthy d with | some true => _ | some false => _ | none => _) _ = Out.bind (match truthy d with | some b => _ | none => _) _
    cases e : truthy d with
    | none => rfl
    | some k =>
      cases k with
      | true => rfl
      | false => show (match truthy d with | some b => Out.ok b μ1 | none => .bad) = _; rw [e]; rfl
  | exc c fs μ1 => rfl
  | bad => rfl
theorem testOf_or (a b : Ex) (ρ : Env) (μ : Store) : testOf (ev G (.or_ a b) ρ μ) = (testOf (ev G a ρ μ)).bind fun k μ => if k = true then .ok true μ else testOf (ev G b ρ μ) := by
  show Out.bind (Out.bind (ev G a ρ μ) _) _ = Out.bind (Out.bind (ev G a ρ μ) _) _
  rw [bind_assoc', bind_assoc']
  cases ev G a ρ μ with
  | ok d μ1 =>
    show Out.bind (match truthy d with | some true => _ | some false => _ | none => _) _ = Out.bind (match truthy d with | some b => _ | none => _) _
    cases e : truthy d with
    | none => rfl
    | some k =>
      cases k with
      | false => rfl
      | true => show (match truthy d with | some b => Out.ok b μ1 | none => .bad) = _; rw [e]; rfl
  | exc c fs μ1 => rfl
  | bad => rfl
theorem testOf_not (a : Ex) (ρ : Env) (μ : Store) : testOf (ev G (.not_ a) ρ μ) = (testOf (ev G a ρ μ)).bind fun k μ => .ok (!k) μ := by
  show Out.bind (Out.bind (ev G a ρ μ) _) _ = Out.bind (Out.bind (ev G a ρ μ) _) _
  rw [bind_assoc', bind_assoc']
  cases ev G a ρ μ with
  | ok d μ1 =>
    show Out.bind (opt ((truthy d).map fun b => D.bl (!b)) μ1) _ = Out.bind (match truthy d with | some b => _ | none => _) _
    cases e : truthy d <;> rfl
  | exc c fs μ1 => rfl
  | bad => rfl
theorem testOf_ite (c a b : Ex) (ρ : Env) (μ : Store) : testOf (ev G (.ite c a b) ρ μ) = (testOf (ev G c ρ μ)).bind fun k μ => if k = true then testOf (ev G a ρ μ) else testOf (ev G b ρ μ) := by
  show Out.bind (Out.bind (ev G c ρ μ) _) _ = Out.bind (Out.bind (ev G c ρ μ) _) _
  rw [bind_assoc', bind_assoc']
  cases ev G c ρ μ with
  | ok d μ1 =>
    show Out.bind (match truthy d with | some true => _ | some false => _ | none => _) _ = Out.bind (match truthy d with | some b => _ | none => _) _
    cases e : truthy d with
    | none => rfl
    | some k => cases k <;> rfl
  | exc c fs μ1 => rfl
  | bad => rfl
theorem ev_ite (c a b : Ex) (ρ : Env) (μ : Store) : ev G (.ite c a b) ρ μ = (testOf (ev G c ρ μ)).bind fun k μ => if k = true then ev G a ρ μ else ev G b ρ μ := by
  show Out.bind (ev G c ρ μ) _ = Out.bind (Out.bind (ev G c ρ μ) _) _
  rw [bind_assoc']
  cases ev G c ρ μ with
  | ok d μ1 =>
    show (match truthy d with | some true => _ | some false => _ | none => _) = Out.bind (match truthy d with | some b => _ | none => _) _
    cases e : truthy d with
    | none => rfl
    | some k => cases k <;> rfl
  | exc c fs μ1 => rfl
  | bad => rfl
theorem sw_and {a b : Ex} (ha : ST ga G N T a) (hb : ST ga G N T b) (hw : SW ga G N T b) : SW ga G N T (.and_ a b) := by
  intro X sc op xs pos W C tk h
  have main : ∀ {x y : Expr} {r : List Expr} {pos : Pos}, PT X x (tT X ga G W a) → PW X (.BoolOp .And (y :: r) pos) (tT X ga G W b) → PW X (.BoolOp .And (x :: y :: r) pos) (tT X ga G W (.and_ a b)) := fun h1 h2 => by
    refine (pw_and h1 h2).mono fun σ H Q ⟨ms, Γ, μ, ρ, S, R, q⟩ => ?_
    rw [testOf_and] at q
    refine stepBT S R q fun k μ1 H1 ms1 Γ1 A R1 q1 => ?_
    cases k with
    | true => rw [if_pos rfl] at q1 ⊢; exact ⟨ms1, Γ1, μ1, ρ, A.si, R1, q1⟩
    | false => rw [if_neg Bool.false_ne_true] at q1 ⊢; exact q1 H1 ms1 Γ1 (After.refl A.si)
  match op, xs, h with
  | .And, [x, y], h =>
    have h := Bool.and_eq_true_iff.mp (show (chk N T sc a x && chk N T sc b y) = true from h)
    exact main (ha X sc x W C tk h.1) (pw_and1 (hb X sc y W C tk h.2))
  | .And, x :: y :: z :: r, h =>
    have h := Bool.and_eq_true_iff.mp (show (chk N T sc a x && chk N T sc b (.BoolOp .And (y :: z :: r) pos)) = true from h)
    exact main (ha X sc x W C tk h.1) (hw X sc _ _ _ W C tk h.2)
  | .And, [], h => simp [chk] at h
  | .And, [_], h => simp [chk] at h
  | .Or, _, h => simp [chk] at h
theorem sw_or {a b : Ex} (ha : ST ga G N T a) (hb : ST ga G N T b) (hw : SW ga G N T b) : SW ga G N T (.or_ a b) := by
  intro X sc op xs pos W C tk h
  have main : ∀ {x y : Expr} {r : List Expr} {pos : Pos}, PT X x (tT X ga G W a) → PW X (.BoolOp .Or (y :: r) pos) (tT X ga G W b) → PW X (.BoolOp .Or (x :: y :: r) pos) (tT X ga G W (.or_ a b)) := fun h1 h2 => by
    refine (pw_or h1 h2).mono fun σ H Q ⟨ms, Γ, μ, ρ, S, R, q⟩ => ?_
    rw [testOf_or] at q
    refine stepBT S R q fun k μ1 H1 ms1 Γ1 A R1 q1 => ?_
    cases k with
    | true => rw [if_pos rfl] at q1 ⊢; exact q1 H1 ms1 Γ1 (After.refl A.si)
    | false => rw [if_neg Bool.false_ne_true] at q1 ⊢; exact ⟨ms1, Γ1, μ1, ρ, A.si, R1, q1⟩
  match op, xs, h with
  | .Or, [x, y], h =>
    have h := Bool.and_eq_true_iff.mp (show (chk N T sc a x && chk N T sc b y) = true from h)
    exact main (ha X sc x W C tk h.1) (pw_or1 (hb X sc y W C tk h.2))
  | .Or, x :: y :: z :: r, h =>
    have h := Bool.and_eq_true_iff.mp (show (chk N T sc a x && chk N T sc b (.BoolOp .Or (y :: z :: r) pos)) = true from h)
    exact main (ha X sc x W C tk h.1) (hw X sc _ _ _ W C tk h.2)
  | .Or, [], h => simp [chk] at h
  | .Or, [_], h => simp [chk] at h
  | .And, _, h => simp [chk] at h
theorem se_not {a : Ex} (ha : SE ga G N T a) (ht : ST ga G N T a) : SE ga G N T (.not_ a) ∧ ST ga G N T (.not_ a) := by
  refine ⟨fun X sc x W C tk h => ?_, fun X sc x W C tk h => ?_⟩
  · cases x with
    | UnaryOp o p pos =>
      cases o with
      | Not =>
        refine (pe_notT (ha X sc p W C tk h)).mono fun σ H Q ⟨ms, Γ, μ, ρ, S, R, q⟩ => ?_
        refine step S R q fun d μ1 v H1 ms1 Γ1 A r R1 q1 => ?_
        obtain ⟨d3, e, q3⟩ := PO.opt q1
        obtain ⟨k, e0, rfl⟩ := map_some e
        exact ⟨k, tru_rep A.si.sub r e0, q3.bl A.si⟩
      | _ => exact absurd h (by simp [chk])
    | _ => exact absurd h (by simp [chk])
  · cases x with
    | UnaryOp o p pos =>
      cases o with
      | Not =>
        refine (pt_not (ht X sc p W C tk h)).mono fun σ H Q ⟨ms, Γ, μ, ρ, S, R, q⟩ => ?_
        rw [testOf_not] at q
        exact stepBT S R q fun k μ1 H1 ms1 Γ1 A R1 q1 => q1 H1 ms1 Γ1 (After.refl A.si)
      | _ => exact absurd h (by simp [chk])
    | _ => exact absurd h (by simp [chk])
theorem pt_ifExp {c a b : Expr} {tc ta tb : TT} {pos : Pos} (hc : PT X c tc) (ha : PT X a ta) (hb : PT X b tb) : PT X (.IfExp c a b pos) (fun σ H Q => tc σ H fun k H1 => if k = true then ta σ H1 Q else tb σ H1 Q) := by
  refine ⟨fun pins s σ H Q I h => ?_⟩
  show wpAny _ _ (isTrue c X.env (eval c X.env) >>= fun k => if k = true then isTrue a X.env (eval a X.env) else isTrue b X.env (eval b X.env)) _ _ _
  refine wpAny_bind (thn (hc.run pins s σ H _ I h) fun k s1 ⟨H1, I1, q1⟩ => ?_)
  cases k with
  | true => exact ha.run pins s1 σ H1 Q I1 q1
  | false => exact hb.run pins s1 σ H1 Q I1 q1
theorem se_ite {c a b : Ex} (hc : ST ga G N T c) (ha : SE ga G N T a) (hb : SE ga G N T b) (ha' : ST ga G N T a) (hb' : ST ga G N T b) : SE ga G N T (.ite c a b) ∧ ST ga G N T (.ite c a b) := by
  refine ⟨fun X sc x W C tk h => ?_, fun X sc x W C tk h => ?_⟩
  · cases x with
    | IfExp t p q pos =>
      obtain ⟨h1, h2, h3⟩ := and3 (show (chk N T sc c t && chk N T sc a p && chk N T sc b q) = true from h)
      refine (pe_ifExp (hc X sc t W C tk h1) (ha X sc p W C tk h2) (hb X sc q W C tk h3)).mono fun σ H Q ⟨ms, Γ, μ, ρ, S, R, q⟩ => ?_
      rw [ev_ite] at q
      refine stepB S R q fun k μ1 H1 ms1 Γ1 A R1 q1 => ?_
      cases k with
      | true => rw [if_pos rfl] at q1 ⊢; exact ⟨ms1, Γ1, μ1, ρ, A.si, R1, q1⟩
      | false => rw [if_neg Bool.false_ne_true] at q1 ⊢; exact ⟨ms1, Γ1, μ1, ρ, A.si, R1, q1⟩
    | _ => exact absurd h (by simp [chk])
  · cases x with
    | IfExp t p q pos =>
      obtain ⟨h1, h2, h3⟩ := and3 (show (chk N T sc c t && chk N T sc a p && chk N T sc b q) = true from h)
      refine (pt_ifExp (hc X sc t W C tk h1) (ha' X sc p W C tk h2) (hb' X sc q W C tk h3)).mono fun σ H Q ⟨ms, Γ, μ, ρ, S, R, q⟩ => ?_
      rw [testOf_ite] at q
      refine stepBT S R q fun k μ1 H1 ms1 Γ1 A R1 q1 => ?_
      cases k with
      | true => rw [if_pos rfl] at q1 ⊢; exact ⟨ms1, Γ1, μ1, ρ, A.si, R1, q1⟩
      | false => rw [if_neg Bool.false_ne_true] at q1 ⊢; exact ⟨ms1, Γ1, μ1, ρ, A.si, R1, q1⟩
    | _ => exact absurd h (by simp [chk])
theorem se_chain (op op' : COp) {a b c : Ex} (ha : SE ga G N T a) (hb : SE ga G N T b) (hc : SE ga G N T c) : SE ga G N T (.chain op op' a b c) ∧ ST ga G N T (.chain op op' a b c) := by
  have key : ∀ (X : Cx) (sc : Scope) (x : Expr) (W : WX), GC X ga G N T sc → Takes X W → chk N T sc (.chain op op' a b c) x = true → ∃ p q r pos, x = .Compare p [opC op, opC op'] [q, r] pos ∧ PE X p (tE X ga G W a) ∧ PE X q (tE X ga G W b) ∧ PE X r (tE X ga G W c) ∧ notSet r = true := by
    intro X sc x W C tk h
    cases x with
    | Compare p os qs pos =>
      match os, qs, h with
      | [o, o'], [q, r], h =>
        have h : (decide (o = opC op) && decide (o' = opC op') && chk N T sc a p && chk N T sc b q && chk N T sc c r && notSet r) = true := h
        simp only [Bool.and_eq_true] at h
        obtain ⟨⟨⟨⟨⟨h1, h1'⟩, h2⟩, h3⟩, h4⟩, h5⟩ := h
        have e := of_decide_eq_true h1
        have e' := of_decide_eq_true h1'
        subst e e'
        exact ⟨p, q, r, pos, rfl, ha X sc p W C tk h2, hb X sc q W C tk h3, hc X sc r W C tk h4, h5⟩
      | [], _, h => simp [chk] at h
      | [_], _, h => simp [chk] at h
      | [_, _], [], h => simp [chk] at h
      | [_, _], [_], h => simp [chk] at h
      | [_, _], _ :: _ :: _ :: _, h => simp [chk] at h
      | _ :: _ :: _ :: _, _, h => simp [chk] at h
    | _ => exact absurd h (by simp [chk])
  have lm : ∀ {q r : Expr}, notSet r = true → lastMarks [opC op, opC op'] [q, r] = false := fun {q r} h => mark_ok (op := op') h
  have main : ∀ {X : Cx} {W : WX} {σ : L2.St} {H : Hp} {Q : VK}, tE X ga G W (.chain op op' a b c) σ H Q → tChain (r2B X ga (cmpop op)) (r2B X ga (cmpop op')) (tE X ga G W a) (tE X ga G W b) (tE X ga G W c) σ H Q := by
    rintro X W σ H Q ⟨ms, Γ, μ, ρ, S, R, q⟩
    refine step S R q fun d μ1 v H1 ms1 Γ1 A r R1 q1 => step A.si R1 q1 fun d2 μ2 v2 H2 ms2 Γ2 A2 r2 R2 q2 => ?_
    cases e : cmpop op d d2 with
    | none => rw [e] at q2; exact False.elim q2
    | some k =>
      rw [e] at q2
      refine ⟨ms2, Γ2, μ2, d, d2, k, ⟨A2.si, r.mono A2.le A2.pre, r2⟩, e, fun v' H' ms' Γ' A' r' => ?_⟩
      unfold Rep at r'
      refine ⟨k, r', ?_⟩
      have q3 := PO.shift q2 A'
      cases k with
      | true =>
        rw [if_pos rfl]
        refine step A'.si (R2.mono A') q3 fun d3 μ3 v3 H3 ms3 Γ3 A3 r3 R3 q4 => ?_
        obtain ⟨d4, e4, q5⟩ := PO.opt q4
        obtain ⟨k2, e0, rfl⟩ := map_some e4
        exact ⟨ms3, Γ3, μ3, d2, d3, k2, ⟨A3.si, (r2.mono A'.le A'.pre).mono A3.le A3.pre, r3⟩, e0, q5⟩
      | false =>
        rw [if_neg Bool.false_ne_true]
        exact PD.bl q3 A'.si
  refine ⟨fun X sc x W C tk h => ?_, fun X sc x W C tk h => ?_⟩
  · obtain ⟨p, q, r, pos, rfl, hp, hq, hr, hn⟩ := key X sc x W C tk h
    exact (pe_chain (op_cmp ga op C.hu) (op_cmp ga op' C.hu) hp hq hr (lm hn)).mono fun σ H Q h => main h
  · obtain ⟨p, q, r, pos, rfl, hp, hq, hr, hn⟩ := key X sc x W C tk h
    refine (pt_chain (op_cmp ga op C.hu) (op_cmp ga op' C.hu) hp hq hr (lm hn)).mono fun σ H Q ⟨ms, Γ, μ, ρ, S, R, q⟩ => main ⟨ms, Γ, μ, ρ, S, R, ?_⟩
    have bl_only : ∀ {d : D} {μ' : Store}, ev G (.chain op op' a b c) ρ μ = .ok d μ' → ∃ k, d = .bl k := by
      intro d μ' e
      have e : (ev G a ρ μ).bind (fun x μ => (ev G b ρ μ).bind fun y μ => match cmpop op x y with
        | some true => (ev G c ρ μ).bind fun z μ => opt ((cmpop op' y z).map .bl) μ
        | some false => .ok (.bl false) μ
        | none => .bad) = .ok d μ' := e
      cases e1 : ev G a ρ μ with
      | ok x μ1 =>
        rw [e1] at e
        have e : (ev G b ρ μ1).bind (fun y μ => match cmpop op x y with
          | some true => (ev G c ρ μ).bind fun z μ => opt ((cmpop op' y z).map .bl) μ
          | some false => .ok (.bl false) μ
          | none => .bad) = .ok d μ' := e
        cases e2 : ev G b ρ μ1 with
        | ok y μ2 =>
          rw [e2] at e
          have e : (match cmpop op x y with
            | some true => (ev G c ρ μ2).bind fun z μ => opt ((cmpop op' y z).map .bl) μ
            | some false => .ok (.bl false) μ2
            | none => .bad) = Out.ok d μ' := e
          cases e3 : cmpop op x y with
          | none => rw [e3] at e; cases e
          | some k =>
            rw [e3] at e
            cases k with
            | false => cases e; exact ⟨_, rfl⟩
            | true =>
              have e : (ev G c ρ μ2).bind (fun z μ => opt ((cmpop op' y z).map .bl) μ) = Out.ok d μ' := e
              cases e4 : ev G c ρ μ2 with
              | ok z μ3 =>
                rw [e4] at e
                have e : opt ((cmpop op' y z).map .bl) μ3 = Out.ok d μ' := e
                cases e5 : cmpop op' y z with
                | none => rw [e5] at e; cases e
                | some k2 => rw [e5] at e; cases e; exact ⟨_, rfl⟩
              | exc _ _ _ => rw [e4] at e; cases e
              | bad => rw [e4] at e; cases e
        | exc _ _ _ => rw [e2] at e; cases e
        | bad => rw [e2] at e; cases e
      | exc _ _ _ => rw [e1] at e; cases e
      | bad => rw [e1] at e; cases e
    cases e : ev G (.chain op op' a b c) ρ μ with
    | ok d μ' =>
      obtain ⟨k, rfl⟩ := bl_only e
      rw [e] at q
      intro v H' ms' Γ' A' r'
      unfold Rep at r'
      exact ⟨k, r', q H' ms' Γ' A'⟩
    | exc c fs μ' => rw [e] at q; exact q
    | bad => rw [e] at q; exact q
end
end LD

set_option Elab.async false
set_option linter.all false
set_option maxRecDepth 100000
set_option maxHeartbeats 2000000
/-! LD6r: t[::-1], t a tuple. -/
namespace HT
open PySem PySem.Spec PyProof.Rows L2
section
variable {prog : Program} {w : World} {A : Around} {E : Value → Shared → Prop} {s : Shared}
theorem sliceApplied_rev {sl : Addr} {vk : Value} {n : Nat} {Q : Int × Int × Nat → Shared → Prop} (hs : s.heap.IsSliceOf sl .none .none vk) (pk : IsPart vk (some (-1)))
    (h : Q ((n : Int) - 1, -1, n) s) : wpAny (model prog w) A (Builtin.Slice.sliceApplied (.ref sl) (pure (n : Int))) Q E s := by
  obtain ⟨os, hos, hcs, hds⟩ := id hs
  unfold Builtin.Slice.sliceApplied Builtin.Slice.sliceFields
  refine wpAny_bind (wpAny_bind (wpAny_field hos hds (x := .none) rfl (wpAny_bind (wpAny_field hos hds (x := .none) rfl (wpAny_bind (wpAny_field hos hds (x := vk) rfl (wpAny_pure ?_)))))))
  refine wpAny_bind (slicePart_ pk ?_)
  show wpAny _ _ (if ((-1 : Int) == 0) = true then _ else _) _ _ s
  rw [if_neg (by decide)]
  refine wpAny_bind (slicePart_none (wpAny_bind (slicePart_none (wpAny_bind (wpAny_pure ?_)))))
  have e : Builtin.Slice.slicePlaces ((n : Int) - 1) (-1) (-1) = n := by
    unfold Builtin.Slice.slicePlaces
    have h1 : ¬ ((-1 : Int) > 0) := by omega
    simp only [h1, if_false]
    have h2 : (-(-1) : Int) = 1 := by omega
    rw [h2, Int.ediv_one]
    split <;> omega
  show wpAny _ _ (pure ((n : Int) - 1, (-1 : Int), Builtin.Slice.slicePlaces ((n : Int) - 1) (-1) (-1))) _ _ s
  rw [e]
  exact wpAny_pure h
theorem fm_congr {α β : Type} {f g : α → Option β} : ∀ {l : List α}, (∀ x ∈ l, f x = g x) → l.filterMap f = l.filterMap g
  | [], _ => rfl
  | x :: l, h => by
    have e := h x (List.mem_cons_self ..)
    have ih := fm_congr (l := l) fun y hy => h y (List.mem_cons_of_mem _ hy)
    rw [List.filterMap_cons, List.filterMap_cons, e, ih]
theorem pick_rev (xs : Array Value) : ((List.range xs.size).filterMap fun (m : Nat) => xs[(((xs.size : Int) - 1) + (m : Int) * -1).toNat]?).toArray = xs.toList.reverse.toArray := by
  have e : ∀ m ∈ List.range xs.size, (fun (m : Nat) => xs[(((xs.size : Int) - 1) + (m : Int) * -1).toNat]?) m = (fun m : Nat => xs[xs.size - 1 - m]?) m := by
    intro m hm
    have := List.mem_range.mp hm
    show xs[_]? = xs[_]?
    congr 1
    omega
  rw [fm_congr e]
  have e2 : (List.range xs.size).filterMap (fun m : Nat => xs[xs.size - 1 - m]?) = ((List.range xs.size).map fun k => xs.size - 1 - k).filterMap (xs[·]?) := by
    rw [List.filterMap_map]; rfl
  rw [e2, PySem.W.krv_range, List.filterMap_reverse, PySem.W.krv_all]
theorem getItem_tuple_rev {t sl : Addr} {items : Array Value} {vk : Value} {Q : Value → Shared → Prop} (ht : IsTup s.heap t items) (hs : s.heap.IsSliceOf sl .none .none vk) (pk : IsPart vk (some (-1)))
    (h : Q (.ref s.heap.objs.size) { s with heap := s.heap.push { cls := .type "tuple", data := .seq items.toList.reverse.toArray } })
    (hsz : items.size ≤ sizeLine) : wpAny (model prog w) A (getItem (.ref t) (.ref sl)) Q E s := by
  have htake : sizeOk (.seq items.toList.reverse.toArray) := by
    show items.toList.reverse.toArray.size ≤ sizeLine
    rw [List.size_toArray, List.length_reverse, Array.length_toList]
    omega
  obtain ⟨os, hos, hcs, hds⟩ := id hs
  have hTs : s.TypeIs (.ref sl) "slice" := ⟨os, hos, hcs⟩
  unfold getItem
  try with_reducible refine wpAny_holding ?_
  first | refine wpAny_bind (wpAny_pure ?_) | skip
  refine wpAny_bind (wpAny_sequenceKey ht.typeIs (by decide) ?_)
  refine wpAny_bind (wpAny_callSpecial?_slot (name := Str.ofString "__getitem__") ht.typeIs PyProof.Rows.slot_tuple_getitem
    (wpAny_call_entry PyProof.Rows.slot_tuple_getitem ht.typeIs entry_tuple_getitem ?_ (args_tuple_getitem _ _)))
  show wpAny _ _ (Builtin.Tuple.tupleItemsOf (.ref t) >>= _) _ _ s
  refine wpAny_bind (tupleItemsOf_ ht ?_)
  refine wpAny_bind (wpAny_typeOf hTs ?_)
  rw [if_pos (by decide)]
  refine wpAny_bind (sliceApplied_rev hs pk ?_)
  have hno : ¬ ((((items.size : Int) - 1 == 0) && (-1 : Int) == 1 && items.size == items.size) = true) := by
    intro q
    rw [Bool.and_eq_true, Bool.and_eq_true] at q
    exact absurd q.1.2 (by decide)
  show wpAny _ _ (if (((items.size : Int) - 1 == 0) && (-1 : Int) == 1 && items.size == items.size) = true then _ else _) _ _ s
  rw [if_neg hno, pick_rev]
  first
    | exact wpAny_bind (m := Builtin.Tuple.tupleExact _) (wpAny_newObj_type (wpAny_pure ⟨_, rfl, wpAny_pure h⟩) htake)
    | exact wpAny_bind (m := Builtin.Tuple.tupleExact _) (wpAny_newObj_type (wpAny_bind (wpAny_pure (wpAny_pure ⟨_, rfl, wpAny_pure h⟩))) htake)
    | exact wpAny_bind (wpAny_bind (m := Builtin.Tuple.tupleExact _) (wpAny_newObj_type (wpAny_pure (wpAny_pure ⟨_, rfl, wpAny_pure h⟩)) htake))
    | exact wpAny_bind (wpAny_bind (m := Builtin.Tuple.tupleExact _) (wpAny_newObj_type (wpAny_pure ⟨_, rfl, wpAny_pure h⟩) htake))
end
end HT
namespace LD
open PySem PySem.Spec PyProof.Rows L2 HT
theorem pe_rev {X : Cx} {e : Expr} {te : TE} {k : Nat} {p p1 p2 pos : Pos} (he : PE X e te) : PE X (.Subscript e (.Slice none none (some (.UnaryOp .USub (.Constant (.int 1) k p) p1)) p2) pos)
    (fun σ H Q => te σ H fun x H1 => ∃ a vs, x = .ref a ∧ SqT X.K H1 a vs ∧ NewT H1 vs.reverse Q) := by
  refine ⟨fun pins s σ H Q I h => ?_⟩
  refine Subscript_ (thn (he.run pins s σ H _ I h) fun v s1 ⟨x, H1, I1, r1, q1⟩ => ?_)
  obtain ⟨a, xs, rfl, hx, q⟩ := q1
  cases r1
  have hstep := (L2.po_some (pe_un (X := X) (pos := p1) un_neg (pe_int (X := X) (i := 1) (pos := p) (j := k)))).run pins
  refine wpAny_Slice ?_
  rw [evalPart_none]
  refine wpAny_pure ?_
  refine wpAny_pure ?_
  refine thn (hstep s1 σ H1 (fun o H2 => o = some (-1) ∧ H2 = H1) I1 ⟨1, rfl, _, rfl, rfl, rfl⟩) fun vk s3 ⟨o, H3, I3, pk, e1, e2⟩ => ?_
  subst e1 e2
  have I4 : Inv X pins σ H3 { s3 with heap := s3.heap.push { cls := .type "slice", data := .fields #[.none, .none, vk] } } := I3.kept (t' := s3.toks) fun b ob q => Heap.get?_push_of_some _ q
  show wpAny (model X.prog X.w) X.A (subscriptTail e (.Slice none none (some (.UnaryOp .USub (.Constant (.int 1) k p) p1)) p2) (.ref a) (.ref s3.heap.objs.size)) (EP X pins σ Q) X.xe { s3 with heap := s3.heap.push { cls := .type "slice", data := .fields #[.none, .none, vk] } }
  obtain ⟨its, r, ht, hz⟩ := I4.tuple hx
  refine tail_any (ops := [.ref a, .ref s3.heap.objs.size]) ht.typeIs PyProof.Rows.slot_tuple_getitem.lookup ?_ (by with_unfolding_all rfl)
  refine getItem_tuple_rev ht (Heap.IsSliceOf.new ..) pk ?_ (by rw [List.size_toArray, ← r.length]; exact hz)
  refine ⟨.ref _, _, I4.laid (t' := s3.toks) (o := .frz { cls := .type "tuple", data := .seq its.toArray.toList.reverse.toArray } (.tup xs.reverse)) (fun b ob q => Heap.get?_push_of_some _ q) (Nat.le_refl _) ?_, rfl, q _ _ (I4.hok.fresh (Nat.le_refl _)) rfl⟩
  refine ⟨Heap.get?_push_size _ rfl, by rw [List.length_reverse]; exact hz, its.reverse, ?_, IsTup.new _ _⟩
  have rev : ∀ {vs : List V} {us : List Value}, Vals vs us → Vals vs.reverse us.reverse := by
    intro vs us h
    induction h with
    | nil => exact .nil
    | cons h0 _ ih =>
      rw [List.reverse_cons, List.reverse_cons]
      exact ih.append (.cons h0 .nil)
  exact rev r
end LD

set_option Elab.async false
set_option linter.all false
set_option maxRecDepth 100000
set_option maxHeartbeats 2000000
/-! LD7: displays, subscripts, calls, methods. -/
namespace LD
open PySem PySem.Spec PyProof.Rows L2 HT
section
variable {ga : Str → Addr} {G : GT} {N : List Str} {T : List (Str × Nat)}
theorem sa_nil : SA ga G N T .nil := by
  intro X sc xs W C tk h
  cases xs with
  | nil => exact pa_nil.mono fun σ H Q ⟨ms, Γ, μ, ρ, S, R, q⟩ => q [] H ms Γ (After.refl S) Reps.nil
  | cons x xs => simp [chks] at h
theorem sa_cons {e : Ex} {es : Exs} (he : SE ga G N T e) (hs : SA ga G N T es) : SA ga G N T (.cons e es) := by
  intro X sc xs W C tk h
  cases xs with
  | nil => simp [chks] at h
  | cons x xs =>
    obtain ⟨h1, h2, h3⟩ := and3 (show (chk N T sc e x && notStar x && chks N T sc es xs) = true from h)
    refine (pa_cons (he X sc x W C tk h1) (hs X sc xs W C tk h3) (star_cons x xs X.env h2)).mono fun σ H Q ⟨ms, Γ, μ, ρ, S, R, q⟩ => ?_
    refine stepS S R q fun d μ1 v H1 ms1 Γ1 A r R1 q1 => stepAS A.si R1 q1 fun ds μ2 vs H2 ms2 Γ2 A2 r2 R2 q2 => ?_
    exact q2 (v :: vs) H2 ms2 Γ2 (After.refl A2.si) (Reps.cons (r.mono A2.le A2.pre) r2)
theorem se_tup {es : Exs} (hs : SA ga G N T es) : SE ga G N T (.tup es) := by
  intro X sc x W C tk h
  cases x with
  | Tuple xs k pos =>
    refine (pe_tupF (hs X sc xs W C tk h)).mono fun σ H Q ⟨ms, Γ, μ, ρ, S, R, q⟩ => ?_
    refine stepA S R q fun ds μ1 vs H1 ms1 Γ1 A r R1 q1 => ?_
    split at q1
    · rename_i hz
      rw [line_eq] at hz
      exact ⟨by rw [← r.length]; exact hz, PD.newT q1 A.si r hz⟩
    · exact False.elim q1
  | _ => exact absurd h (by simp [chk])
theorem se_lst {es : Exs} (hs : SA ga G N T es) : SE ga G N T (.lst es) := by
  intro X sc x W C tk h
  cases x with
  | List xs pos =>
    refine (pe_lst (hs X sc xs W C tk h)).mono fun σ H Q ⟨ms, Γ, μ, ρ, S, R, q⟩ => ?_
    refine stepA S R q fun ds μ1 vs H1 ms1 Γ1 A r R1 q1 => ?_
    split at q1
    · rename_i hz
      rw [line_eq] at hz
      exact ⟨by rw [← r.length]; exact hz, PD.newL q1 A.si r hz⟩
    · exact False.elim q1
  | _ => exact absurd h (by simp [chk])
theorem After.store {K : PySem.W.Frag} {ga : Str → Addr} {ms : List Addr} {Γ : Hp} {μ : Store} {H : Hp} (h : SI K ga ms Γ μ H) {p : Addr} {vs : List V} {xs : List D} (hp : H p = none) (hl : xs.length ≤ sizeLine) (r : Reps K ga ms Γ xs vs) :
    After K ga ms Γ H (ms ++ [p]) Γ (μ ++ [.lst xs]) (upd H p (.lst vs)) := by
  have hΓ : Γ p = none := by
    cases e : Γ p with
    | none => rfl
    | some u => rw [h.sub _ _ e] at hp; cases hp
  have hpm : p ∉ ms := fun hm => by
    obtain ⟨u, e⟩ := h.there p hm
    rw [hp] at e; cases e
  have A := After.layOwn (o := HO.lst vs) h hp
  have S2 : SI K ga ms Γ μ (upd H p (.lst vs)) := A.si
  refine ⟨S2.store upd_same hΓ hpm hl r, fun _ _ e => e, List.prefix_append _ _, fun a o e hm => A.keep a o e hm, fun a ha => ?_, fun a o e => .inl e⟩
  rcases List.mem_append.mp ha with ha | ha
  · exact .inl ha
  · have e : a = p := by simpa using ha
    rw [e]; exact .inr hp
theorem se_newl {es : Exs} (hs : SA ga G N T es) : SE ga G N T (.newl es) := by
  intro X sc x W C tk h
  cases x with
  | List xs pos =>
    refine (pe_lst (hs X sc xs W C tk h)).mono fun σ H Q ⟨ms, Γ, μ, ρ, S, R, q⟩ => ?_
    refine stepA S R q fun ds μ1 vs H1 ms1 Γ1 A r R1 q1 => ?_
    split at q1
    · rename_i hz
      rw [line_eq] at hz
      refine ⟨by rw [← r.length]; exact hz, fun p hp => ?_⟩
      have B := After.store A.si hp hz r
      refine q1 _ _ _ _ B ?_
      unfold Rep
      refine ⟨p, rfl, ?_⟩
      rw [← A.si.len, List.getElem?_append_right (Nat.le_refl _), Nat.sub_self]
      rfl
    · exact False.elim q1
  | _ => exact absurd h (by simp [chk])
theorem ix_plain {b : Expr} (h : plainIx b = true) : PlainIx b := by
  intro o i
  cases b <;> first | rfl | exact absurd h Bool.false_ne_true
theorem se_idx {a b : Ex} (ha : SE ga G N T a) (hb : SE ga G N T b) : SE ga G N T (.idx a b) := by
  intro X sc x W C tk h
  cases x with
  | Subscript p q pos =>
    obtain ⟨h1, h2, h3⟩ := and3 (show (chk N T sc a p && chk N T sc b q && plainIx q) = true from h)
    refine (pe_ix (op_idx ga) (ha X sc p W C tk h1) (hb X sc q W C tk h2) (ix_plain h3)).mono fun σ H Q ⟨ms, Γ, μ, ρ, S, R, q⟩ => ?_
    refine step S R q fun d μ1 v H1 ms1 Γ1 A r R1 q1 => step A.si R1 q1 fun d2 μ2 v2 H2 ms2 Γ2 A2 r2 R2 q2 => ?_
    obtain ⟨d3, e, q3⟩ := PO.opt q2
    exact ⟨ms2, Γ2, μ2, d, d2, d3, ⟨A2.si, r.mono A2.le A2.pre, r2⟩, e, q3⟩
  | _ => exact absurd h (by simp [chk])
def SAll (ga : Str → Addr) (G : GT) (N : List Str) (T : List (Str × Nat)) : Exs → Prop
  | .nil => True
  | .cons e es => SE ga G N T e ∧ SAll ga G N T es
theorem hv_of {es : Exs} (h : SAll ga G N T es) : ∀ e, es = .cons e .nil → SE ga G N T e := fun e q => by subst q; exact h.1
theorem Out.bind_assoc {α β γ : Type} (o : Out α) (f : α → Store → Out β) (g : β → Store → Out γ) : (o.bind f).bind g = o.bind fun a μ => (f a μ).bind g := by cases o <;> rfl
/-- one bound -/
theorem one_part {X : Cx} {W : WX} {ms : List Addr} {Γ : Hp} {μ : Store} {H : Hp} {σ : L2.St} {ρ : Env} {l : Ex} {Q : VK} {f : D → Store → Out D} {T : Option Int → Hp → Prop} (S : SI X.K ga ms Γ μ H) (R : ER X.K ga ms Γ H ρ σ)
    (h : LD.PO X ga ms Γ H (match ev G l ρ μ with | .ok d μ => f d μ | _ => .bad) σ W Q)
    (hf : ∀ d μ, (∀ i, d ≠ .int i) → f d μ = .bad)
    (k : ∀ (i : Int) μ1 H1 ms1 Γ1, After X.K ga ms Γ H ms1 Γ1 μ1 H1 → LD.PO X ga ms1 Γ1 H1 (f (.int i) μ1) σ W Q → T (some i) H1) : tPart (tE X ga G W l) σ H T := by
  refine ⟨ms, Γ, μ, ρ, S, R, ?_⟩
  cases e : ev G l ρ μ with
  | bad => rw [e] at h; exact h
  | exc c fs μ1 => rw [e] at h; exact h.elim
  | ok d μ1 =>
    rw [e] at h
    intro v H1 ms1 Γ1 A r
    have no : (∀ i, d ≠ .int i) → False := fun q => by
      have h : LD.PO X ga ms Γ H (f d μ1) σ W Q := h
      rw [hf d μ1 q] at h
      exact h
    cases d with
    | int i =>
      unfold Rep at r
      exact ⟨i, r, k i μ1 H1 ms1 Γ1 A (PO.shift h A)⟩
    | _ => exact (no fun i q => by cases q).elim
theorem se_slice (k : SK) {a : Ex} {es : Exs} (ha : SE ga G N T a) (hs : SAll ga G N T es) : SE ga G N T (.slice k a es) := by
  intro X sc x W C tk h
  cases x with
  | Subscript x sl pos =>
    cases sl with
    | Slice lo hi st p2 =>
      cases st with
      | some _ => exact absurd h (by simp [chk])
      | none =>
        have h := Bool.and_eq_true_iff.mp (show (chk N T sc a x && (match partsOf k lo hi with
          | some ys => chks N T sc es ys
          | none => false)) = true from h)
        obtain ⟨h1, h2⟩ := h
        have h1 := ha X sc x W C tk h1
        have fin : ∀ {σ : L2.St} {Q : VK} {ms1 Γ1 H1 d v lo hi μ2} {ms2 : List Addr} {Γ2 H2 : Hp}, Rep X.K ga ms1 Γ1 d v → After X.K ga ms1 Γ1 H1 ms2 Γ2 μ2 H2 → LD.PO X ga ms2 Γ2 H2 (opt (sliceD d (lo, hi)) μ2) σ W Q → rSlD X ga v lo hi H2 Q := fun {σ Q ms1 Γ1 H1 d v lo hi μ2 ms2 Γ2 H2} r A q => by
          obtain ⟨d', e, q2⟩ := PO.opt q
          exact ⟨ms2, Γ2, μ2, d, d', A.si, r.mono A.le A.pre, e, q2⟩
        cases k with
        | all =>
          cases lo with
          | some _ => simp [partsOf] at h2
          | none =>
            cases hi with
            | some _ => simp [partsOf] at h2
            | none =>
              cases es with
              | cons _ _ => simp [partsOf, chks] at h2
              | nil =>
                refine (pe_slice (op_sl ga) h1 po_none po_none).mono fun σ H Q ⟨ms, Γ, μ, ρ, S, R, q⟩ => ?_
                refine step S R q fun d μ1 v H1 ms1 Γ1 A r R1 q1 => ?_
                exact fin r (After.refl A.si) q1
        | lo =>
          cases lo with
          | none => simp [partsOf] at h2
          | some y =>
            cases hi with
            | some _ => simp [partsOf] at h2
            | none =>
              match es, hs, h2 with
              | .nil, _, h2 => simp [partsOf, chks] at h2
              | .cons l (.cons _ _), _, h2 => simp [partsOf, chks] at h2
              | .cons l .nil, hs, h2 =>
                have h2 : (chk N T sc l y && notStar y && true) = true := h2
                simp only [Bool.and_eq_true] at h2
                refine (pe_slice (op_sl ga) h1 (po_some (hs.1 X sc y W C tk h2.1.1)) po_none).mono fun σ H Q ⟨ms, Γ, μ, ρ, S, R, q⟩ => ?_
                refine step S R q fun d μ1 v H1 ms1 Γ1 A r R1 q1 => ?_
                refine one_part (f := fun d2 μ => match part .lo [d2] with | some p => opt (sliceD d p) μ | none => .bad) A.si R1 ?_ ?_ fun i μ2 H2 ms2 Γ2 A2 q2 => fin r A2 q2
                · have q1 : LD.PO X ga ms1 Γ1 H1 (match (ev G l ρ μ1).bind fun d μ => (Out.ok [] μ : Out (List D)).bind fun ds μ => .ok (d :: ds) μ with
                    | .ok ds μ => (match part .lo ds with
                      | some p => opt (sliceD d p) μ
                      | none => .bad)
                    | _ => .bad) σ W Q := q1
                  cases e : ev G l ρ μ1 <;> rw [e] at q1 <;> exact q1
                · intro d2 μ hd
                  cases d2 with
                  | int i => exact absurd rfl (hd i)
                  | _ => rfl
        | hi =>
          cases hi with
          | none => cases lo <;> simp [partsOf] at h2
          | some y =>
            cases lo with
            | some _ => simp [partsOf] at h2
            | none =>
              match es, hs, h2 with
              | .nil, _, h2 => simp [partsOf, chks] at h2
              | .cons l (.cons _ _), _, h2 => simp [partsOf, chks] at h2
              | .cons l .nil, hs, h2 =>
                have h2 : (chk N T sc l y && notStar y && true) = true := h2
                simp only [Bool.and_eq_true] at h2
                refine (pe_slice (op_sl ga) h1 po_none (po_some (hs.1 X sc y W C tk h2.1.1))).mono fun σ H Q ⟨ms, Γ, μ, ρ, S, R, q⟩ => ?_
                refine step S R q fun d μ1 v H1 ms1 Γ1 A r R1 q1 => ?_
                refine one_part (T := fun o H2 => rSlD X ga v none o H2 Q) (f := fun d2 μ => match part .hi [d2] with | some p => opt (sliceD d p) μ | none => .bad) A.si R1 ?_ ?_ fun i μ2 H2 ms2 Γ2 A2 q2 => fin r A2 q2
                · have q1 : LD.PO X ga ms1 Γ1 H1 (match (ev G l ρ μ1).bind fun d μ => (Out.ok [] μ : Out (List D)).bind fun ds μ => .ok (d :: ds) μ with
                    | .ok ds μ => (match part .hi ds with
                      | some p => opt (sliceD d p) μ
                      | none => .bad)
                    | _ => .bad) σ W Q := q1
                  cases e : ev G l ρ μ1 <;> rw [e] at q1 <;> exact q1
                · intro d2 μ hd
                  cases d2 with
                  | int i => exact absurd rfl (hd i)
                  | _ => rfl
        | both =>
          cases lo with
          | none => simp [partsOf] at h2
          | some y =>
            cases hi with
            | none => simp [partsOf] at h2
            | some z =>
              match es, hs, h2 with
              | .nil, _, h2 => simp [partsOf, chks] at h2
              | .cons l .nil, _, h2 => simp [partsOf, chks] at h2
              | .cons l (.cons u (.cons _ _)), _, h2 => simp [partsOf, chks] at h2
              | .cons l (.cons u .nil), hs, h2 =>
                have h2 : (chk N T sc l y && notStar y && (chk N T sc u z && notStar z && true)) = true := h2
                simp only [Bool.and_eq_true] at h2
                refine (pe_slice (op_sl ga) h1 (po_some (hs.1 X sc y W C tk h2.1.1)) (po_some (hs.2.1 X sc z W C tk h2.2.1.1))).mono fun σ H Q ⟨ms, Γ, μ, ρ, S, R, q⟩ => ?_
                refine step S R q fun d μ1 v H1 ms1 Γ1 A r R1 q1 => ?_
                refine one_part (Q := Q) (f := fun d2 μ => match d2 with | .int i => (match ev G u ρ μ with | .ok d3 μ => (match part .both [.int i, d3] with | some p => opt (sliceD d p) μ | none => .bad) | _ => .bad) | _ => .bad) A.si R1 ?_ ?_ fun i μ2 H2 ms2 Γ2 A2 q2 => ?_
                · have q1 : LD.PO X ga ms1 Γ1 H1 (match (ev G l ρ μ1).bind fun d μ => ((ev G u ρ μ).bind fun d μ => (Out.ok [] μ : Out (List D)).bind fun ds μ => .ok (d :: ds) μ).bind fun ds μ => .ok (d :: ds) μ with
                    | .ok ds μ => (match part .both ds with
                      | some p => opt (sliceD d p) μ
                      | none => .bad)
                    | _ => .bad) σ W Q := q1
                  cases e : ev G l ρ μ1 with
                  | bad => rw [e] at q1; exact q1
                  | exc c fs μ2 => rw [e] at q1; exact q1
                  | ok d2 μ2 =>
                    rw [e, Out.bind_ok] at q1
                    cases e2 : ev G u ρ μ2 with
                    | ok d3 μ3 =>
                      rw [e2] at q1
                      cases d2 with
                      | int i => show LD.PO X ga ms1 Γ1 H1 (match ev G u ρ μ2 with | .ok d3 μ => (match part .both [.int i, d3] with | some p => opt (sliceD d p) μ | none => .bad) | _ => .bad) σ W Q; rw [e2]; exact q1
                      | _ => exact q1
                    | exc c fs μ3 => rw [e2] at q1; exact q1.elim
                    | bad => rw [e2] at q1; exact q1.elim
                · intro d2 μ hd
                  cases d2 with
                  | int i => exact absurd rfl (hd i)
                  | _ => rfl
                · refine one_part (T := fun o H2 => rSlD X ga v (some i) o H2 Q) (f := fun d3 μ => match part .both [.int i, d3] with | some p => opt (sliceD d p) μ | none => .bad) A2.si (R1.mono A2) q2 ?_ fun j μ3 H3 ms3 Γ3 A3 q3 => fin r (A2.trans A3) q3
                  intro d2 μ hd
                  cases d2 with
                  | int i => exact absurd rfl (hd i)
                  | _ => rfl
    | _ => exact absurd h (by simp [chk])
  | _ => exact absurd h (by simp [chk])
theorem se_bidx (i : Nat) {b : Ex} (hb : SE ga G N T b) : SE ga G N T (.bidx i b) := by
  intro X sc x W C tk h
  cases x with
  | Subscript p q pos =>
    cases p with
    | Name y py =>
      obtain ⟨h1, h2, h3⟩ := and3 (show (nIs N sc i y && chk N T sc b q && plainIx q) = true from h)
      obtain ⟨g1, g2, g3, g4⟩ := nIs_ok h1
      refine (pe_ix ix_list (pe_var (i := i) (by rw [C.hN]; exact g1) (C.vis _ g2) g3 g4) (hb X sc q W C tk h2) (ix_plain h3)).mono fun σ H Q ⟨ms, Γ, μ, ρ, S, R, q⟩ => ?_
      have q : PO X ga ms Γ H (match ρ[i]? with
        | some (.own xs) => (ev G b ρ μ).bind fun y μ => match y with
          | .int k => opt (L2.atI xs k) μ
          | _ => .bad
        | _ => .bad) σ W Q := q
      split at q
      · rename_i xs e
        obtain ⟨a, vs, e1, e2, _⟩ := R.own e
        refine ⟨.ref a, e1, step S R q fun d μ1 v H1 ms1 Γ1 A r R1 q1 => ?_⟩
        cases d with
        | int k =>
          obtain ⟨d2, e3, q2⟩ := PO.opt q1
          obtain ⟨a', vs', f1, f2, _, _, _, f6⟩ := R1.own e
          rw [e1] at f1
          cases f1
          obtain ⟨w, w1, w2⟩ := atI_rep f6 e3
          unfold Rep at r
          exact ⟨a, vs', k, w, rfl, r, SqL.of f2, w1, q2.here A.si w2⟩
        | _ => exact False.elim q1
      · exact False.elim q
    | _ => exact absurd h (by simp [chk])
  | _ => exact absurd h (by simp [chk])
/-! ### calls of the program's functions -/
theorem pe_call0S {X : Cx} {CX : CXT} {k : Nat} {f : Addr} {fd : FuncData} {ps : List Str} {sp : Sp} {E : L2.St → XK} {x : Str} {p pos : Pos}
    (F : FnOk X.prog X.w X.K X.mg X.base CX k f fd ps sp) (hr : Room k X.A) (hg : L2.Gl X x) (hm : X.mg x = some (.ref f)) (hk : PySem.W.keepIn X.K (.ref f) = true) (hb : Binds X.K fd ps []) (hx : ∀ σ, PassesAt CX X σ (E σ))
    (hdb : (x == ("__debug__" : Str)) = false) : PE X (.Call (.Name x p) [] [] pos) (tCallS sp E tNil) := by
  refine ⟨fun pins s σ H Q I h => ?_⟩
  refine wpAny_Call_Name_kw (ld_glob I hg hm ?_ hdb)
  exact PySem.W.callWith_K0 I.kIn hk (run_fnS (us := []) F hr hb (hx σ) I .nil h)
theorem se_call (f : Str) {es : Exs} (hs : SA ga G N T es) : SE ga G N T (.call f es) := by
  intro X sc x W C tk h
  cases x with
  | Call g xs kws pos =>
    cases g with
    | Name y py =>
      cases kws with
      | nil =>
        have h : (decide (f = y) && decide (xs.length ≠ 1000) && decide ((f, xs.length) ∈ T) && glC sc y && okName y && chks N T sc es xs) = true := h
        simp only [Bool.and_eq_true] at h
        obtain ⟨⟨⟨⟨⟨h1, hne⟩, h1'⟩, h2⟩, h3⟩, h4⟩ := h
        have e := of_decide_eq_true h1
        subst e
        obtain ⟨k, a, fd, ps, hm, hk, hl, F, hr, hb⟩ := (C.fn f xs.length (of_decide_eq_true h1') (of_decide_eq_true hne)).ex
        have hp : ∀ σ, PassesAt (L2.CX X.prog X.w) X σ (WE W σ) := fun σ => passAt tk σ
        have main : ∀ σ H Q, tE X ga G W (.call f es) σ H Q → tCallS (spC X.K ga (G.call f)) (WE W) (tA X ga G W es) σ H Q := fun σ H Q ⟨ms, Γ, μ, ρ, S, R, q⟩ => by
          refine stepA S R q fun ds μ1 vs H1 ms1 Γ1 A r R1 q1 => ?_
          refine ⟨ms1, Γ1, μ1, ds, A.si, r, ?_⟩
          cases e : G.call f ds μ1 with
          | ok d μ2 => rw [e] at q1; exact q1
          | exc c fs μ2 => rw [e] at q1; exact q1
          | bad => rw [e] at q1; exact q1
        cases xs with
        | nil =>
          refine (pe_call0S F hr (C.gl _ h2) hm hk hb hp (okName_debug h3).1).mono fun σ H Q hq => ?_
          cases es with
          | nil =>
            obtain ⟨ms, Γ, μ, ρ, S, R, z⟩ := main σ H Q hq
            exact z [] H ms Γ (After.refl S) Reps.nil
          | cons e es => simp [chks] at h4
        | cons x xs =>
          have st := chks_star h4
          have st2 := Bool.and_eq_true_iff.mp (show (notStar x && xs.all notStar) = true from st)
          exact (pe_callS F hr (C.gl _ h2) hm hk hb hp (hs X sc _ W C tk h4) (okName_debug h3).1 (star_cons x xs X.env st2.1) (plain_any st2.2)).mono main
      | cons _ _ => exact absurd h (by simp [chk])
    | _ => exact absurd h (by simp [chk])
  | _ => exact absurd h (by simp [chk])
/-! ### calls of built-in functions -/
theorem blt_boot (f : Blt) : bltNm f ∈ bltNames ∧ bltNm f ≠ "__name__" ∧ (bltNm f == ("__debug__" : Str)) = false ∧ bootBuiltins (bltNm f) = some (bltVal f) := by
  cases f <;> exact ⟨by decide +kernel, by decide +kernel, by decide +kernel, by decide +kernel⟩
theorem pe_callV {X : Cx} {f : Value} {r : List V → Hp → VK → Prop} {x : Str} {e : Expr} {es : List Expr} {t : TA} {p pos : Pos} (hf : (∃ id, f = .builtin id) ∨ ∃ n, f = .type n) (hc : CallR X f r) (hg : L2.Gl X x) (hm : X.mg x = none) (hv : bootBuiltins x = some f)
    (ha : PA X (e :: es) t) (hn : x ≠ "__name__") (hdb : (x == ("__debug__" : Str)) = false) (he : starEach (e :: es) X.env = (false, eval e X.env) :: starEach es X.env) (hpl : (backTo pos (starEach es X.env)).any (·.1) = false) :
    PE X (.Call (.Name x p) (e :: es) [] pos) (tCB r t) := by
  rcases hf with ⟨id, rfl⟩ | ⟨n, rfl⟩
  · exact pe_callB hc hg hm hv ha hn hdb he hpl
  · exact pe_callTy hc hg hm hv ha hn hdb he hpl
theorem se_blt (f : Blt) {es : Exs} (hs : SA ga G N T es) : SE ga G N T (.blt f es) := by
  intro X sc x W C tk h
  cases x with
  | Call g xs kws pos =>
    cases g with
    | Name y py =>
      match xs, kws, h with
      | a :: as, [], h =>
        obtain ⟨h1, h2, h3⟩ := and3 (show (decide (y = bltNm f) && glC sc y && chks N T sc es (a :: as)) = true from h)
        have e := of_decide_eq_true h1
        subst e
        obtain ⟨b1, b2, b3, b4⟩ := blt_boot f
        have st2 := Bool.and_eq_true_iff.mp (show (notStar a && as.all notStar) = true from chks_star h3)
        refine (pe_callV (by cases f <;> first | exact .inl ⟨_, rfl⟩ | exact .inr ⟨_, rfl⟩) (op_blt ga C.calm f) (C.gl _ h2) (C.blt _ b1) b4 (hs X sc _ W C tk h3) b2 b3 (star_cons a as X.env st2.1) (plain_any st2.2)).mono fun σ H Q ⟨ms, Γ, μ, ρ, S, R, q⟩ => ?_
        refine stepA S R q fun ds μ1 vs H1 ms1 Γ1 A r R1 q1 => ?_
        obtain ⟨d, e, q2⟩ := PO.opt q1
        exact ⟨ms1, Γ1, μ1, ds, d, A.si, r, e, q2⟩
      | [], [], h => simp [chk] at h
      | [], _ :: _, h => simp [chk] at h
      | _ :: _, _ :: _, h => simp [chk] at h
    | _ => exact absurd h (by simp [chk])
  | _ => exact absurd h (by simp [chk])
/-! ### methods of built-in types -/
theorem base_ok {o : Expr} {n : Str} {env : PySem.Env} (h : notSuper o = true) : attributeBase o n env (eval o env) = eval o env := by
  cases o with
  | Call g xs kws pos =>
    cases g with
    | Name y py =>
      cases xs with
      | nil =>
        cases kws with
        | nil => exact absurd h Bool.false_ne_true
        | cons _ _ => rfl
      | cons _ _ => rfl
    | _ => rfl
  | _ => rfl
theorem mth_facts (m : Mth) : PlainAttrs (mthTy m) ∧ PySem.Slot (mthTy m) (mthNm m) (mthId m) ∧ typeOf (.builtin (mthId m)) = pure (.type "method_descriptor") := by
  cases m with
  | join => exact ⟨PySem.F.plainAttrs_str, PySem.F.slot_str_join, PySem.F.type_str_join⟩
  | tindex => exact ⟨PySem.F.plainAttrs_tuple, PySem.F.slot_tuple_index, PySem.F.type_tuple_index⟩
  | lindex => exact ⟨PySem.F.plainAttrs_list, PySem.F.slot_list_index, PySem.F.type_list_index⟩
theorem mth_ty {X : Cx} {ms : List Addr} {Γ H : Hp} {m : Mth} {d : D} {v : V} (le : Same Γ H) (r : Rep X.K ga ms Γ d v) (h : mthOk m d = true) : tyW X.K (mthTy m) v H := by
  cases m with
  | join =>
    cases d with
    | str z => unfold Rep at r; obtain ⟨r, _⟩ := r; subst r; exact .inl rfl
    | _ => exact absurd h (by simp [mthOk])
  | tindex =>
    cases d with
    | tup xs => unfold Rep at r; obtain ⟨a, vs, rfl, h1, _⟩ := r; exact .inr ⟨rfl, a, vs, rfl, h1.mono le⟩
    | _ => exact absurd h (by simp [mthOk])
  | lindex =>
    cases d with
    | lst xs => unfold Rep at r; obtain ⟨a, vs, rfl, h1, _⟩ := r; exact .inl (.inl ⟨rfl, vs, SqL.of (le _ _ h1)⟩)
    | _ => exact absurd h (by simp [mthOk])
theorem se_meth (m : Mth) {o : Ex} {es : Exs} (ho : SE ga G N T o) (hs : SA ga G N T es) : SE ga G N T (.meth m o es) := by
  intro X sc x W C tk h
  cases x with
  | Call g xs kws pos =>
    cases g with
    | Attribute oo n ap =>
      match xs, kws, h with
      | [a], [], h =>
        have h : (decide (n = mthNm m) && chk N T sc o oo && notSuper oo && chks N T sc es [a] && decide (ap.endLine = pos.line)) = true := h
        simp only [Bool.and_eq_true] at h
        obtain ⟨⟨⟨⟨h1, h2⟩, h3⟩, h4⟩, h5⟩ := h
        have e := of_decide_eq_true h1
        subst e
        obtain ⟨f1, f2, f3⟩ := mth_facts m
        have st2 := Bool.and_eq_true_iff.mp (show (notStar a && [].all notStar) = true from chks_star h4)
        have sc1 := star_cons a [] X.env st2.1
        refine (pe_bw f1 f2 f3 (op_mth ga m) (ho X sc oo W C tk h2) (hs X sc [a] W C tk h4) (base_ok h3) (by rw [sc1]; rfl) (by simpa using h5) sc1 (plain_any rfl)).mono fun σ H Q ⟨ms, Γ, μ, ρ, S, R, q⟩ => ?_
        refine step S R q fun d μ1 v H1 ms1 Γ1 A r R1 q1 => ?_
        split at q1
        · rename_i hk
          refine ⟨mth_ty A.si.sub r hk, stepA A.si R1 q1 fun ds μ2 vs H2 ms2 Γ2 A2 r2 R2 q2 => ?_⟩
          obtain ⟨d2, e, q3⟩ := PO.opt q2
          exact ⟨ms2, Γ2, μ2, d, ds, d2, A2.si, r.mono A2.le A2.pre, r2, e, q3⟩
        · exact False.elim q1
      | [], [], h => simp [chk] at h
      | [], _ :: _, h => simp [chk] at h
      | [_], _ :: _, h => simp [chk] at h
      | _ :: _ :: _, _, h => simp [chk] at h
    | _ => exact absurd h (by simp [chk])
  | _ => exact absurd h (by simp [chk])
/-! ### t[::-1] -/
theorem Reps.rev {K : PySem.W.Frag} {ms : List Addr} {Γ : Hp} : ∀ {ds : List D} {vs : List V}, Reps K ga ms Γ ds vs → Reps K ga ms Γ ds.reverse vs.reverse
  | [], vs, h => by rw [h.nil_iff]; exact Reps.nil
  | d :: ds, vs, h => by
    obtain ⟨v, r, rfl, h1, h2⟩ := h.cons_iff
    rw [List.reverse_cons, List.reverse_cons]
    exact (Reps.rev h2).append (Reps.cons h1 Reps.nil)
theorem se_rev {a : Ex} (ha : SE ga G N T a) : SE ga G N T (.rev a) := by
  intro X sc x W C tk h
  have key : ∃ p i k p1 p2 p3 pos, x = .Subscript p (.Slice none none (some (.UnaryOp .USub (.Constant (.int i) k p1) p2)) p3) pos ∧ (decide (i = 1) && chk N T sc a p) = true := by
    cases x with
    | Subscript p q pos =>
      cases q with
      | Slice lo hi st p3 =>
        cases lo with
        | some _ => exact absurd h (by simp [chk])
        | none =>
          cases hi with
          | some _ => exact absurd h (by simp [chk])
          | none =>
            cases st with
            | none => exact absurd h (by simp [chk])
            | some e =>
              cases e with
              | UnaryOp o e p2 =>
                cases o with
                | USub =>
                  cases e with
                  | Constant c k p1 =>
                    cases c with
                    | int i => exact ⟨_, _, _, _, _, _, _, rfl, h⟩
                    | _ => exact absurd h (by simp [chk])
                  | _ => exact absurd h (by simp [chk])
                | _ => exact absurd h (by simp [chk])
              | _ => exact absurd h (by simp [chk])
      | _ => exact absurd h (by simp [chk])
    | _ => exact absurd h (by simp [chk])
  obtain ⟨p, i, k, p1, p2, p3, pos, rfl, h2⟩ := key
  have h2 := Bool.and_eq_true_iff.mp h2
  have e := of_decide_eq_true h2.1
  subst e
  refine (pe_rev (ha X sc p W C tk h2.2)).mono fun σ H Q ⟨ms, Γ, μ, ρ, S, R, q⟩ => ?_
  refine step S R q fun d μ1 v H1 ms1 Γ1 A r R1 q1 => ?_
  cases d with
  | tup xs =>
    unfold Rep at r
    obtain ⟨a, vs, rfl, h1, h2, h3⟩ := r
    exact ⟨a, vs, rfl, (h1.mono A.si.sub).seq, PD.newT q1 A.si (Reps.rev h3) (by rw [List.length_reverse]; exact h2)⟩
  | _ => exact False.elim q1
/-! ### lists of the store -/
theorem and4 {a b c d : Bool} (h : (a && b && c && d) = true) : a = true ∧ b = true ∧ c = true ∧ d = true := by
  simp only [Bool.and_eq_true] at h
  exact ⟨h.1.1.1, h.1.1.2, h.1.2, h.2⟩
theorem se_llen {a : Ex} (ha : SE ga G N T a) : SE ga G N T (.llen a) := by
  intro X sc x W C tk h
  cases x with
  | Call g xs kws pos =>
    cases g with
    | Name y py =>
      match xs, kws, h with
      | [z], [], h =>
        obtain ⟨h1, h2, h3, h4⟩ := and4 (show (decide (y = ("len" : Str)) && glC sc y && chk N T sc a z && notStar z) = true from h)
        have e := of_decide_eq_true h1
        subst e
        obtain ⟨b1, b2, b3, b4⟩ := blt_boot .len
        refine (pe_callV (.inl ⟨_, rfl⟩) call_len (C.gl _ h2) (C.blt _ b1) b4 (pa_cons (ha X sc z W C tk h3) pa_nil (star_cons z [] X.env h4)) b2 b3 (star_cons z [] X.env h4) (plain_any rfl)).mono fun σ H Q ⟨ms, Γ, μ, ρ, S, R, q⟩ => ?_
        refine step S R q fun d μ1 v H1 ms1 Γ1 A r R1 q1 => ?_
        cases d with
        | loc l =>
          have q1 : PO X ga ms1 Γ1 H1 (match μ1[l]? with
            | some (.lst xs) => .ok (.int (xs.length : Nat)) μ1
            | _ => .bad) σ W Q := q1
          split at q1
          · rename_i xs el
            unfold Rep at r
            obtain ⟨p', rfl, hp⟩ := r
            obtain ⟨vs, f2, f5, f6⟩ := A.si.st l _ p' el hp
            exact ⟨.ref p', _, rfl, .inl ⟨vs, SqL.of f2, f6.length⟩, PD.int q1 A.si⟩
          · exact False.elim q1
        | _ => exact False.elim q1
      | [], _, h => simp [chk] at h
      | [_], _ :: _, h => simp [chk] at h
      | _ :: _ :: _, _, h => simp [chk] at h
    | _ => exact absurd h (by simp [chk])
  | _ => exact absurd h (by simp [chk])
theorem se_newc {a : Ex} (ha : SE ga G N T a) : SE ga G N T (.newc a) := by
  intro X sc x W C tk h
  cases x with
  | Call g xs kws pos =>
    cases g with
    | Name y py =>
      match xs, kws, h with
      | [z], [], h =>
        obtain ⟨h1, h2, h3, h4⟩ := and4 (show (decide (y = ("list" : Str)) && glC sc y && chk N T sc a z && notStar z) = true from h)
        have e := of_decide_eq_true h1
        subst e
        obtain ⟨b1, b2, b3, b4⟩ := blt_boot .list1
        refine (pe_callV (.inr ⟨_, rfl⟩) call_list_of (C.gl _ h2) (C.blt _ b1) b4 (pa_cons (ha X sc z W C tk h3) pa_nil (star_cons z [] X.env h4)) b2 b3 (star_cons z [] X.env h4) (plain_any rfl)).mono fun σ H Q ⟨ms, Γ, μ, ρ, S, R, q⟩ => ?_
        refine step S R q fun d μ1 v H1 ms1 Γ1 A r R1 q1 => ?_
        have fin : ∀ {xs : List D} {vs : List V}, PO X ga ms1 Γ1 H1 (.ok (.loc μ1.length) (μ1 ++ [.lst xs])) σ W Q → xs.length ≤ sizeLine → Reps X.K ga ms1 Γ1 xs vs → ∀ p, H1 p = none → Q (.ref p) (upd H1 p (.lst vs)) := fun {xs vs} q hz r p hp => by
          have B := After.store A.si hp hz r
          refine q _ _ _ _ B ?_
          unfold Rep
          refine ⟨p, rfl, ?_⟩
          rw [← A.si.len, List.getElem?_append_right (Nat.le_refl _), Nat.sub_self]
          rfl
        cases d with
        | lst xs =>
          unfold Rep at r
          obtain ⟨a, vs, rfl, h1, h2, h3⟩ := r
          exact ⟨a, vs, rfl, .inl (SqL.of (A.si.sub _ _ h1)), fin q1 h2 h3⟩
        | tup xs =>
          unfold Rep at r
          obtain ⟨a, vs, rfl, h1, h2, h3⟩ := r
          exact ⟨a, vs, rfl, .inr (h1.mono A.si.sub).seq, fin q1 h2 h3⟩
        | _ => exact False.elim q1
      | [], _, h => simp [chk] at h
      | [_], _ :: _, h => simp [chk] at h
      | _ :: _ :: _, _, h => simp [chk] at h
    | _ => exact absurd h (by simp [chk])
  | _ => exact absurd h (by simp [chk])
theorem Reps.erase {K : PySem.W.Frag} {ms : List Addr} {Γ : Hp} : ∀ {ds : List D} {vs : List V} (n : Nat), Reps K ga ms Γ ds vs → Reps K ga ms Γ (ds.eraseIdx n) (vs.eraseIdx n)
  | [], vs, n, h => by rw [h.nil_iff]; exact Reps.nil
  | d :: ds, vs, 0, h => by
    obtain ⟨v, r, rfl, h1, h2⟩ := h.cons_iff
    exact h2
  | d :: ds, vs, n + 1, h => by
    obtain ⟨v, r, rfl, h1, h2⟩ := h.cons_iff
    exact Reps.cons h1 (Reps.erase n h2)
theorem se_popl {o k : Ex} (ho : SE ga G N T o) (hk : SE ga G N T k) : SE ga G N T (.popl o k) := by
  intro X sc x W C tk h
  cases x with
  | Call g xs kws cp =>
    cases g with
    | Attribute ox n ap =>
      match xs, kws, h with
      | [y], [], h =>
        have h : (decide (n = ("pop" : Str)) && chk N T sc o ox && notSuper ox && chk N T sc k y && notStar y && decide (ap.endLine = cp.line)) = true := h
        simp only [Bool.and_eq_true] at h
        obtain ⟨⟨⟨⟨⟨h1, h2⟩, h2'⟩, h3⟩, h4⟩, h5⟩ := h
        have e2 := of_decide_eq_true h1
        subst e2
        have st1 : starEach [y] X.env = (false, eval y X.env) :: starEach [] X.env := star_cons y [] X.env h4
        refine (pe_bm PySem.F.plainAttrs_list PySem.F.slot_list_pop PySem.F.type_list_pop mt_popAt (ho X sc ox W C tk h2) (pa_cons (hk X sc y W C tk h3) pa_nil st1) (base_ok h2') (by rw [st1]; rfl) (by simpa using of_decide_eq_true h5) st1 (plain_any rfl)).mono fun σ H Q ⟨ms, Γ, μ, ρ, S, R, q⟩ => ?_
        refine step S R q fun d μ1 v H1 ms1 Γ1 A r R1 q1 => ?_
        cases d with
        | loc l =>
          have q1 : PO X ga ms1 Γ1 H1 (match μ1[l]? with
            | some (.lst _) => (ev G k ρ μ1).bind fun y μ => popD l y μ
            | _ => .bad) σ W Q := q1
          split at q1
          · rename_i xs el
            unfold Rep at r
            obtain ⟨p', rfl, hp⟩ := r
            obtain ⟨vs, f2, f5, f6⟩ := A.si.st l _ p' el hp
            refine ⟨.inl ⟨rfl, vs, SqL.of f2⟩, step A.si R1 q1 fun d2 μ2 v2 H2 ms2 Γ2 A2 r2 R2 q2 => ?_⟩
            cases d2 with
            | int j =>
              have q2 : PO X ga ms2 Γ2 H2 (match μ2[l]? with
                | some (.lst xs) => (match popIx xs.length j with
                  | some n => (match xs[n]? with
                    | some d => .ok d (μ2.set l (.lst (xs.eraseIdx n)))
                    | none => .bad)
                  | none => .bad)
                | _ => .bad) σ W Q := q2
              split at q2
              · rename_i ys el2
                split at q2
                · rename_i n en
                  split at q2
                  · rename_i d ed
                    unfold Rep at r2
                    subst r2
                    have hp2 := pre_get A2.pre hp
                    obtain ⟨us, g2, g5, g6⟩ := A2.si.st l _ p' el2 hp2
                    obtain ⟨w, w1, w2⟩ := g6.get ed
                    unfold popIx at en
                    split at en
                    · rename_i hj
                      have en := Option.some.inj en
                      have hl : (us.length : Int) = ys.length := by rw [g6.length]
                      have hix : seqIndex? j us.length = some n := by rw [← en]; exact PySem.StrLaws.seqIndex_nonneg hj.1 (by omega)
                      refine ⟨p', us, j, n, w, rfl, rfl, g2, by omega, by omega, hix, w1, ?_⟩
                      have B := After.put A2.si el2 hp2 (xs := ys.eraseIdx n) (Nat.le_trans (List.length_eraseIdx_le ys n) g5) (Reps.erase n g6)
                      exact q2 _ _ _ _ B w2
                    · cases en
                  · exact False.elim q2
                · exact False.elim q2
              · exact False.elim q2
            | _ => exact False.elim q2
          · exact False.elim q1
        | _ => exact False.elim q1
      | [], _, h => simp [chk] at h
      | [_], _ :: _, h => simp [chk] at h
      | _ :: _ :: _, _, h => simp [chk] at h
    | _ => exact absurd h (by simp [chk])
  | _ => exact absurd h (by simp [chk])
end
end LD

set_option Elab.async false
set_option linter.all false
set_option maxRecDepth 100000
set_option maxHeartbeats 2000000
/-! LD8: targets, what is walked, comprehensions. -/
namespace LD
open PySem PySem.Spec PyProof.Rows L2 HT
/-! ### targets -/
def gNames : List Nat → TGs
  | [] => gNil
  | i :: is => gCons (gName i) (gNames is)
def gT (K : PySem.W.Frag) : Tg → TG
  | .name i => gName i
  | .tup is => gTup K is.length (gNames is)
theorem wipe_set_set (σ : L2.St) (i : Nat) (x : Option V) : ∀ vs : List Nat, (wipe (σ.set i x) vs).set i none = (wipe σ vs).set i none
  | [] => by unfold wipe; rw [List.set_set]
  | v :: vs => by
    unfold wipe
    by_cases e : v = i
    · subst e
      rw [List.set_set, List.set_set, wipe_set_set σ v x vs]
    · rw [List.set_comm _ _ e, wipe_set_set σ i x vs, List.set_comm _ _ (Ne.symm e)]
theorem wipe_set (σ : L2.St) (i : Nat) (x : Option V) : ∀ {vs : List Nat}, i ∈ vs → wipe (σ.set i x) vs = wipe σ vs
  | [], h => by cases h
  | v :: vs, h => by
    unfold wipe
    by_cases e : v = i
    · subst e
      exact wipe_set_set σ v x vs
    · rcases List.mem_cons.mp h with h | h
      · exact absurd h.symm e
      · rw [wipe_set σ i x h]
theorem wipe_wipe (σ : L2.St) (us : List Nat) : ∀ (vs : List Nat), (∀ i ∈ vs, i ∈ us) → wipe (wipe σ vs) us = wipe σ us
  | [], _ => rfl
  | v :: vs, h => by
    show wipe ((wipe σ vs).set v none) us = wipe σ us
    rw [wipe_set _ v none (h v List.mem_cons_self), wipe_wipe σ us vs fun i hi => h i (List.mem_cons_of_mem _ hi)]
section
variable {K : PySem.W.Frag} {ga : Str → Addr} {ms : List Addr} {Γ H : Hp} {ρ ρ' : Env} {σ : L2.St}
theorem ER.clear (R : ER K ga ms Γ H ρ σ) (i : Nat) : ER K ga ms Γ H (ρ.set i .no) (σ.set i none) := by
  refine ⟨by rw [List.length_set, List.length_set]; exact R.len, fun j s ov e1 e2 => ?_, fun j k xs ys a b ne e1 e2 e3 e4 => ?_⟩
  · by_cases q : i = j
    · subst q
      have hi : i < ρ.length := by have := (List.getElem?_eq_some_iff.mp e1).1; rwa [List.length_set] at this
      rw [List.getElem?_set_self hi] at e1
      cases e1
      trivial
    · rw [List.getElem?_set_ne q] at e1 e2
      exact R.at_ j s ov e1 e2
  · have hj : i ≠ j := fun q => by
      subst q
      have hi : i < ρ.length := by have := (List.getElem?_eq_some_iff.mp e1).1; rwa [List.length_set] at this
      rw [List.getElem?_set_self hi] at e1; cases e1
    have hk : i ≠ k := fun q => by
      subst q
      have hi : i < ρ.length := by have := (List.getElem?_eq_some_iff.mp e2).1; rwa [List.length_set] at this
      rw [List.getElem?_set_self hi] at e2; cases e2
    rw [List.getElem?_set_ne hj] at e1 e3
    rw [List.getElem?_set_ne hk] at e2 e4
    exact R.sep j k xs ys a b ne e1 e2 e3 e4
theorem ER.wipe (R : ER K ga ms Γ H ρ σ) : ∀ is : List Nat, ER K ga ms Γ H (wipeE ρ is) (L2.wipe σ is)
  | [] => R
  | i :: is => (R.wipe is).clear i
theorem put_some {i : Nat} {d : D} (h : ρ.put i d = some ρ') : i < ρ.length ∧ ρ' = ρ.set i (.val d) := by
  unfold Env.put at h
  split at h
  · rename_i hi
    cases h
    exact ⟨hi, rfl⟩
  · cases h
theorem names_use : ∀ {is : List Nat} {ds : List D} {vs : List V} {ρ : Env} {σ : L2.St} {Q : L2.St → Hp → Prop}, ER K ga ms Γ H ρ σ → Reps K ga ms Γ ds vs → putAll ρ is ds = some ρ' →
    (∀ σ', ER K ga ms Γ H ρ' σ' → (∀ us, (∀ i ∈ is, i ∈ us) → L2.wipe σ' us = L2.wipe σ us) → Q σ' H) → gNames is vs σ H Q
  | [], [], vs, ρ, σ, Q, R, r, e, q => by
    unfold putAll at e
    cases e
    exact ⟨r.nil_iff, q σ R fun _ _ => rfl⟩
  | [], _ :: _, _, _, _, _, _, _, e, _ => by unfold putAll at e; cases e
  | _ :: _, [], _, _, _, _, _, _, e, _ => by unfold putAll at e; cases e
  | i :: is, d :: ds, vs, ρ, σ, Q, R, r, e, q => by
    unfold putAll at e
    obtain ⟨v, s, rfl, h1, h2⟩ := r.cons_iff
    cases e1 : ρ.put i d with
    | none => rw [e1] at e; cases e
    | some ρ1 =>
      rw [e1] at e
      have e : putAll ρ1 is ds = some ρ' := e
      obtain ⟨_, rfl⟩ := put_some e1
      refine ⟨v, s, rfl, names_use (R.put h1) h2 e fun σ' R' hw => q σ' R' fun us hu => ?_⟩
      rw [hw us fun j hj => hu j (List.mem_cons_of_mem _ hj), wipe_set _ _ _ (hu i List.mem_cons_self)]
theorem putAll_ln {ρ' : Env} : ∀ {is : List Nat} {ds : List D} {ρ : Env}, putAll ρ is ds = some ρ' → ds.length = is.length := by
  intro is
  induction is with
  | nil => intro ds ρ e; cases ds with
    | nil => rfl
    | cons d ds => unfold putAll at e; cases e
  | cons i is ih => intro ds ρ e; cases ds with
    | nil => unfold putAll at e; cases e
    | cons d ds =>
      unfold putAll at e
      cases e1 : ρ.put i d with
      | none => rw [e1] at e; cases e
      | some ρ1 =>
        rw [e1] at e
        rw [List.length_cons, List.length_cons, ih (show putAll ρ1 is ds = some ρ' from e)]
/-- an item that is walked; zip's are tuples to be taken apart -/
def IRep (K : PySem.W.Frag) (ga : Str → Addr) (k : IK) (ms : List Addr) (Γ H : Hp) (d : D) (v : V) : Prop :=
  Rep K ga ms Γ d v ∨ (k = .zip ∧ ∃ ds a vs, d = .tup ds ∧ v = .ref a ∧ SqT K H a vs ∧ Reps K ga ms Γ ds vs)
theorem tg_use {t : Tg} {d : D} {v : V} {Q : L2.St → Hp → Prop} (le : Same Γ H) (R : ER K ga ms Γ H ρ σ) (r : Rep K ga ms Γ d v) (e : bindT ρ t d = some ρ')
    (q : ∀ σ', ER K ga ms Γ H ρ' σ' → (∀ us, (∀ i ∈ t.slots, i ∈ us) → L2.wipe σ' us = L2.wipe σ us) → Q σ' H) : gT K t v σ H Q := by
  cases t with
  | name i =>
    obtain ⟨_, rfl⟩ := put_some e
    exact q _ (R.put r) fun us hu => wipe_set _ _ _ (hu i (by simp [Tg.slots]))
  | tup is =>
    cases d with
    | tup ds =>
      unfold Rep at r
      obtain ⟨a, vs, rfl, h1, _, h3⟩ := r
      have hl : ds.length = is.length := by
        have : ∀ {is : List Nat} {ds : List D} {ρ : Env}, putAll ρ is ds = some ρ' → ds.length = is.length := by
          intro is
          induction is with
          | nil => intro ds ρ e; cases ds with
            | nil => rfl
            | cons d ds => unfold putAll at e; cases e
          | cons i is ih => intro ds ρ e; cases ds with
            | nil => unfold putAll at e; cases e
            | cons d ds =>
              unfold putAll at e
              cases e1 : ρ.put i d with
              | none => rw [e1] at e; cases e
              | some ρ1 =>
                rw [e1] at e
                rw [List.length_cons, List.length_cons, ih (show putAll ρ1 is ds = some ρ' from e)]
        exact this e
      exact ⟨a, vs, rfl, (h1.mono le).seq, by rw [← h3.length, hl], names_use R h3 e q⟩
    | _ => cases e
theorem tg_useI {k : IK} {t : Tg} {d : D} {v : V} {Q : L2.St → Hp → Prop} (hz : zipT k t = true) (le : Same Γ H) (R : ER K ga ms Γ H ρ σ) (r : IRep K ga k ms Γ H d v) (e : bindT ρ t d = some ρ')
    (q : ∀ σ', ER K ga ms Γ H ρ' σ' → (∀ us, (∀ i ∈ t.slots, i ∈ us) → L2.wipe σ' us = L2.wipe σ us) → Q σ' H) : gT K t v σ H Q := by
  rcases r with r | ⟨rfl, ds, a, vs, rfl, rfl, h1, h3⟩
  · exact tg_use le R r e q
  · cases t with
    | name i => exact absurd hz Bool.false_ne_true
    | tup is => exact ⟨a, vs, rfl, h1, by rw [← h3.length, putAll_ln e], names_use R h3 e q⟩
end
section
variable {X : Cx} {ga : Str → Addr} {G : GT} {N : List Str} {T : List (Str × Nat)} {sc : Scope}
theorem zip_tg {k : IK} {t : Tg} {tg : Expr} (hz : zipT k t = true) (h : tgC N sc t tg = true) : k = .zip → ∃ elts kk p, tg = .Tuple elts kk p := by
  intro e
  subst e
  cases t with
  | name i => exact absurd hz Bool.false_ne_true
  | tup is =>
    cases tg with
    | Tuple es k p => exact ⟨_, _, _, rfl⟩
    | _ => exact absurd h (by simp [tgC])
theorem assign_star : ∀ {is : List Nat} {es : List Expr} (env : PySem.Env), tgsC N sc is es = true → (assignEach es env).length = is.length ∧ (assignEach es env).findIdx? (·.1) = none
  | [], [], _, _ => ⟨rfl, rfl⟩
  | [], _ :: _, _, h => by simp [tgsC] at h
  | _ :: _, [], _, h => by simp [tgsC] at h
  | i :: is, e :: es, env, h => by
    cases e with
    | Name x p =>
      obtain ⟨_, _, h3⟩ := and3 (show (decide (N[i]? = some x) && locC sc x && tgsC N sc is es) = true from h)
      obtain ⟨k1, k2⟩ := assign_star env h3
      refine ⟨?_, ?_⟩
      · show (assignEach es env).length + 1 = is.length + 1
        rw [k1]
      · show List.findIdx? (·.1) ((false, assign (.Name x p) env) :: assignEach es env) = none
        rw [List.findIdx?_cons, k2]
        rfl
    | _ => simp [tgsC] at h
theorem pgs_names (C : GC X ga G N T sc) : ∀ {is : List Nat} {es : List Expr}, tgsC N sc is es = true → PGs X es (gNames is)
  | [], [], _ => pgs_nil
  | [], _ :: _, h => by simp [tgsC] at h
  | _ :: _, [], h => by simp [tgsC] at h
  | i :: is, e :: es, h => by
    cases e with
    | Name x p =>
      obtain ⟨h1, h2, h3⟩ := and3 (show (decide (N[i]? = some x) && locC sc x && tgsC N sc is es) = true from h)
      obtain ⟨l1, l2⟩ := C.loc x h2
      exact pgs_cons (pg_name (i := i) (by rw [C.hN]; exact C.nd) (by rw [C.hN]; exact of_decide_eq_true h1) l1 l2) (pgs_names C h3) rfl
    | _ => simp [tgsC] at h
theorem pg_ok (C : GC X ga G N T sc) {t : Tg} {e : Expr} (h : tgC N sc t e = true) : PG X e (gT X.K t) := by
  cases t with
  | name i =>
    cases e with
    | Name x p =>
      have h := Bool.and_eq_true_iff.mp (show (decide (N[i]? = some x) && locC sc x) = true from h)
      obtain ⟨l1, l2⟩ := C.loc x h.2
      exact pg_name (i := i) (by rw [C.hN]; exact C.nd) (by rw [C.hN]; exact of_decide_eq_true h.1) l1 l2
    | _ => exact absurd h (by simp [tgC])
  | tup is =>
    cases e with
    | Tuple es k p =>
      obtain ⟨k1, k2⟩ := assign_star X.env (show tgsC N sc is es = true from h)
      exact pg_tup C.calm (pgs_names C h) k1 k2
    | _ => exact absurd h (by simp [tgC])
end
/-! ### what is walked -/
/-- J walks the items vs, whatever stands beside Γ -/
def ItOk0 (J : It) (Γ : Hp) (vs : List V) : Prop := ∀ H, Same Γ H → (∀ i, i < vs.length → J.go i H) ∧ J.stop vs.length H ∧ ∀ i x H', J.yld i H x H' → i < vs.length → H' = H ∧ vs[i]? = some x
theorem itok_list {K : PySem.W.Frag} {Γ : Hp} {a : Addr} {vs : List V} (h : SqL K Γ a vs) : ItOk0 (Itl K a) Γ vs := fun H le =>
  ⟨fun i hi => ⟨vs, vs[i], le.seq h, List.getElem?_eq_getElem hi⟩, ⟨vs, le.seq h, Nat.le_refl _⟩, fun i x H' y _ => ⟨y.1, y.2 vs (le.seq h)⟩⟩
theorem itok_tup {K : PySem.W.Frag} {Γ : Hp} {a : Addr} {vs : List V} (h : TupOk K Γ a vs) : ItOk0 (Itt K a) Γ vs := fun H le =>
  ⟨fun i hi => ⟨vs, vs[i], (h.mono le).seq, List.getElem?_eq_getElem hi⟩, ⟨vs, (h.mono le).seq, Nat.le_refl _⟩, fun i x H' y _ => ⟨y.1, y.2 vs (h.mono le).seq⟩⟩
theorem itok_range {Γ : Hp} (lo : Int) (n : Nat) : ItOk0 (Itr lo n) Γ ((List.range n).map fun i : Nat => V.int (lo + (i : Nat))) := fun H le => by
  refine ⟨fun i hi => ?_, ?_, fun i x H' y hi => ⟨y.1, ?_⟩⟩
  · rw [List.length_map, List.length_range] at hi; exact hi
  · show n ≤ _
    rw [List.length_map, List.length_range]; exact Nat.le_refl _
  · rw [List.length_map, List.length_range] at hi
    rw [List.getElem?_map, List.getElem?_range hi, y.2]
    rfl
theorem itok_str {Γ : Hp} (z : Str) : ItOk0 (Its z) Γ (z.cps.toList.map fun c => V.str ⟨#[c]⟩) := fun H le => by
  refine ⟨fun i hi => ?_, ?_, fun i x H' y hi => ⟨y.1, ?_⟩⟩
  · rw [List.length_map] at hi
    show i < z.cps.size
    simpa using hi
  · show z.cps.size ≤ _
    rw [List.length_map]
    simp
  · obtain ⟨_, c, h1, rfl⟩ := y
    rw [List.getElem?_map]
    have e : z.cps.toList[i]? = some c := by simpa using h1
    rw [e]
    rfl
/-- J walks items that stand for xs, whatever stands beside (ms, Γ) -/
def ItOk (K : PySem.W.Frag) (ga : Str → Addr) (k : IK) (ms : List Addr) (Γ : Hp) (J : It) (xs : List D) : Prop := ∀ H ms2 Γ2 μ2, Same Γ Γ2 → ms <+: ms2 → SI K ga ms2 Γ2 μ2 H →
  (∀ i, i < xs.length → J.go i H) ∧ J.stop xs.length H ∧ ∀ i x H', J.yld i H x H' → i < xs.length → After K ga ms2 Γ2 H ms2 Γ2 μ2 H' ∧ ∃ d, xs[i]? = some d ∧ IRep K ga k ms2 Γ2 H' d x
theorem itok_of {K : PySem.W.Frag} {ga : Str → Addr} {k : IK} {ms : List Addr} {Γ : Hp} {J : It} {xs : List D} {vs : List V} (r : Reps K ga ms Γ xs vs) (h : ItOk0 J Γ vs) : ItOk K ga k ms Γ J xs := by
  intro H ms2 Γ2 μ2 le pre S
  obtain ⟨a, b, c⟩ := h H (le.trans S.sub)
  have hl := r.length
  refine ⟨fun i hi => a i (by rw [← hl]; exact hi), by rw [hl]; exact b, fun i x H' y hi => ?_⟩
  obtain ⟨rfl, hv⟩ := c i x H' y (by rw [← hl]; exact hi)
  have hx : xs[i]? = some xs[i] := List.getElem?_eq_getElem hi
  obtain ⟨w, hw, rw'⟩ := r.get hx
  rw [hv] at hw
  cases hw
  exact ⟨After.refl S, _, hx, .inl (rw'.mono le pre)⟩
theorem zip_get {xs ys : List D} {i : Nat} (h : i < (zipD xs ys).length) : ∃ x y, xs[i]? = some x ∧ ys[i]? = some y ∧ (zipD xs ys)[i]? = some (.tup [x, y]) := by
  unfold zipD at h ⊢
  rw [List.length_map, List.length_zip] at h
  have h1 : i < xs.length := by omega
  have h2 : i < ys.length := by omega
  refine ⟨xs[i], ys[i], List.getElem?_eq_getElem h1, List.getElem?_eq_getElem h2, ?_⟩
  rw [List.getElem?_map, List.getElem?_eq_getElem (by rw [List.length_zip]; omega)]
  simp
theorem itok_zipL {K : PySem.W.Frag} {ga : Str → Addr} {ms : List Addr} {Γ : Hp} {a b : Addr} {xs ys : List D} {vs us : List V} (h1 : SqL K Γ a vs) (h2 : SqL K Γ b us) (r1 : Reps K ga ms Γ xs vs) (r2 : Reps K ga ms Γ ys us) : ItOk K ga .zip ms Γ (Itz K a b) (zipD xs ys) := by
  intro H ms2 Γ2 μ2 le pre S
  have le2 : Same Γ H := le.trans S.sub
  refine ⟨fun i hi => ?_, ⟨vs, us, le2.seq h1, le2.seq h2, ?_⟩, fun i x H' y hi => ?_⟩
  · obtain ⟨x, y, e1, e2, _⟩ := zip_get hi
    obtain ⟨v, f1, _⟩ := r1.get e1
    obtain ⟨u, f2, _⟩ := r2.get e2
    exact ⟨vs, us, v, u, le2.seq h1, le2.seq h2, f1, f2⟩
  · unfold zipD
    rw [List.length_map, List.length_zip, ← r1.length, ← r2.length]
    omega
  · obtain ⟨p, v, u, rfl, hp, rfl, f1, f2⟩ := y
    obtain ⟨x, y, e1, e2, e3⟩ := zip_get hi
    obtain ⟨v', g1, g2⟩ := r1.get e1
    obtain ⟨u', g3, g4⟩ := r2.get e2
    have k1 := f1 vs (le2.seq h1)
    have k2 := f2 us (le2.seq h2)
    rw [g1] at k1
    rw [g3] at k2
    cases k1
    cases k2
    exact ⟨After.layOwn S hp, _, e3, .inr ⟨rfl, _, p, [_, _], rfl, rfl, .inl (.inl upd_same), Reps.cons (g2.mono le pre) (Reps.cons (g4.mono le pre) Reps.nil)⟩⟩
theorem itok_zipT {K : PySem.W.Frag} {ga : Str → Addr} {ms : List Addr} {Γ : Hp} {a b : Addr} {xs ys : List D} {vs us : List V} (h1 : TupOk K Γ a vs) (h2 : TupOk K Γ b us) (r1 : Reps K ga ms Γ xs vs) (r2 : Reps K ga ms Γ ys us) : ItOk K ga .zip ms Γ (RZ.ItzT K a b) (zipD xs ys) := by
  intro H ms2 Γ2 μ2 le pre S
  have le2 : Same Γ H := le.trans S.sub
  refine ⟨fun i hi => ?_, ⟨vs, us, (h1.mono le2).seq, (h2.mono le2).seq, ?_⟩, fun i x H' y hi => ?_⟩
  · obtain ⟨x, y, e1, e2, _⟩ := zip_get hi
    obtain ⟨v, f1, _⟩ := r1.get e1
    obtain ⟨u, f2, _⟩ := r2.get e2
    exact ⟨vs, us, v, u, (h1.mono le2).seq, (h2.mono le2).seq, f1, f2⟩
  · unfold zipD
    rw [List.length_map, List.length_zip, ← r1.length, ← r2.length]
    omega
  · obtain ⟨p, v, u, rfl, hp, rfl, f1, f2⟩ := y
    obtain ⟨x, y, e1, e2, e3⟩ := zip_get hi
    obtain ⟨v', g1, g2⟩ := r1.get e1
    obtain ⟨u', g3, g4⟩ := r2.get e2
    have k1 := f1 vs (h1.mono le2).seq
    have k2 := f2 us (h2.mono le2).seq
    rw [g1] at k1
    rw [g3] at k2
    cases k1
    cases k2
    exact ⟨After.layOwn S hp, _, e3, .inr ⟨rfl, _, p, [_, _], rfl, rfl, .inl (.inl upd_same), Reps.cons (g2.mono le pre) (Reps.cons (g4.mono le pre) Reps.nil)⟩⟩
def tI (X : Cx) (ga : Str → Addr) (G : GT) (W : WX) (k : IK) (its : Exs) : TI := fun σ H R => ∃ ms Γ μ ρ, SI X.K ga ms Γ μ H ∧ ER X.K ga ms Γ H ρ σ ∧
  match evs G its ρ μ with
  | .ok ds μ1 => (match iterD k ds with
    | some xs => ∀ J H' ms' Γ', After X.K ga ms Γ H ms' Γ' μ1 H' → xs.length ≤ sizeLine → ItOk X.K ga k ms' Γ' J xs → R J H'
    | none => False)
  | .exc c fs μ' => ∀ cls dd H' ms' Γ', After X.K ga ms Γ H ms' Γ' μ' H' → XRep X.K ga ms' Γ' H' c fs cls dd → W cls dd σ H'
  | .bad => False
section
variable {ga : Str → Addr} {G : GT} {N : List Str} {T : List (Str × Nat)}
theorem chars_rep {K : PySem.W.Frag} {ms : List Addr} {Γ : Hp} : ∀ cs : List Nat, Reps K ga ms Γ (cs.map fun c => D.str ⟨#[c]⟩) (cs.map fun c => V.str ⟨#[c]⟩)
  | [] => Reps.nil
  | c :: cs => Reps.cons (by unfold Rep; exact ⟨rfl, by show 1 ≤ sizeLine; rw [sizeLine_eq]; decide⟩) (chars_rep cs)
theorem ints_rep {K : PySem.W.Frag} {ms : List Addr} {Γ : Hp} (f : Nat → Int) : ∀ is : List Nat, Reps K ga ms Γ (is.map fun i => D.int (f i)) (is.map fun i => V.int (f i))
  | [] => Reps.nil
  | c :: cs => Reps.cons (by unfold Rep; rfl) (ints_rep f cs)
theorem set_fold {e : Expr} {env : PySem.Env} (h : notSet e = true) (x : Value) : foldedSetIterable e env x = pure x := by
  cases e <;> first | rfl | exact absurd h Bool.false_ne_true
/-- the value of an expression, walked -/
theorem pi_val {X : Cx} {tg : Expr} {W : WX} {e : Ex} {x : Expr} (h : PE X x (tE X ga G W e)) : PI X tg x (tI X ga G W .val (.cons e .nil)) := by
  refine ⟨fun pins s σ H R I ⟨ms, Γ, μ, ρ, S, Rr, q⟩ => ?_⟩
  have key : tE X ga G W e σ H fun v H1 => (∃ a vs, v = .ref a ∧ SqL X.K H1 a vs ∧ R (Itl X.K a) H1) ∨ (∃ a vs, v = .ref a ∧ SqT X.K H1 a vs ∧ R (Itt X.K a) H1) ∨ (∃ z, v = .str z ∧ R (Its z) H1) := by
    refine ⟨ms, Γ, μ, ρ, S, Rr, ?_⟩
    have q : (match (ev G e ρ μ).bind (fun d μ => (Out.ok [] μ : Out (List D)).bind fun ds μ => .ok (d :: ds) μ) with
      | .ok ds μ1 => (match iterD .val ds with
        | some xs => ∀ J H' ms' Γ', After X.K ga ms Γ H ms' Γ' μ1 H' → xs.length ≤ sizeLine → ItOk X.K ga .val ms' Γ' J xs → R J H'
        | none => False)
      | .exc c fs μ' => ∀ cls dd H' ms' Γ', After X.K ga ms Γ H ms' Γ' μ' H' → XRep X.K ga ms' Γ' H' c fs cls dd → W cls dd σ H'
      | .bad => False) := q
    cases e1 : ev G e ρ μ with
    | bad => rw [e1] at q; exact q
    | exc c fs μ1 => rw [e1] at q; exact q
    | ok d μ1 =>
      rw [e1] at q
      intro v H1 ms1 Γ1 A r
      have q : (match iterD .val [d] with
        | some xs => ∀ J H' ms' Γ', After X.K ga ms Γ H ms' Γ' μ1 H' → xs.length ≤ sizeLine → ItOk X.K ga .val ms' Γ' J xs → R J H'
        | none => False) := q
      cases d with
      | tup xs =>
        unfold Rep at r
        obtain ⟨a, vs, rfl, h1, h2, h3⟩ := r
        exact .inr (.inl ⟨a, vs, rfl, (h1.mono A.si.sub).seq, q _ _ _ _ A h2 (itok_of h3 (itok_tup h1))⟩)
      | lst xs =>
        unfold Rep at r
        obtain ⟨a, vs, rfl, h1, h2, h3⟩ := r
        exact .inl ⟨a, vs, rfl, SqL.of (A.si.sub _ _ h1), q _ _ _ _ A h2 (itok_of h3 (itok_list (SqL.of h1)))⟩
      | str z =>
        unfold Rep at r
        obtain ⟨rfl, hz⟩ := r
        exact .inr (.inr ⟨z, rfl, q _ _ _ _ A (by rw [List.length_map]; simpa [Str.length] using hz) (itok_of (chars_rep _) (itok_str z))⟩)
      | _ => exact False.elim q
  refine thn (h.run pins s σ H _ I key) fun v s1 ⟨y, H1, I1, r1, q1⟩ => ?_
  rcases q1 with ⟨a, vs, rfl, hq, q2⟩ | ⟨a, vs, rfl, hq, q2⟩ | ⟨z, rfl, q2⟩
  · cases r1
    obtain ⟨its, rv, p, hz⟩ := I1.list hq
    refine wpAny_pyIter_list p.isList ?_
    refine ⟨s1.heap.objs.size, [s1.heap.objs.size], _, _, H1, rfl, I1.kept (t' := s1.toks) fun b o e => Heap.get?_push_of_some _ e, turn_list a _, ⟨_, Heap.get?_push_size _ rfl, rfl, rfl⟩, fun b hb => ?_, q2⟩
    have e : b = s1.heap.objs.size := by simpa using hb
    subst e
    exact I1.fpOk (Nat.le_refl _) (I1.hok.fresh (Nat.le_refl _))
  · cases r1
    obtain ⟨its, rv, p, hz⟩ := I1.tuple hq
    refine wpAny_pyIter_tuple (show s1.heap.IsTuple a its.toArray from p) ?_
    refine ⟨s1.heap.objs.size, [s1.heap.objs.size], _, _, H1, rfl, I1.kept (t' := s1.toks) fun b o e => Heap.get?_push_of_some _ e, turn_tuple a _, ⟨_, Heap.get?_push_size _ rfl, rfl, rfl⟩, fun b hb => ?_, q2⟩
    have e : b = s1.heap.objs.size := by simpa using hb
    subst e
    exact I1.fpOk (Nat.le_refl _) (I1.hok.fresh (Nat.le_refl _))
  · obtain ⟨t, rfl⟩ := r1
    cases ha : z.cps.all (· < 128)
    · exact wpAny_pyIter_wide ha (pi_one (tk := s1.toks) I1 _ (turn_str _ z t "str_iterator" (.inr rfl)) ⟨_, Heap.get?_push_size _ rfl, rfl, rfl⟩ q2)
    · exact wpAny_pyIter_ascii ha (pi_one (tk := s1.toks) I1 _ (turn_str _ z t "str_ascii_iterator" (.inl rfl)) ⟨_, Heap.get?_push_size _ rfl, rfl, rfl⟩ q2)
theorem iter_rng1 {ds : List D} {xs : List D} (h : iterD .rng1 ds = some xs) : ∃ j : Int, ds = [.int j] ∧ -(2 ^ 62) ≤ j ∧ j < LINE ∧ xs = rangeL 0 j := by
  match ds, h with
  | [.int j], h =>
    have h : (if -(2 ^ 62) ≤ j ∧ j < LINE then some (rangeL 0 j) else none) = some xs := h
    split at h
    · rename_i hj
      cases h
      exact ⟨j, rfl, hj.1, hj.2, rfl⟩
    · cases h
theorem iter_rng2 {ds : List D} {xs : List D} (h : iterD .rng2 ds = some xs) : ∃ i j : Int, ds = [.int i, .int j] ∧ (-(2 ^ 62) ≤ i ∧ i < 2 ^ 62 ∧ -(2 ^ 62) ≤ j ∧ j < 2 ^ 62 ∧ j - i ≤ LINE) ∧ xs = rangeL i j := by
  match ds, h with
  | [.int i, .int j], h =>
    have h : (if -(2 ^ 62) ≤ i ∧ i < 2 ^ 62 ∧ -(2 ^ 62) ≤ j ∧ j < 2 ^ 62 ∧ j - i ≤ LINE then some (rangeL i j) else none) = some xs := h
    split at h
    · rename_i hj
      cases h
      exact ⟨i, j, rfl, hj, rfl⟩
    · cases h
theorem iter_zip {ds : List D} {zs : List D} (h : iterD .zip ds = some zs) : ∃ xs ys, zs = zipD xs ys ∧ ((ds = [.tup xs, .tup ys]) ∨ (ds = [.lst xs, .lst ys])) := by
  match ds, h with
  | [.tup xs, .tup ys], h => cases h; exact ⟨xs, ys, rfl, .inl rfl⟩
  | [.lst xs, .lst ys], h => cases h; exact ⟨xs, ys, rfl, .inr rfl⟩
theorem pi_ok {k : IK} {its : Exs} (hs : SA ga G N T its) (hv : ∀ e, its = .cons e .nil → SE ga G N T e) {X : Cx} {sc : Scope} {tg x : Expr} {W : WX} (C : GC X ga G N T sc) (tk : Takes X W) (h : itC N T sc k its x = true) (hzt : k = .zip → ∃ elts kk p, tg = .Tuple elts kk p) : PI X tg x (tI X ga G W k its) := by
  cases k with
  | val =>
    cases its with
    | nil => simp [itC] at h
    | cons e es =>
      cases es with
      | nil =>
        have h := Bool.and_eq_true_iff.mp (show (chk N T sc e x && notSet x) = true from h)
        exact pi_val (hv e rfl X sc x W C tk h.1)
      | cons _ _ => simp [itC] at h
  | rng1 =>
    cases x with
    | Call g xs kws pos =>
      cases g with
      | Name y py =>
        match its, xs, kws, h with
        | .cons a .nil, [z], [], h =>
          have h : (decide (y = ("range" : Str)) && glC sc y && chk N T sc a z && notStar z) = true := h
          simp only [Bool.and_eq_true] at h
          obtain ⟨⟨⟨h1, h2⟩, h3⟩, h4⟩ := h
          have e := of_decide_eq_true h1
          subst e
          have hc : chks N T sc (.cons a .nil) [z] = true := by
            show (chk N T sc a z && notStar z && true) = true
            rw [h3, h4]; rfl
          refine (pi_range1 (C.gl _ h2) (C.blt _ (by decide +kernel)) (hs X sc [z] W C tk hc) (star_cons z [] X.env h4)).mono fun σ H R ⟨ms, Γ, μ, ρ, S, Rr, q⟩ => ?_
          refine ⟨ms, Γ, μ, ρ, S, Rr, ?_⟩
          cases e1 : evs G (.cons a .nil) ρ μ with
          | bad => rw [e1] at q; exact q
          | exc c fs μ1 => rw [e1] at q; exact q
          | ok ds μ1 =>
            rw [e1] at q
            intro vs H1 ms1 Γ1 A r
            have q : (match iterD .rng1 ds with
              | some xs => ∀ J H' ms' Γ', After X.K ga ms Γ H ms' Γ' μ1 H' → xs.length ≤ sizeLine → ItOk X.K ga .rng1 ms' Γ' J xs → R J H'
              | none => False) := q
            split at q
            · rename_i xs e2
              obtain ⟨j, rfl, j1, j2, rfl⟩ := iter_rng1 e2
              obtain ⟨v, rfl, r1⟩ := reps1 r
              unfold Rep at r1
              subst r1
              have hL : (LINE : Int) = 16777216 := rfl
              refine ⟨j, rfl, j1, by omega, q _ _ _ _ A ?_ (itok_of (ints_rep (fun i => 0 + (i : Nat)) _) ?_)⟩
              · unfold rangeL; rw [List.length_map, List.length_range, sizeLine_eq]; omega
              · have e0 : (j - 0).toNat = j.toNat := by rw [Int.sub_zero]
                rw [e0]
                exact itok_range 0 j.toNat
            · exact False.elim q
        | .nil, _, _, h => simp [itC] at h
        | .cons _ (.cons _ _), _, _, h => simp [itC] at h
        | .cons _ .nil, [], _, h => simp [itC] at h
        | .cons _ .nil, _ :: _ :: _, _, h => simp [itC] at h
        | .cons _ .nil, [_], _ :: _, h => simp [itC] at h
      | _ => cases its with
        | nil => simp [itC] at h
        | cons e es => cases es <;> simp [itC] at h
    | _ => cases its with
      | nil => simp [itC] at h
      | cons e es => cases es <;> simp [itC] at h
  | rng2 =>
    cases x with
    | Call g xs kws pos =>
      cases g with
      | Name y py =>
        match its, xs, kws, h with
        | .cons a (.cons b .nil), [z, w], [], h =>
          have h : (decide (y = ("range" : Str)) && glC sc y && chk N T sc a z && notStar z && chk N T sc b w && notStar w) = true := h
          simp only [Bool.and_eq_true] at h
          obtain ⟨⟨⟨⟨⟨h1, h2⟩, h3⟩, h4⟩, h5⟩, h6⟩ := h
          have e := of_decide_eq_true h1
          subst e
          have hc : chks N T sc (.cons a (.cons b .nil)) [z, w] = true := by
            show (chk N T sc a z && notStar z && (chk N T sc b w && notStar w && true)) = true
            rw [h3, h4, h5, h6]; rfl
          refine (pi_range2 (C.gl _ h2) (C.blt _ (by decide +kernel)) (hs X sc [z, w] W C tk hc) (by rw [star_cons z [w] X.env h4, star_cons w [] X.env h6]; rfl) (star_cons w [] X.env h6)).mono fun σ H R ⟨ms, Γ, μ, ρ, S, Rr, q⟩ => ?_
          refine ⟨ms, Γ, μ, ρ, S, Rr, ?_⟩
          cases e1 : evs G (.cons a (.cons b .nil)) ρ μ with
          | bad => rw [e1] at q; exact q
          | exc c fs μ1 => rw [e1] at q; exact q
          | ok ds μ1 =>
            rw [e1] at q
            intro vs H1 ms1 Γ1 A r
            have q : (match iterD .rng2 ds with
              | some xs => ∀ J H' ms' Γ', After X.K ga ms Γ H ms' Γ' μ1 H' → xs.length ≤ sizeLine → ItOk X.K ga .rng2 ms' Γ' J xs → R J H'
              | none => False) := q
            split at q
            · rename_i xs e2
              obtain ⟨i, j, rfl, hj, rfl⟩ := iter_rng2 e2
              obtain ⟨v, u, rfl, r1, r2⟩ := reps2 r
              unfold Rep at r1 r2
              subst r1 r2
              obtain ⟨j1, j2, j3, j4, j5⟩ := hj
              have hL : (LINE : Int) = 16777216 := rfl
              refine ⟨i, j, rfl, ⟨j1, j2, j3, j4⟩, q _ _ _ _ A ?_ (itok_of (ints_rep (fun n => i + (n : Nat)) _) (itok_range i _))⟩
              unfold rangeL
              rw [List.length_map, List.length_range, sizeLine_eq]; omega
            · exact False.elim q
        | .nil, _, _, h => simp [itC] at h
        | .cons _ .nil, _, _, h => simp [itC] at h
        | .cons _ (.cons _ (.cons _ _)), _, _, h => simp [itC] at h
        | .cons _ (.cons _ .nil), [], _, h => simp [itC] at h
        | .cons _ (.cons _ .nil), [_], _, h => simp [itC] at h
        | .cons _ (.cons _ .nil), _ :: _ :: _ :: _, _, h => simp [itC] at h
        | .cons _ (.cons _ .nil), [_, _], _ :: _, h => simp [itC] at h
      | _ => cases its with
        | nil => simp [itC] at h
        | cons e es => cases es with
          | nil => simp [itC] at h
          | cons e2 es2 => cases es2 <;> simp [itC] at h
    | _ => cases its with
      | nil => simp [itC] at h
      | cons e es => cases es with
        | nil => simp [itC] at h
        | cons e2 es2 => cases es2 <;> simp [itC] at h
  | zip =>
    obtain ⟨elts, kk, tp, rfl⟩ := hzt rfl
    cases x with
    | Call g xs kws pos =>
      cases g with
      | Name y py =>
        match its, xs, kws, h with
        | .cons a (.cons b .nil), [z, w], [], h =>
          have h : (decide (y = ("zip" : Str)) && glC sc y && chk N T sc a z && notStar z && chk N T sc b w && notStar w) = true := h
          simp only [Bool.and_eq_true] at h
          obtain ⟨⟨⟨⟨⟨h1, h2⟩, h3⟩, h4⟩, h5⟩, h6⟩ := h
          have e := of_decide_eq_true h1
          subst e
          have hc : chks N T sc (.cons a (.cons b .nil)) [z, w] = true := by
            show (chk N T sc a z && notStar z && (chk N T sc b w && notStar w && true)) = true
            rw [h3, h4, h5, h6]; rfl
          have st2 := star_cons w [] X.env h6
          refine (RZ.pi_zipA (C.gl _ h2) (C.blt _ (by decide +kernel)) (hs X sc [z, w] W C tk hc) (star_cons z [w] X.env h4) (by rw [st2]; exact plain_any rfl)).mono fun σ H R ⟨ms, Γ, μ, ρ, S, Rr, q⟩ => ?_
          refine ⟨ms, Γ, μ, ρ, S, Rr, ?_⟩
          cases e1 : evs G (.cons a (.cons b .nil)) ρ μ with
          | bad => rw [e1] at q; exact q
          | exc c fs μ1 => rw [e1] at q; exact q
          | ok ds μ1 =>
            rw [e1] at q
            intro vs H1 ms1 Γ1 A r
            have q : (match iterD .zip ds with
              | some xs => ∀ J H' ms' Γ', After X.K ga ms Γ H ms' Γ' μ1 H' → xs.length ≤ sizeLine → ItOk X.K ga .zip ms' Γ' J xs → R J H'
              | none => False) := q
            split at q
            · rename_i zs e2
              obtain ⟨xs, ys, rfl, e3⟩ := iter_zip e2
              have len : ∀ n, xs.length ≤ n → (zipD xs ys).length ≤ n := fun n hn => by
                unfold zipD
                rw [List.length_map, List.length_zip]
                omega
              rcases e3 with rfl | rfl
              · obtain ⟨v, u, rfl, r1, r2⟩ := reps2 r
                unfold Rep at r1 r2
                obtain ⟨a1, vs1, rfl, g1, g2, g3⟩ := r1
                obtain ⟨a2, vs2, rfl, k1, k2, k3⟩ := r2
                exact ⟨a1, a2, vs1, vs2, rfl, .inr ⟨(g1.mono A.si.sub).seq, (k1.mono A.si.sub).seq, q _ _ _ _ A (len _ g2) (itok_zipT g1 k1 g3 k3)⟩⟩
              · obtain ⟨v, u, rfl, r1, r2⟩ := reps2 r
                unfold Rep at r1 r2
                obtain ⟨a1, vs1, rfl, g1, g2, g3⟩ := r1
                obtain ⟨a2, vs2, rfl, k1, k2, k3⟩ := r2
                exact ⟨a1, a2, vs1, vs2, rfl, .inl ⟨SqL.of (A.si.sub _ _ g1), SqL.of (A.si.sub _ _ k1), q _ _ _ _ A (len _ g2) (itok_zipL (SqL.of g1) (SqL.of k1) g3 k3)⟩⟩
            · exact False.elim q
        | .nil, _, _, h => simp [itC] at h
        | .cons _ .nil, _, _, h => simp [itC] at h
        | .cons _ (.cons _ (.cons _ _)), _, _, h => simp [itC] at h
        | .cons _ (.cons _ .nil), [], _, h => simp [itC] at h
        | .cons _ (.cons _ .nil), [_], _, h => simp [itC] at h
        | .cons _ (.cons _ .nil), _ :: _ :: _ :: _, _, h => simp [itC] at h
        | .cons _ (.cons _ .nil), [_, _], _ :: _, h => simp [itC] at h
      | _ => cases its with
        | nil => simp [itC] at h
        | cons e es => cases es with
          | nil => simp [itC] at h
          | cons e2 es2 => cases es2 <;> simp [itC] at h
    | _ => cases its with
      | nil => simp [itC] at h
      | cons e es => cases es with
        | nil => simp [itC] at h
        | cons e2 es2 => cases es2 <;> simp [itC] at h
/-- what is walked is no set -/
theorem it_fold {sc : Scope} {k : IK} {its : Exs} {it : Expr} {env : PySem.Env} (h3 : itC N T sc k its it = true) : ∀ v, foldedSetIterable it env v = pure v := fun v => by
  cases k with
  | val => cases its with
    | nil => simp [itC] at h3
    | cons a as => cases as with
      | nil => exact set_fold (Bool.and_eq_true_iff.mp (show (chk N T sc a it && notSet it) = true from h3)).2 v
      | cons _ _ => simp [itC] at h3
  | rng1 => cases it with
    | Call _ _ _ _ => rfl
    | _ => cases its with
      | nil => simp [itC] at h3
      | cons a as => cases as <;> simp [itC] at h3
  | rng2 => cases it with
    | Call _ _ _ _ => rfl
    | _ => cases its with
      | nil => simp [itC] at h3
      | cons a as => cases as with
        | nil => simp [itC] at h3
        | cons b bs => cases bs <;> simp [itC] at h3
  | zip => cases it with
    | Call _ _ _ _ => rfl
    | _ => cases its with
      | nil => simp [itC] at h3
      | cons a as => cases as with
        | nil => simp [itC] at h3
        | cons b bs => cases bs <;> simp [itC] at h3
end
/-! ### comprehensions -/
section
variable {ga : Str → Addr} {G : GT} {N : List Str} {T : List (Str × Nat)}
theorem own_snd {is : List Nat} (h : (is.all fun i => (N[i]?).isSome) = true) : (ownNames N is).map (·.2) = is := by
  induction is with
  | nil => rfl
  | cons i is ih =>
    have h := Bool.and_eq_true_iff.mp (show ((N[i]?).isSome && is.all fun i => (N[i]?).isSome) = true from h)
    obtain ⟨x, e⟩ := Option.isSome_iff_exists.mp h.1
    unfold ownNames at ih ⊢
    rw [List.filterMap_cons, e]
    show i :: _ = i :: is
    rw [ih h.2]
theorem own_ix {is : List Nat} : ∀ p ∈ ownNames N is, N[p.2]? = some p.1 := fun p hp => by
  unfold ownNames at hp
  obtain ⟨i, hi, e⟩ := List.mem_filterMap.mp hp
  obtain ⟨x, e1, rfl⟩ := map_some e
  exact e1
theorem blk_ok {X : Cx} {sc scope : Scope} {is : List Nat} (C : GC X ga G N T sc) (h : blkOkC N sc scope is = true) : BlkOk X.N X.env.scope scope (ownNames N is) ∧ (ownNames N is).map (·.2) = is ∧ scope.kind = .function := by
  unfold blkOkC at h
  simp only [Bool.and_eq_true] at h
  obtain ⟨⟨⟨h1, h2⟩, h3⟩, h4⟩ := h
  have h1 := of_decide_eq_true h1
  refine ⟨⟨h1, fun y hy => of_decide_eq_true (List.all_eq_true.mp h2 y hy), fun p hp => by rw [C.hN]; exact own_ix p hp, fun y hy e => ?_, fun y hy e => ?_⟩, own_snd h3, h1⟩
  · have q := List.all_eq_true.mp h4 y hy
    simp only [e] at q
    exact C.cf _ q
  · have q := List.all_eq_true.mp h4 y hy
    rw [C.hN]
    rcases e with e | e
    · simp only [e, Bool.or_eq_true] at q
      rcases q with q | q
      · exact .inl (of_decide_eq_true q)
      · exact .inr (of_decide_eq_true q)
    · simp only [e, Bool.or_eq_true] at q
      rcases q with q | q
      · exact .inl (of_decide_eq_true q)
      · exact .inr (of_decide_eq_true q)
theorem gc_blk {X : Cx} {sc scope : Scope} (C : GC X ga G N T sc) (hk : scope.kind = .function) (s : Shared) (H : Hp) (Ca : Addr) (cl : List (Str × Addr)) (fp : List Addr) : GC (X.blk s H scope (compEnvC scope cl Ca X.env) fp) ga G N T scope := by
  have keep : ∀ x k, k ≠ .free → scope.names.lookup x = some k → (compEnvC scope cl Ca X.env).scope.names.lookup x = some k := fun x k hk e => lookup_relS_keep (sc := X.env.scope) hk e
  have free : ∀ x, scope.names.lookup x = some .free → (compEnvC scope cl Ca X.env).scope.names.lookup x = some .cell ∨ (compEnvC scope cl Ca X.env).scope.names.lookup x = some .free := by
    intro x e
    cases q : (compEnvC scope cl Ca X.env).scope.names.lookup x with
    | none =>
      exfalso
      have : ∀ {names : List (Str × NameKind)}, names.lookup x = some .free → (names.map fun (n, k) => if (k == NameKind.free && X.env.scope.kind == .function && X.env.scope.names.lookup n == some .cell) then (n, NameKind.cell) else (n, k)).lookup x ≠ none := by
        intro names
        induction names with
        | nil => intro e; simp at e
        | cons p r ih =>
          obtain ⟨n, k⟩ := p
          intro e
          rw [List.lookup_cons] at e
          rw [List.map_cons]
          cases hx : x == n with
          | true =>
            show List.lookup x ((if _ then (n, NameKind.cell) else (n, k)) :: _) ≠ none
            split <;> (rw [List.lookup_cons, hx]; simp)
          | false =>
            rw [hx] at e
            show List.lookup x ((if _ then (n, NameKind.cell) else (n, k)) :: _) ≠ none
            split <;> (rw [List.lookup_cons, hx]; exact ih e)
      exact this e q
    | some k =>
      obtain ⟨k', e1, e2⟩ := lookup_relS (sc := X.env.scope) (names := scope.names) q
      rw [e] at e1
      cases e1
      rcases e2 with rfl | ⟨_, rfl⟩
      · exact .inr rfl
      · exact .inl rfl
  refine ⟨C.hN, C.nd, hk, fun x h => ?_, fun x h => ?_, fun x h => ?_, fun x h => ?_, C.calm, C.hu, C.blt, C.con, fun f n h hn => ⟨(C.fn f n h hn).ex⟩, C.xc⟩
  · unfold visC at h
    split at h
    · rename_i e; exact .inl (keep x _ (by decide) e)
    · rename_i e; exact .inr (.inl (keep x _ (by decide) e))
    · rename_i e
      rcases free x e with q | q
      · exact .inr (.inl q)
      · exact .inr (.inr q)
    · cases h
  · unfold locC at h
    split at h
    · rename_i e; exact ⟨.inl (keep x _ (by decide) e), .inr (keep x _ (by decide) e)⟩
    · rename_i e
      refine ⟨.inr (keep x _ (by decide) e), .inl ?_⟩
      show (scope.names.lookup x == some .cell) = true
      rw [e]; rfl
    · cases h
  · unfold cfC at h
    split at h
    · rename_i e; exact .inl (keep x _ (by decide) e)
    · rename_i e; exact free x e
    · cases h
  · unfold glC at h
    split at h
    · rename_i e; exact keep x _ (by decide) e
    · cases h
theorem After.putOwn {K : PySem.W.Frag} {ms ms1 : List Addr} {Γ Γ1 H H1 : Hp} {μ1 : Store} (A : After K ga ms Γ H ms1 Γ1 μ1 H1) {p : Addr} {o : HO} (h0 : H p = none) (hΓ : Γ1 p = none) (hm : p ∉ ms1) : After K ga ms Γ H ms1 Γ1 μ1 (upd H1 p o) := by
  have S := A.si
  refine ⟨⟨fun a u e => by rw [upd_ne (ne_of_none e hΓ)]; exact S.sub _ _ e, S.len, fun l so a e1 e2 => ?_, S.fr, fun a ha => ?_, S.nd⟩, A.le, A.pre, fun a u e hn => by rw [upd_ne (ne_of_none e h0)]; exact A.keep a u e hn, A.newm, A.newg⟩
  · have z := S.st l so a e1 e2
    have na : a ≠ p := fun e => hm (e ▸ List.mem_of_getElem? e2)
    cases so with
    | lst xs =>
      obtain ⟨vs, z1, z2, z3⟩ := z
      exact ⟨vs, by rw [upd_ne na]; exact z1, z2, z3⟩
    | ins c fs => exact z
    | dead => exact z
  · obtain ⟨u, e⟩ := S.there a ha
    exact ⟨u, by rw [upd_ne (fun e : a = p => hm (e ▸ ha))]; exact e⟩
/-! ### dict displays -/
def pairV : List V → List (V × V)
  | k :: v :: r => (k, v) :: pairV r
  | _ => []
def trsOf (X : Cx) (ga : Str → Addr) (G : GT) (W : WX) : Exs → List (TE × TE)
  | .cons k (.cons v es) => (tE X ga G W k, tE X ga G W v) :: trsOf X ga G W es
  | _ => []
theorem pps_of {X : Cx} {sc : Scope} {W : WX} (C : GC X ga G N T sc) (tk : Takes X W) {pos : Pos} : ∀ {es : Exs} {ks : List (Option Expr)} {vs : List Expr}, SAll ga G N T es → chkD N T sc es ks vs = true → PPs X pos ks vs (trsOf X ga G W es)
  | .nil, [], [], _, _ => pps_nil
  | .nil, _ :: _, _, _, h => by simp [chkD] at h
  | .nil, [], _ :: _, _, h => by simp [chkD] at h
  | .cons _ .nil, _, _, _, h => by simp [chkD] at h
  | .cons k (.cons v es), some x :: ks, y :: vs, hs, h => by
    obtain ⟨h1, h2, h3⟩ := and3 (show (chk N T sc k x && chk N T sc v y && chkD N T sc es ks vs) = true from h)
    exact pps_cons (hs.1 X sc x W C tk h1) (hs.2.1 X sc y W C tk h2) (pps_of C tk hs.2.2 h3)
  | .cons k (.cons v es), none :: _, _, _, h => by simp [chkD] at h
  | .cons k (.cons v es), [], _, _, h => by simp [chkD] at h
  | .cons k (.cons v es), some _ :: _, [], _, h => by simp [chkD] at h
theorem pairs_run {X : Cx} {sc : Scope} {W : WX} {σ : L2.St} {ρ : Env} : ∀ {es : Exs} {ks : List (Option Expr)} {vs : List Expr} {ms : List Addr} {Γ : Hp} {μ : Store} {H : Hp} {Q : List (V × V) → Hp → Prop}, chkD N T sc es ks vs = true → SI X.K ga ms Γ μ H → ER X.K ga ms Γ H ρ σ →
    POs X ga ms Γ H (evs G es ρ μ) σ W (fun us H' => Q (pairV us) H') → tPairs (trsOf X ga G W es) σ H Q
  | .nil, _, _, ms, Γ, μ, H, Q, _, S, R, q => q [] H ms Γ (After.refl S) Reps.nil
  | .cons _ .nil, ks, vs, _, _, _, _, _, h, _, _, _ => by cases ks <;> simp [chkD] at h
  | .cons k (.cons v es), some x :: ks, y :: vs, ms, Γ, μ, H, Q, h, S, R, q => by
    obtain ⟨h1, h2, h3⟩ := and3 (show (chk N T sc k x && chk N T sc v y && chkD N T sc es ks vs) = true from h)
    refine stepS (f := fun d μ => (evs G (.cons v es) ρ μ).bind fun ds μ => .ok (d :: ds) μ) S R q fun d μ1 v1 H1 ms1 Γ1 A r R1 q1 => ?_
    refine stepS (f := fun d2 μ => ((evs G es ρ μ).bind fun ds μ => (Out.ok (d2 :: ds) μ : Out (List D))).bind fun ds μ => .ok (d :: ds) μ) A.si R1 (by
      have q1 : POs X ga ms1 Γ1 H1 (((ev G v ρ μ1).bind fun d2 μ => (evs G es ρ μ).bind fun ds μ => (Out.ok (d2 :: ds) μ : Out (List D))).bind fun ds μ => .ok (d :: ds) μ) σ W _ := q1
      rw [Out.bind_assoc] at q1
      exact q1) fun d2 μ2 v2 H2 ms2 Γ2 A2 r2 R2 q2 => ?_
    refine pairs_run h3 A2.si R2 ?_
    cases e : evs G es ρ μ2 with
    | bad => rw [e] at q2; exact q2
    | exc c fs μ3 => rw [e] at q2; exact q2
    | ok ds μ3 =>
      rw [e] at q2
      exact fun us H3 ms3 Γ3 A3 r3 => q2 (v1 :: v2 :: us) H3 ms3 Γ3 A3 (Reps.cons ((r.mono A2.le A2.pre).mono A3.le A3.pre) (Reps.cons (r2.mono A3.le A3.pre) r3))
  | .cons k (.cons v es), none :: _, _, _, _, _, _, _, h, _, _, _ => by simp [chkD] at h
  | .cons k (.cons v es), [], _, _, _, _, _, _, h, _, _, _ => by simp [chkD] at h
  | .cons k (.cons v es), some _ :: _, [], _, _, _, _, _, h, _, _, _ => by simp [chkD] at h
theorem key_rep {K : PySem.W.Frag} {ms : List Addr} {Γ : Hp} {d : D} {v : V} {q : Key} (r : Rep K ga ms Γ d v) (h : keyD d = some q) : v = kV q := by
  cases d with
  | int i => cases h; unfold Rep at r; exact r
  | str s => cases h; unfold Rep at r; exact r.1
  | _ => cases h
theorem pair_rep {K : PySem.W.Frag} {ms : List Addr} {Γ : Hp} : ∀ {ds : List D} {us : List V} {kvs : List (D × D)}, Reps K ga ms Γ ds us → pairD ds = some kvs → kvs.all (fun p => (keyD p.1).isSome) = true →
    ∃ ks : List (Key × V), pairV us = ks.map (fun kv => (kV kv.1, kv.2)) ∧ RepKV K ga ms Γ kvs ks ∧ ks.map (fun p => some p.1) = kvs.map (fun p => keyD p.1)
  | [], us, kvs, r, h, _ => by
    cases h
    rw [r.nil_iff]
    exact ⟨[], rfl, by unfold RepKV; rfl, rfl⟩
  | [_], _, _, _, h, _ => by cases h
  | k :: v :: ds, us, kvs, r, h, ha => by
    obtain ⟨kvs', e, rfl⟩ := map_some (show (pairD ds).map ((k, v) :: ·) = some kvs from h)
    obtain ⟨u1, r1, rfl, g1, r⟩ := r.cons_iff
    obtain ⟨u2, r2, rfl, g2, r⟩ := r.cons_iff
    have ha := Bool.and_eq_true_iff.mp (show ((keyD k).isSome && kvs'.all fun p => (keyD p.1).isSome) = true from ha)
    obtain ⟨q, hq⟩ := Option.isSome_iff_exists.mp ha.1
    obtain ⟨ks, e1, e2, e3⟩ := pair_rep r e ha.2
    refine ⟨(q, u2) :: ks, ?_, ?_, ?_⟩
    · show (u1, u2) :: pairV r2 = _
      rw [e1, key_rep g1 hq]
      rfl
    · unfold RepKV
      exact ⟨q, u2, ks, rfl, hq, g2, e2⟩
    · show some q :: _ = keyD k :: _
      rw [hq, e3]
theorem merge_nodup : ∀ {more kvs : List (Key × V)}, ((kvs ++ more).map fun p => p.1).Nodup → mergeK kvs more = kvs ++ more
  | [], kvs, _ => by rw [List.append_nil]; rfl
  | p :: more, kvs, h => by
    show mergeK (putK kvs p.1 p.2) more = _
    have hn : (kvs.any fun kv => decide (kv.1 = p.1)) = false := by
      rw [List.any_eq_false]
      intro kv hkv
      simp only [decide_eq_true_eq]
      intro e
      rw [List.map_append, List.nodup_append] at h
      exact h.2.2 kv.1 (List.mem_map.mpr ⟨kv, hkv, rfl⟩) p.1 (List.mem_map.mpr ⟨p, List.mem_cons_self .., rfl⟩) e
    have e : putK kvs p.1 p.2 = kvs ++ [p] := by
      unfold putK
      rw [hn, if_neg Bool.false_ne_true]
    rw [e, merge_nodup (by rw [List.append_assoc]; exact h), List.append_assoc]
    rfl
theorem se_dict {es : Exs} (hs : SAll ga G N T es) : SE ga G N T (.dict es) := by
  intro X sc x W C tk h
  cases x with
  | Dict ks vs pos =>
    have h : (chkD N T sc es ks vs && decide (ks.length ≤ 15) && decide (ks.length = vs.length) && ks.all (·.isSome)) = true := h
    simp only [Bool.and_eq_true] at h
    obtain ⟨⟨⟨h1, h2⟩, h3⟩, h4⟩ := h
    cases ks with
    | nil =>
      cases vs with
      | cons _ _ => simp at h3
      | nil =>
        cases es with
        | cons k r => cases r <;> simp [chkD] at h1
        | nil =>
          refine pe_dnewK.mono fun σ H Q ⟨ms, Γ, μ, ρ, S, R, q⟩ => fun p hp => ?_
          have q : LD.PO X ga ms Γ H (.ok (.dct []) μ) σ W Q := q
          have A := After.lay (o := HO.dK []) S hp
          refine q _ _ _ _ A ?_
          unfold Rep
          exact ⟨p, [], rfl, upd_same, by unfold RepKV; rfl⟩
    | cons k0 kr =>
      refine (pe_disp (pps_of C tk hs h1) h4 (of_decide_eq_true h3) (List.cons_ne_nil _ _) (of_decide_eq_true h2)).mono fun σ H Q ⟨ms, Γ, μ, ρ, S, R, q⟩ => fun p hp => ?_
      have hpm : p ∉ ms := fun hm => by
        obtain ⟨u, e⟩ := S.there p hm
        rw [hp] at e; cases e
      have hΓ : Γ p = none := by
        cases e : Γ p with
        | none => rfl
        | some u => rw [S.sub _ _ e] at hp; cases hp
      have A0 := After.layOwn (o := HO.dK []) S hp
      have q : LD.PO X ga ms Γ H ((evs G es ρ μ).bind fun ds μ => match dictD ds with
        | some kvs => .ok (.dct kvs) μ
        | none => .bad) σ W Q := q
      refine pairs_run h1 A0.si (R.mono A0) ?_
      cases e : evs G es ρ μ with
      | bad => rw [e] at q; exact q
      | exc c fs μ1 =>
        rw [e] at q
        exact fun cls dd H' ms' Γ' A r => q cls dd H' ms' Γ' (A0.trans A) r
      | ok ds μ1 =>
        rw [e] at q
        intro us H' ms' Γ' A r
        have q : LD.PO X ga ms Γ H (match dictD ds with
          | some kvs => .ok (.dct kvs) μ1
          | none => .bad) σ W Q := q
        cases e2 : dictD ds with
        | none => rw [e2] at q; exact q.elim
        | some kvs =>
          rw [e2] at q
          unfold dictD at e2
          cases e3 : pairD ds with
          | none => rw [e3] at e2; cases e2
          | some kvs' =>
            rw [e3] at e2
            have e2 : (if keysOk kvs' = true then some kvs' else none) = some kvs := e2
            split at e2
            · rename_i hk
              cases e2
              unfold keysOk at hk
              simp only [Bool.and_eq_true] at hk
              obtain ⟨⟨k1, k2⟩, k3⟩ := hk
              have k1 := of_decide_eq_true k1
              have k3 := of_decide_eq_true k3
              obtain ⟨kv, g1, g2, g3⟩ := pair_rep r e3 k2
              have nd : (kv.map fun p => p.1).Nodup := by
                rw [← g3] at k3
                have : (kv.map fun p => (some p.1 : Option Key)) = (kv.map fun p => p.1).map some := by rw [List.map_map]; rfl
                rw [this] at k3
                exact (List.pairwise_map.mp (show List.Pairwise (· ≠ ·) _ from k3)).imp fun h e => h (congrArg some e)
              have hl : kv.length ≤ 15 := by
                have := congrArg List.length g3
                rw [List.length_map, List.length_map] at this
                omega
              have p1 := A.keep p (.dK []) upd_same hpm
              have p2 : Γ' p = none := by
                cases z : Γ' p with
                | none => rfl
                | some u =>
                  rcases A.newg _ _ z with z1 | z1
                  · rw [hΓ] at z1; cases z1
                  · rw [upd_same] at z1; cases z1
              have p3 : p ∉ ms' := fun hm => by
                rcases A.newm _ hm with z1 | z1
                · exact hpm z1
                · rw [upd_same] at z1; cases z1
              refine ⟨p1, kv, g1, hl, ?_⟩
              rw [merge_nodup (kvs := []) nd, List.nil_append]
              have B := After.putOwn (o := HO.dK kv) (A0.trans A) hp p2 p3
              have D2 : After X.K ga ms Γ H ms' (upd Γ' p (.dK kv)) μ1 (upd H' p (.dK kv)) := ⟨B.si.share upd_same p2 p3, fun a u z => by rw [upd_ne (ne_of_none (B.le _ _ z) p2)]; exact B.le _ _ z, B.pre, B.keep, B.newm, fun a u z => by
                by_cases w : a = p
                · subst w; exact .inr hp
                · rw [upd_ne w] at z; exact B.newg _ _ z⟩
              refine q _ _ _ _ D2 ?_
              unfold Rep
              exact ⟨p, kv, rfl, upd_same, RepKV.mono (fun a u z => by rw [upd_ne (ne_of_none z p2)]; exact z) List.prefix_rfl _ _ g2⟩
            · cases e2
  | _ => exact absurd h (by simp [chk])
/-- the outcome is a new list that nobody shares -/
def PF (X : Cx) (ga : Str → Addr) (ms : List Addr) (Γ : Hp) (H : Hp) (o : Out D) (σ : L2.St) (W : WX) (Q : VK) : Prop := match o with
  | .ok d μ' => (match d with
    | .lst xs => ∀ p vs H' ms' Γ', After X.K ga ms Γ H ms' Γ' μ' H' → H' p = some (.lst vs) → Γ' p = none → p ∉ ms' → H p = none → xs.length ≤ sizeLine → Reps X.K ga ms' Γ' xs vs → Q (.ref p) H'
    | _ => False)
  | .exc c fs μ' => ∀ cls dd H' ms' Γ', After X.K ga ms Γ H ms' Γ' μ' H' → XRep X.K ga ms' Γ' H' c fs cls dd → W cls dd σ H'
  | .bad => False
theorem PF.shift {X : Cx} {ms ms1 : List Addr} {Γ Γ1 H H1 : Hp} {μ1 : Store} {o : Out D} {σ : L2.St} {W : WX} {Q : VK} (q : PF X ga ms Γ H o σ W Q) (A : After X.K ga ms Γ H ms1 Γ1 μ1 H1) : PF X ga ms1 Γ1 H1 o σ W Q := by
  cases o with
  | ok d μ' =>
    cases d with
    | lst xs => exact fun p vs H' ms' Γ' B h1 h2 h3 h4 h5 h6 => q p vs H' ms' Γ' (A.trans B) h1 h2 h3 (A.none_back h4 fun hm => h3 ((A.pre.trans B.pre).subset hm)) h5 h6
    | _ => exact q
  | exc c fs μ' => exact fun cls dd H' ms' Γ' B r => q cls dd H' ms' Γ' (A.trans B) r
  | bad => exact q
theorem PF.of {X : Cx} {ms : List Addr} {Γ H : Hp} {o : Out D} {σ : L2.St} {W : WX} {Q : VK} (hl : ∀ d μ, o = .ok d μ → ∃ xs, d = .lst xs) (q : PO X ga ms Γ H o σ W Q) : PF X ga ms Γ H o σ W Q := by
  cases o with
  | ok d μ' =>
    obtain ⟨xs, rfl⟩ := hl d μ' rfl
    intro p vs H' ms' Γ' A h1 h2 h3 h4 h5 h6
    have B : After X.K ga ms Γ H ms' (upd Γ' p (.lst vs)) μ' H' := ⟨A.si.share h1 h2 h3, fun a u e => by rw [upd_ne (ne_of_none (A.le _ _ e) h2)]; exact A.le _ _ e, A.pre, A.keep, A.newm, fun a u e => by
      by_cases q : a = p
      · subst q; exact .inr h4
      · rw [upd_ne q] at e; exact A.newg _ _ e⟩
    refine q _ _ _ _ B ?_
    unfold Rep
    exact ⟨p, vs, rfl, upd_same, h5, h6.mono (fun a u e => by rw [upd_ne (ne_of_none e h2)]; exact e) List.prefix_rfl⟩
  | exc c fs μ' => exact q
  | bad => exact q
/-- a comprehension by its turn -/
theorem lc_main {X : Cx} {t : Tg} {k : IK} {its : Exs} {W : WX} {f : D → Store → Out (Option D)} {tt : TT} {te : TE} {ms : List Addr} {Γ : Hp} {μ : Store} {ρ : Env} {σ : L2.St} {H : Hp} {Q : VK} (S : SI X.K ga ms Γ μ H) (R : ER X.K ga ms Γ H ρ σ)
    (turn : ∀ (x : D) (v : V) (r : Option D) (ms2 : List Addr) (Γ2 : Hp) (μ2 μ3 : Store) (H2 : Hp), SI X.K ga ms2 Γ2 μ2 H2 → ER X.K ga ms2 Γ2 H2 (wipeE ρ t.slots) (wipe σ t.slots) → IRep X.K ga k ms2 Γ2 H2 x v → f x μ2 = .ok r μ3 →
      (∀ (P : Option V → Hp → Prop), (∀ (w : Option V) (H' : Hp) (ms' : List Addr) (Γ' : Hp), After X.K ga ms2 Γ2 H2 ms' Γ' μ3 H' → (match r, w with | some d, some v => Rep X.K ga ms' Γ' d v | none, none => True | _, _ => False) → P w H') →
        gT X.K t v (wipe σ t.slots) H2 fun σ2 H2 => wipe σ2 t.slots = wipe σ t.slots ∧ tt σ2 H2 fun b H3 => if b = true then te σ2 H3 fun y H4 => P (some y) H4 else P none H3))
    (q : PF X ga ms Γ H ((evs G its ρ μ).bind fun ds μ => match iterD k ds with
      | some xs => (compLoop f xs [] μ).bind fun ys μ => .ok (.lst ys) μ
      | none => .bad) σ W Q) : tLc (tI X ga G W k its) (gT X.K t) tt te t.slots σ H Q := by
  refine ⟨ms, Γ, μ, ρ, S, R, ?_⟩
  cases e1 : evs G its ρ μ with
  | bad => rw [e1] at q; exact q
  | exc c fs μ1 => rw [e1] at q; exact q
  | ok ds μ1 =>
    rw [e1] at q
    have q : PF X ga ms Γ H (match iterD k ds with
      | some xs => (compLoop f xs [] μ1).bind fun ys μ => .ok (.lst ys) μ
      | none => .bad) σ W Q := q
    show match iterD k ds with
      | some xs => _
      | none => False
    cases e2 : iterD k ds with
    | none => rw [e2] at q; exact q
    | some xs =>
      rw [e2] at q
      have q : PF X ga ms Γ H ((compLoop f xs [] μ1).bind fun ys μ => .ok (.lst ys) μ) σ W Q := q
      intro J H1 ms1 Γ1 A hz ok D0 hD
      have q := PF.shift q A
      have S1 := A.si
      cases e3 : compLoop f xs [] μ1 with
      | bad => rw [e3] at q; exact q.elim
      | exc c fs μ' =>
        exfalso
        have : ∀ (xs acc : List D) (μ : Store), compLoop f xs acc μ ≠ .exc c fs μ' := by
          intro xs
          induction xs with
          | nil => intro acc μ e; cases e
          | cons x xs ih =>
            intro acc μ e
            unfold compLoop at e
            split at e
            · exact ih _ _ e
            · exact ih _ _ e
            · cases e
        exact this _ _ _ e3
      | ok ys μe =>
        rw [e3] at q
        have hD1 : Γ1 D0 = none := by
          cases e : Γ1 D0 with
          | none => rfl
          | some u => rw [S1.sub _ _ e] at hD; cases hD
        have hDm : D0 ∉ ms1 := fun hm => by
          obtain ⟨u, e⟩ := S1.there D0 hm
          rw [hD] at e; cases e
        refine ⟨fun i m H2 => m = xs.length - i ∧ i ≤ xs.length ∧ ∃ ms2 Γ2 μ2 acc vacc, After X.K ga ms1 Γ1 H1 ms2 Γ2 μ2 H2 ∧ H2 D0 = some (.lst vacc) ∧ Γ2 D0 = none ∧ D0 ∉ ms2 ∧ Reps X.K ga ms2 Γ2 acc vacc ∧ acc.length ≤ i ∧ compLoop f (xs.drop i) acc μ2 = .ok ys μe,
          ⟨_, rfl, Nat.zero_le _, ms1, Γ1, μ1, [], [], After.layOwn S1 hD, upd_same, hD1, hDm, Reps.nil, Nat.le_refl _, by rw [List.drop_zero]; exact e3⟩, ?_⟩
        rintro i m H2 ⟨hm, hi, ms2, Γ2, μ2, acc, vacc, A2, g1, g2, g3, g4, g5, g6⟩
        obtain ⟨ok1, ok2, ok3⟩ := ok H2 ms2 Γ2 μ2 A2.le A2.pre A2.si
        rcases Nat.lt_or_ge i xs.length with hi' | hi'
        · right
          refine ⟨ok1 i hi', fun H' => ∃ m', m' < m ∧ (m' = xs.length - (i + 1) ∧ i + 1 ≤ xs.length ∧ ∃ ms2 Γ2 μ2 acc vacc, After X.K ga ms1 Γ1 H1 ms2 Γ2 μ2 H' ∧ H' D0 = some (.lst vacc) ∧ Γ2 D0 = none ∧ D0 ∉ ms2 ∧ Reps X.K ga ms2 Γ2 acc vacc ∧ acc.length ≤ i + 1 ∧ compLoop f (xs.drop (i + 1)) acc μ2 = .ok ys μe), fun H' h => h, fun w H' hy => ?_⟩
          obtain ⟨A', dx, hx', rw'⟩ := ok3 i w H' hy hi'
          have hx : xs[i]? = some xs[i] := List.getElem?_eq_getElem hi'
          rw [hx] at hx'
          cases hx'
          have A2 := A2.trans A'
          have g1 := A'.keep _ _ g1 g3
          have dr : xs.drop i = xs[i] :: xs.drop (i + 1) := by rw [List.drop_eq_getElem_cons hi']
          rw [dr] at g6
          unfold compLoop at g6
          have Rw : ER X.K ga ms2 Γ2 H' (wipeE ρ t.slots) (wipe σ t.slots) := ((R.mono A).mono A2).wipe t.slots
          cases e4 : f xs[i] μ2 with
          | bad => rw [e4] at g6; cases g6
          | exc c fs μ' => rw [e4] at g6; cases g6
          | ok ro μ3 =>
            rw [e4] at g6
            refine turn xs[i] w ro ms2 Γ2 μ2 μ3 H' A2.si Rw rw' e4
              (fun y H4 => match y with
                | some y => ∃ acc, H4 D0 = some (.lst acc) ∧ acc.length < sizeLine ∧ ∃ m', m' < m ∧ (m' = xs.length - (i + 1) ∧ i + 1 ≤ xs.length ∧ ∃ ms2 Γ2 μ2 acc' vacc, After X.K ga ms1 Γ1 H1 ms2 Γ2 μ2 (upd H4 D0 (.lst (acc ++ [y]))) ∧ (upd H4 D0 (.lst (acc ++ [y]))) D0 = some (.lst vacc) ∧ Γ2 D0 = none ∧ D0 ∉ ms2 ∧ Reps X.K ga ms2 Γ2 acc' vacc ∧ acc'.length ≤ i + 1 ∧ compLoop f (xs.drop (i + 1)) acc' μ2 = .ok ys μe)
                | none => ∃ m', m' < m ∧ (m' = xs.length - (i + 1) ∧ i + 1 ≤ xs.length ∧ ∃ ms2 Γ2 μ2 acc vacc, After X.K ga ms1 Γ1 H1 ms2 Γ2 μ2 H4 ∧ H4 D0 = some (.lst vacc) ∧ Γ2 D0 = none ∧ D0 ∉ ms2 ∧ Reps X.K ga ms2 Γ2 acc vacc ∧ acc.length ≤ i + 1 ∧ compLoop f (xs.drop (i + 1)) acc μ2 = .ok ys μe)) ?_
            intro wo H4 ms4 Γ4 A4 hro
            have k1 := A4.keep _ _ g1 g3
            have k2 : Γ4 D0 = none := by
              cases e : Γ4 D0 with
              | none => rfl
              | some u =>
                rcases A4.newg _ _ e with q1 | q1
                · rw [g2] at q1; cases q1
                · rw [g1] at q1; cases q1
            have k3 : D0 ∉ ms4 := fun hm4 => by
              rcases A4.newm _ hm4 with q1 | q1
              · exact g3 q1
              · rw [g1] at q1; cases q1
            have A14 := A2.trans A4
            cases ro with
            | none =>
              cases wo with
              | some _ => exact hro.elim
              | none => exact ⟨_, by omega, rfl, by omega, ms4, Γ4, μ3, acc, vacc, A14, k1, k2, k3, g4.mono A4.le A4.pre, by omega, g6⟩
            | some d =>
              cases wo with
              | none => exact hro.elim
              | some y =>
                have hro : Rep X.K ga ms4 Γ4 d y := hro
                refine ⟨vacc, k1, ?_, _, by omega, rfl, by omega, ms4, Γ4, μ3, acc ++ [d], vacc ++ [y], A14.putOwn hD k2 k3, upd_same, k2, k3, (g4.mono A4.le A4.pre).append (Reps.cons hro Reps.nil), ?_, g6⟩
                · rw [← g4.length]; omega
                · rw [List.length_append]; exact Nat.add_le_add_right g5 1
        · left
          have e : i = xs.length := Nat.le_antisymm hi hi'
          subst e
          refine ⟨ok2, ?_⟩
          rw [List.drop_length] at g6
          cases g6
          exact q D0 vacc H2 ms2 Γ2 A2 g1 g2 g3 hD (Nat.le_trans g5 hz) g4
theorem bind_ok_inv {α β : Type} {o : Out α} {f : α → Store → Out β} {b : β} {μ : Store} (h : o.bind f = .ok b μ) : ∃ a μ1, o = .ok a μ1 ∧ f a μ1 = .ok b μ := by
  cases o with
  | ok a μ1 => exact ⟨a, μ1, rfl, h⟩
  | exc c fs μ1 => cases h
  | bad => cases h
abbrev W0 : WX := fun _ _ _ _ => False
theorem slots_refl (t : Tg) (σ : L2.St) : wipe (wipe σ t.slots) t.slots = wipe σ t.slots := wipe_wipe σ t.slots t.slots fun _ h => h
/-- the reading of an expression that makes a new list -/
def tF (X : Cx) (ga : Str → Addr) (G : GT) (W : WX) (e : Ex) : TE := fun σ H Q => ∃ ms Γ μ ρ, SI X.K ga ms Γ μ H ∧ ER X.K ga ms Γ H ρ σ ∧ PF X ga ms Γ H (ev G e ρ μ) σ W Q
/-- .. as a value, and given to a name on its own line -/
def SFL (ga : Str → Addr) (G : GT) (N : List Str) (T : List (Str × Nat)) (e : Ex) : Prop := ∀ (X : Cx) (sc : Scope) (x : Expr) (W : WX), GC X ga G N T sc → Takes X W → chk N T sc e x = true → PE X x (tF X ga G W e) ∧
  ∀ (i : Nat) (y : Str) (py spos : Pos), N[i]? = some y → X.env.scope.names.lookup y = some .local → swapsWith x (some (.Name y py)) spos.line X.env = pure true → PS X (.Assign [.Name y py] x spos) (tAsg (tF X ga G W e) (gName i))
/-- what an expression yields is a list -/
def ListOnly (G : GT) (e : Ex) : Prop := ∀ ρ μ d μ', ev G e ρ μ = .ok d μ' → ∃ xs, d = .lst xs
theorem tF_of {X : Cx} {W : WX} {e : Ex} (hl : ListOnly G e) {σ : L2.St} {H : Hp} {Q : VK} (h : tE X ga G W e σ H Q) : tF X ga G W e σ H Q := by
  obtain ⟨ms, Γ, μ, ρ, S, R, q⟩ := h
  exact ⟨ms, Γ, μ, ρ, S, R, PF.of (fun d μ' e1 => hl ρ μ d μ' e1) q⟩
theorem se_of_sfl {e : Ex} (h : SFL ga G N T e) (hl : ListOnly G e) : SE ga G N T e := fun X sc x W C tk hc => (h X sc x W C tk hc).1.mono fun σ H Q q => tF_of hl q
theorem lo_comp0 (elt : Ex) (t : Tg) (k : IK) (its : Exs) : ListOnly G (.comp elt t k its none) := fun ρ μ d μ' e => by
  obtain ⟨ds, μ1, _, e2⟩ := bind_ok_inv (show (evs G its ρ μ).bind _ = .ok d μ' from e)
  split at e2
  · obtain ⟨ys, μ2, _, e3⟩ := bind_ok_inv e2
    cases e3
    exact ⟨ys, rfl⟩
  · cases e2
theorem lo_comp1 (elt c : Ex) (t : Tg) (k : IK) (its : Exs) : ListOnly G (.comp elt t k its (some c)) := fun ρ μ d μ' e => by
  obtain ⟨ds, μ1, _, e2⟩ := bind_ok_inv (show (evs G its ρ μ).bind _ = .ok d μ' from e)
  split at e2
  · obtain ⟨ys, μ2, _, e3⟩ := bind_ok_inv e2
    cases e3
    exact ⟨ys, rfl⟩
  · cases e2
theorem sf_comp0 {elt : Ex} {t : Tg} {k : IK} {its : Exs} (he : SE ga G N T elt) (hs : SA ga G N T its) (hv : ∀ e, its = .cons e .nil → SE ga G N T e) : SFL ga G N T (.comp elt t k its none) := by
  intro X sc x W C tk h
  cases x with
  | ListComp e gs scope pos =>
    match gs, h with
    | [⟨tg, it, [], as⟩], h =>
      have h : (zipT k t && decide (as = 0) && chk N T scope elt e && tgC N scope t tg && itC N T sc k its it && blkOkC N sc scope t.slots) = true := h
      simp only [Bool.and_eq_true] at h
      obtain ⟨⟨⟨⟨⟨hzt, h0⟩, h1⟩, h2⟩, h3⟩, h4⟩ := h
      have e0 := of_decide_eq_true h0
      subst e0
      obtain ⟨b1, b2, b3⟩ := blk_ok C h4
      have hf0 : ∀ v, foldedSetIterable it X.env v = pure v := it_fold h3
      have hp := pe_lc (elt := e) (ifs := []) (pos := pos) (tt := tYes) (te := tE X ga G W0 elt) (g := gT X.K t) C.calm (by rw [C.hN]; exact C.nd) (pi_ok (tg := tg) hs hv C tk h3 (zip_tg hzt h2)) b1
        (fun s H Ca cl fp => pg_ok (gc_blk C b3 s H Ca cl fp) h2) (fun _ _ _ _ _ => pts_nil) (fun s H Ca cl fp => he _ scope e W0 (gc_blk C b3 s H Ca cl fp) takes0 h1)
        hf0
      have hp2 := fun (i : Nat) (y : Str) (py spos : Pos) (g1 : X.N[i]? = some y) (g2 : X.env.scope.names.lookup y = some .local) (g3 : swapsWith (.ListComp e [⟨tg, it, [], 0⟩] scope pos) (some (.Name y py)) spos.line X.env = pure true) => ps_setLc (i := i) (y := y) (py := py) (spos := spos) (elt := e) (ifs := []) (pos := pos) (tt := tYes) (te := tE X ga G W0 elt) (g := gT X.K t) C.calm (by rw [C.hN]; exact C.nd) g1 g2 g3 (pi_ok (tg := tg) hs hv C tk h3 (zip_tg hzt h2)) b1
        (fun s H Ca cl fp => pg_ok (gc_blk C b3 s H Ca cl fp) h2) (fun _ _ _ _ _ => pts_nil) (fun s H Ca cl fp => he _ scope e W0 (gc_blk C b3 s H Ca cl fp) takes0 h1)
        hf0
      rw [b2] at hp
      rw [b2] at hp2
      have key : ∀ σ H Q, tF X ga G W (.comp elt t k its none) σ H Q → tLc (tI X ga G W k its) (gT X.K t) tYes (tE X ga G W0 elt) t.slots σ H Q := by
       rintro σ H Q ⟨ms, Γ, μ, ρ, S, R, q⟩
       refine lc_main (f := fun x μ => match bindT (wipeE ρ t.slots) t x with
         | some ρ' => (ev G elt ρ' μ).bind fun y μ => .ok (some y) μ
         | none => .bad) S R ?_ q
       intro x v r ms2 Γ2 μ2 μ3 H2 S2 R2 rx hf P hP
       split at hf
       · rename_i ρ' e1
         obtain ⟨y, μ4, e2, e3⟩ := bind_ok_inv hf
         cases e3
         refine tg_useI hzt S2.sub R2 rx e1 fun σ' R' hw => ⟨by rw [hw t.slots fun _ h => h, slots_refl], ?_⟩
         unfold tYes
         dsimp only
         rw [if_pos rfl]
         refine ⟨ms2, Γ2, μ2, ρ', S2, R', ?_⟩
         rw [e2]
         exact fun w H4 ms4 Γ4 A4 r4 => hP (some w) H4 ms4 Γ4 A4 r4
       · cases hf
      exact ⟨hp.mono key, fun i y py spos g1 g2 g3 => ⟨fun pins s σ H D I hw => (hp2 i y py spos (by rw [C.hN]; exact g1) g2 g3).run pins s σ H D I (key σ H _ hw)⟩⟩
    | [], h => simp [chk] at h
    | [⟨_, _, _ :: _, _⟩], h => simp [chk] at h
    | _ :: _ :: _, h => simp [chk] at h
  | _ => exact absurd h (by simp [chk])
theorem sf_comp1 {elt c : Ex} {t : Tg} {k : IK} {its : Exs} (he : SE ga G N T elt) (hc : ST ga G N T c) (hs : SA ga G N T its) (hv : ∀ e, its = .cons e .nil → SE ga G N T e) : SFL ga G N T (.comp elt t k its (some c)) := by
  intro X sc x W C tk h
  cases x with
  | ListComp e gs scope pos =>
    match gs, h with
    | [⟨tg, it, [cc], as⟩], h =>
      have h : (zipT k t && decide (as = 0) && chk N T scope elt e && chk N T scope c cc && tgC N scope t tg && itC N T sc k its it && blkOkC N sc scope t.slots) = true := h
      simp only [Bool.and_eq_true] at h
      obtain ⟨⟨⟨⟨⟨⟨hzt, h0⟩, h1⟩, h1'⟩, h2⟩, h3⟩, h4⟩ := h
      have e0 := of_decide_eq_true h0
      subst e0
      obtain ⟨b1, b2, b3⟩ := blk_ok C h4
      have hf0 : ∀ v, foldedSetIterable it X.env v = pure v := it_fold h3
      have hp := pe_lc (elt := e) (ifs := [cc]) (pos := pos) (tt := tT X ga G W0 c) (te := tE X ga G W0 elt) (g := gT X.K t) C.calm (by rw [C.hN]; exact C.nd) (pi_ok (tg := tg) hs hv C tk h3 (zip_tg hzt h2)) b1
        (fun s H Ca cl fp => pg_ok (gc_blk C b3 s H Ca cl fp) h2) (fun s H Ca cl fp => pts_one (hc _ scope cc W0 (gc_blk C b3 s H Ca cl fp) takes0 h1')) (fun s H Ca cl fp => he _ scope e W0 (gc_blk C b3 s H Ca cl fp) takes0 h1)
        hf0
      have hp2 := fun (i : Nat) (y : Str) (py spos : Pos) (g1 : X.N[i]? = some y) (g2 : X.env.scope.names.lookup y = some .local) (g3 : swapsWith (.ListComp e [⟨tg, it, [cc], 0⟩] scope pos) (some (.Name y py)) spos.line X.env = pure true) => ps_setLc (i := i) (y := y) (py := py) (spos := spos) (elt := e) (ifs := [cc]) (pos := pos) (tt := tT X ga G W0 c) (te := tE X ga G W0 elt) (g := gT X.K t) C.calm (by rw [C.hN]; exact C.nd) g1 g2 g3 (pi_ok (tg := tg) hs hv C tk h3 (zip_tg hzt h2)) b1
        (fun s H Ca cl fp => pg_ok (gc_blk C b3 s H Ca cl fp) h2) (fun s H Ca cl fp => pts_one (hc _ scope cc W0 (gc_blk C b3 s H Ca cl fp) takes0 h1')) (fun s H Ca cl fp => he _ scope e W0 (gc_blk C b3 s H Ca cl fp) takes0 h1)
        hf0
      rw [b2] at hp
      rw [b2] at hp2
      have key : ∀ σ H Q, tF X ga G W (.comp elt t k its (some c)) σ H Q → tLc (tI X ga G W k its) (gT X.K t) (tT X ga G W0 c) (tE X ga G W0 elt) t.slots σ H Q := by
       rintro σ H Q ⟨ms, Γ, μ, ρ, S, R, q⟩
       refine lc_main (f := fun x μ => match bindT (wipeE ρ t.slots) t x with
         | some ρ' => (testOf (ev G c ρ' μ)).bind fun b μ => if b then (ev G elt ρ' μ).bind fun y μ => .ok (some y) μ else .ok none μ
         | none => .bad) S R ?_ q
       intro x v r ms2 Γ2 μ2 μ3 H2 S2 R2 rx hf P hP
       split at hf
       · rename_i ρ' e1
         obtain ⟨b, μ4, e2, e3⟩ := bind_ok_inv hf
         refine tg_useI hzt S2.sub R2 rx e1 fun σ' R' hw => ⟨by rw [hw t.slots fun _ h => h, slots_refl], ?_⟩
         refine ⟨ms2, Γ2, μ2, ρ', S2, R', ?_⟩
         rw [e2]
         intro H3 ms3 Γ3 A3
         cases b with
         | true =>
           rw [if_pos rfl] at e3 ⊢
           obtain ⟨y, μ5, e4, e5⟩ := bind_ok_inv e3
           cases e5
           refine ⟨ms3, Γ3, μ4, ρ', A3.si, R'.mono A3, ?_⟩
           rw [e4]
           exact fun w H4 ms4 Γ4 A4 r4 => hP (some w) H4 ms4 Γ4 (A3.trans A4) r4
         | false =>
           rw [if_neg Bool.false_ne_true] at e3 ⊢
           cases e3
           exact hP none H3 ms3 Γ3 A3 trivial
       · cases hf
      exact ⟨hp.mono key, fun i y py spos g1 g2 g3 => ⟨fun pins s σ H D I hw => (hp2 i y py spos (by rw [C.hN]; exact g1) g2 g3).run pins s σ H D I (key σ H _ hw)⟩⟩
    | [], h => simp [chk] at h
    | [⟨_, _, [], _⟩], h => simp [chk] at h
    | [⟨_, _, _ :: _ :: _, _⟩], h => simp [chk] at h
    | _ :: _ :: _, h => simp [chk] at h
  | _ => exact absurd h (by simp [chk])
/-- a test where no rule of its own is wanted: the value's truth -/
theorem st_of {e : Ex} (h : SE ga G N T e) (he : ∀ (sc : Scope) (x : Expr), chk N T sc e x = true → ∀ env whole, isTrue x env whole = (do let v ← whole; standAt x.pos; holding [v] (PySem.truthy v))) : ST ga G N T e := fun X sc x W C tk hc => pt_of (h X sc x W C tk hc) (he sc x hc X.env)
/-- forms whose test is the value's truth -/
def plainT : Expr → Bool
  | .BoolOp _ _ _ => false
  | .UnaryOp .Not _ _ => false
  | .IfExp _ _ _ _ => false
  | .Compare _ _ _ _ => false
  | _ => true
theorem plainT_ok {x : Expr} (h : plainT x = true) (env : PySem.Env) (whole : Sem Value) : isTrue x env whole = (do let v ← whole; standAt x.pos; holding [v] (PySem.truthy v)) := by
  cases x with
  | BoolOp _ _ _ => exact absurd h Bool.false_ne_true
  | UnaryOp o _ _ => cases o <;> first | rfl | exact absurd h Bool.false_ne_true
  | IfExp _ _ _ _ => exact absurd h Bool.false_ne_true
  | Compare _ _ _ _ => exact absurd h Bool.false_ne_true
  | _ => rfl
theorem sw_no {e : Ex} (h : ∀ sc op xs p, chk N T sc e (.BoolOp op xs p) = false) : SW ga G N T e := fun X sc op xs p W C tk hc => by rw [h] at hc; cases hc
mutual
theorem sound : ∀ e : Ex, SE ga G N T e ∧ ST ga G N T e ∧ SW ga G N T e
  | .con d => ⟨se_con d, st_of (se_con d) (fun sc x h env whole => plainT_ok (by cases x <;> first | rfl | (cases d <;> exact absurd h (by simp [chk, conC]))) env whole), sw_no fun _ _ _ _ => by cases d <;> rfl⟩
  | .var i => ⟨se_var i, st_of (se_var i) (fun sc x h env whole => plainT_ok (by cases x <;> first | rfl | exact absurd h (by simp [chk])) env whole), sw_no fun _ _ _ _ => rfl⟩
  | .glob y => ⟨se_glob y, st_of (se_glob y) (fun sc x h env whole => plainT_ok (by cases x <;> first | rfl | exact absurd h (by simp [chk])) env whole), sw_no fun _ _ _ _ => rfl⟩
  | .bin op a b => have k := se_bin op (sound a).1 (sound b).1; ⟨k, st_of k (fun sc x h env whole => plainT_ok (by cases x <;> first | rfl | exact absurd h (by simp [chk])) env whole), sw_no fun _ _ _ _ => rfl⟩
  | .neg a => have k := se_neg (sound a).1; ⟨k, st_of k (fun sc x h env whole => plainT_ok (by
      cases x with
      | UnaryOp o p q => cases o <;> first | rfl | exact absurd h (by simp [chk])
      | _ => first | rfl | exact absurd h (by simp [chk])) env whole), sw_no fun _ _ _ _ => rfl⟩
  | .cmp op a b => ⟨(se_cmp op (sound a).1 (sound b).1).1, (se_cmp op (sound a).1 (sound b).1).2, sw_no fun _ _ _ _ => rfl⟩
  | .chain op op' a b c => ⟨(se_chain op op' (sound a).1 (sound b).1 (sound c).1).1, (se_chain op op' (sound a).1 (sound b).1 (sound c).1).2, sw_no fun _ _ _ _ => rfl⟩
  | .and_ a b => have k := sw_and (sound a).2.1 (sound b).2.1 (sound b).2.2; ⟨se_and (sound a).1 (sound b).1, fun X sc x W C tk h => by
      cases x with
      | BoolOp op xs p => exact (k X sc op xs p W C tk h).pt
      | _ => exact absurd h (by simp [chk]), k⟩
  | .or_ a b => have k := sw_or (sound a).2.1 (sound b).2.1 (sound b).2.2; ⟨se_or (sound a).1 (sound b).1, fun X sc x W C tk h => by
      cases x with
      | BoolOp op xs p => exact (k X sc op xs p W C tk h).pt
      | _ => exact absurd h (by simp [chk]), k⟩
  | .not_ a => ⟨(se_not (sound a).1 (sound a).2.1).1, (se_not (sound a).1 (sound a).2.1).2, sw_no fun _ _ _ _ => rfl⟩
  | .ite c a b => ⟨(se_ite (sound c).2.1 (sound a).1 (sound b).1 (sound a).2.1 (sound b).2.1).1, (se_ite (sound c).2.1 (sound a).1 (sound b).1 (sound a).2.1 (sound b).2.1).2, sw_no fun _ _ _ _ => rfl⟩
  | .tup es => have k := se_tup (sounds es).1; ⟨k, st_of k (fun sc x h env whole => plainT_ok (by cases x <;> first | rfl | exact absurd h (by simp [chk])) env whole), sw_no fun _ _ _ _ => rfl⟩
  | .lst es => have k := se_lst (sounds es).1; ⟨k, st_of k (fun sc x h env whole => plainT_ok (by cases x <;> first | rfl | exact absurd h (by simp [chk])) env whole), sw_no fun _ _ _ _ => rfl⟩
  | .newl es => have k := se_newl (sounds es).1; ⟨k, st_of k (fun sc x h env whole => plainT_ok (by cases x <;> first | rfl | exact absurd h (by simp [chk])) env whole), sw_no fun _ _ _ _ => rfl⟩
  | .idx a b => have k := se_idx (sound a).1 (sound b).1; ⟨k, st_of k (fun sc x h env whole => plainT_ok (by cases x <;> first | rfl | exact absurd h (by simp [chk])) env whole), sw_no fun _ _ _ _ => rfl⟩
  | .slice k a es => have z := se_slice k (sound a).1 (sounds es).2; ⟨z, st_of z (fun sc x h env whole => plainT_ok (by cases x <;> first | rfl | exact absurd h (by simp [chk])) env whole), sw_no fun _ _ _ _ => rfl⟩
  | .dict es => have z := se_dict (sounds es).2; ⟨z, st_of z (fun sc x h env whole => plainT_ok (by cases x <;> first | rfl | exact absurd h (by simp [chk])) env whole), sw_no fun _ _ _ _ => rfl⟩
  | .rev a => have k := se_rev (sound a).1; ⟨k, st_of k (fun sc x h env whole => plainT_ok (by cases x <;> first | rfl | exact absurd h (by simp [chk])) env whole), sw_no fun _ _ _ _ => rfl⟩
  | .popl o a => have k := se_popl (sound o).1 (sound a).1; ⟨k, st_of k (fun sc x h env whole => plainT_ok (by cases x <;> first | rfl | exact absurd h (by simp [chk])) env whole), sw_no fun _ _ _ _ => rfl⟩
  | .llen a => have k := se_llen (sound a).1; ⟨k, st_of k (fun sc x h env whole => plainT_ok (by cases x <;> first | rfl | exact absurd h (by simp [chk])) env whole), sw_no fun _ _ _ _ => rfl⟩
  | .newc a => have k := se_newc (sound a).1; ⟨k, st_of k (fun sc x h env whole => plainT_ok (by cases x <;> first | rfl | exact absurd h (by simp [chk])) env whole), sw_no fun _ _ _ _ => rfl⟩
  | .bidx i b => have k := se_bidx i (sound b).1; ⟨k, st_of k (fun sc x h env whole => plainT_ok (by cases x <;> first | rfl | exact absurd h (by simp [chk])) env whole), sw_no fun _ _ _ _ => rfl⟩
  | .call f es => have k := se_call f (sounds es).1; ⟨k, st_of k (fun sc x h env whole => plainT_ok (by cases x <;> first | rfl | exact absurd h (by simp [chk])) env whole), sw_no fun _ _ _ _ => rfl⟩
  | .blt f es => have k := se_blt f (sounds es).1; ⟨k, st_of k (fun sc x h env whole => plainT_ok (by cases x <;> first | rfl | exact absurd h (by simp [chk])) env whole), sw_no fun _ _ _ _ => rfl⟩
  | .meth m o es => have k := se_meth m (sound o).1 (sounds es).1; ⟨k, st_of k (fun sc x h env whole => plainT_ok (by cases x <;> first | rfl | exact absurd h (by simp [chk])) env whole), sw_no fun _ _ _ _ => rfl⟩
  | .comp elt t k its none => have z := se_of_sfl (sf_comp0 (t := t) (k := k) (sound elt).1 (sounds its).1 (hv_of (sounds its).2)) (lo_comp0 elt t k its); ⟨z, st_of z (fun sc x h env whole => plainT_ok (by cases x <;> first | rfl | exact absurd h (by simp [chk])) env whole), sw_no fun _ _ _ _ => rfl⟩
  | .comp elt t k its (some c) => have z := se_of_sfl (sf_comp1 (t := t) (k := k) (sound elt).1 (sound c).2.1 (sounds its).1 (hv_of (sounds its).2)) (lo_comp1 elt c t k its); ⟨z, st_of z (fun sc x h env whole => plainT_ok (by cases x <;> first | rfl | exact absurd h (by simp [chk])) env whole), sw_no fun _ _ _ _ => rfl⟩
theorem sounds : ∀ es : Exs, SA ga G N T es ∧ SAll ga G N T es
  | .nil => ⟨sa_nil, trivial⟩
  | .cons e es => ⟨sa_cons (sound e).1 (sounds es).1, (sound e).1, (sounds es).2⟩
end
end
end LD

set_option Elab.async false
set_option linter.all false
set_option maxRecDepth 100000
set_option maxHeartbeats 2000000
/-! LD9: statements. -/
namespace LD
open PySem PySem.Spec PyProof.Rows L2 HT

/-- what a statement leans on: the entry of the def (only what is new since then is a local's own); what it must not lose -/
structure Base where
  ms0 : List Addr
  Γ0 : Hp
  H0 : Hp
  msb : List Addr
  Γb : Hp
structure FS (K : PySem.W.Frag) (ga : Str → Addr) (B : Base) (ms : List Addr) (Γ : Hp) (μ : Store) (ρ : Env) (σ : L2.St) (H : Hp) : Prop where
  af : After K ga B.ms0 B.Γ0 B.H0 ms Γ μ H
  le : Same B.Γb Γ
  pre : B.msb <+: ms
  er : ER K ga ms Γ H ρ σ
  fresh : ∀ (i : Nat) (xs : List D) (a : Addr), ρ[i]? = some (.own xs) → σ[i]? = some (some (.ref a)) → B.H0 a = none
def FP (X : Cx) (ga : Str → Addr) (B : Base) (fl : Fl) (W : WX) (D : Ends) : Prop := match fl with
  | .nx ρ μ => ∀ ms Γ σ H, FS X.K ga B ms Γ μ ρ σ H → D.nx σ H
  | .brk ρ μ => ∀ ms Γ σ H, FS X.K ga B ms Γ μ ρ σ H → D.bk σ H
  | .cont ρ μ => ∀ ms Γ σ H, FS X.K ga B ms Γ μ ρ σ H → D.ct σ H
  | .ret d μ => ∀ ms Γ v H, After X.K ga B.ms0 B.Γ0 B.H0 ms Γ μ H → Same B.Γb Γ → B.msb <+: ms → Rep X.K ga ms Γ d v → D.rt v H
  | .exc c fs ρ μ => ∀ ms Γ σ H cls dd, FS X.K ga B ms Γ μ ρ σ H → XRep X.K ga ms Γ H c fs cls dd → W cls dd σ H
  | .bad => False
def tS (X : Cx) (ga : Str → Addr) (G : GT) (fuel : Nat) (W : WX) (s : Sm) : TS := fun D σ H => ∃ B ms Γ μ ρ, FS X.K ga B ms Γ μ ρ σ H ∧ FP X ga B (exS G fuel s ρ μ) W D
def tSs (X : Cx) (ga : Str → Addr) (G : GT) (fuel : Nat) (W : WX) (s : Sms) : TS := fun D σ H => ∃ B ms Γ μ ρ, FS X.K ga B ms Γ μ ρ σ H ∧ FP X ga B (exSs G fuel s ρ μ) W D
theorem _root_.L2.PS.mono {X : Cx} {e : Stmt} {t t' : TS} (h : PS X e t) (k : ∀ D σ H, t' D σ H → t D σ H) : PS X e t' := ⟨fun pins s σ H D I hw => h.run pins s σ H D I (k D σ H hw)⟩
theorem _root_.L2.PSs.mono {X : Cx} {e : List Stmt} {t t' : TS} (h : PSs X e t) (k : ∀ D σ H, t' D σ H → t D σ H) : PSs X e t' := ⟨fun pins s σ H D I hw => h.run pins s σ H D I (k D σ H hw)⟩

section
variable {K : PySem.W.Frag} {ga : Str → Addr} {B : Base} {ms ms1 : List Addr} {Γ Γ1 : Hp} {μ μ1 : Store} {H H1 : Hp} {ρ : Env} {σ : L2.St}
theorem FS.si (F : FS K ga B ms Γ μ ρ σ H) : SI K ga ms Γ μ H := F.af.si
theorem FS.step (F : FS K ga B ms Γ μ ρ σ H) (A : After K ga ms Γ H ms1 Γ1 μ1 H1) : FS K ga B ms1 Γ1 μ1 ρ σ H1 :=
  ⟨F.af.trans A, F.le.trans A.le, F.pre.trans A.pre, F.er.mono A, F.fresh⟩
theorem FS.put (F : FS K ga B ms Γ μ ρ σ H) {i : Nat} {d : D} {v : V} (r : Rep K ga ms Γ d v) : FS K ga B ms Γ μ (ρ.set i (.val d)) (σ.set i (some v)) H := by
  refine ⟨F.af, F.le, F.pre, F.er.put r, fun j xs a e1 e2 => ?_⟩
  by_cases q : i = j
  · subst q
    have hi : i < ρ.length := by have := (List.getElem?_eq_some_iff.mp e1).1; rwa [List.length_set] at this
    rw [List.getElem?_set_self hi] at e1
    cases e1
  · rw [List.getElem?_set_ne q] at e1 e2
    exact F.fresh j xs a e1 e2
theorem FS.putOwn (F : FS K ga B ms Γ μ ρ σ H) {i : Nat} {xs : List D} {p : Addr} {vs : List V} (h1 : H p = some (.lst vs)) (h2 : Γ p = none) (h3 : p ∉ ms) (h0 : B.H0 p = none) (h4 : xs.length ≤ sizeLine) (h5 : Reps K ga ms Γ xs vs)
    (hd : ∀ (j : Nat) (ys : List D) (b : Addr), j ≠ i → ρ[j]? = some (.own ys) → σ[j]? = some (some (.ref b)) → b ≠ p) : FS K ga B ms Γ μ (ρ.set i (.own xs)) (σ.set i (some (.ref p))) H := by
  refine ⟨F.af, F.le, F.pre, F.er.putOwn h1 h2 h3 h4 h5 hd, fun j xs a e1 e2 => ?_⟩
  by_cases q : i = j
  · subst q
    have hi : i < ρ.length := by have := (List.getElem?_eq_some_iff.mp e1).1; rwa [List.length_set] at this
    have hi2 : i < σ.length := by rw [← F.er.len]; exact hi
    rw [List.getElem?_set_self hi2] at e2
    cases e2
    exact h0
  · rw [List.getElem?_set_ne q] at e1 e2
    exact F.fresh j xs a e1 e2
/-- a new own list is stored -/
theorem FS.newOwn (F : FS K ga B ms Γ μ ρ σ H) {i : Nat} {xs : List D} {p : Addr} {vs : List V} (A : After K ga ms Γ H ms1 Γ1 μ1 H1) (h1 : H1 p = some (.lst vs)) (h2 : Γ1 p = none) (h3 : p ∉ ms1) (h0 : H p = none) (h4 : xs.length ≤ sizeLine) (h5 : Reps K ga ms1 Γ1 xs vs) :
    FS K ga B ms1 Γ1 μ1 (ρ.set i (.own xs)) (σ.set i (some (.ref p))) H1 := by
  refine (F.step A).putOwn h1 h2 h3 (F.af.none_back h0 fun hm => h3 ((F.af.pre.trans A.pre).subset hm)) h4 h5 fun j ys b _ e1 e2 q => ?_
  obtain ⟨b', vs', f1, f2, _⟩ := F.er.own e1
  rw [e2] at f1
  cases f1
  rw [q, h0] at f2
  cases f2
/-- an own list is changed -/
theorem FS.chOwn (F : FS K ga B ms Γ μ ρ σ H) {i : Nat} {xs ys : List D} {p : Addr} {us : List V} (e : ρ[i]? = some (.own xs)) (e2 : σ[i]? = some (some (.ref p))) (h4 : ys.length ≤ sizeLine) (h5 : Reps K ga ms Γ ys us) :
    FS K ga B ms Γ μ (ρ.set i (.own ys)) σ (upd H p (.lst us)) := by
  obtain ⟨p', vs, f1, f2, f3, f4, f5, f6⟩ := F.er.own e
  rw [e2] at f1
  cases f1
  have h0 := F.fresh i xs p e e2
  have hi : i < ρ.length := (List.getElem?_eq_some_iff.mp e).1
  have hi2 : i < σ.length := by rw [← F.er.len]; exact hi
  refine ⟨F.af.putOwn h0 f3 f4, F.le, F.pre, ⟨by rw [List.length_set]; exact F.er.len, fun j s ov g1 g2 => ?_, fun j k xs' ys' a b ne g1 g2 g3 g4 => ?_⟩, fun j xs' a g1 g2 => ?_⟩
  · by_cases q : i = j
    · subst q
      rw [List.getElem?_set_self hi] at g1
      cases g1
      rw [e2] at g2
      cases g2
      exact ⟨p, us, rfl, upd_same, f3, f4, h4, h5⟩
    · rw [List.getElem?_set_ne q] at g1
      have z := F.er.at_ j s ov g1 g2
      cases s with
      | no => trivial
      | val d => exact z
      | own zs =>
        obtain ⟨b, ws, z1, z2, z3⟩ := z
        subst z1
        have ne := F.er.sep i j xs zs p b q e g1 e2 g2
        exact ⟨b, ws, rfl, by rw [upd_ne (Ne.symm ne)]; exact z2, z3⟩
  · have own' : ∀ (j : Nat) (zs : List D), (ρ.set i (.own ys))[j]? = some (.own zs) → ∃ zs', ρ[j]? = some (.own zs') := fun j zs g => by
      by_cases q : i = j
      · subst q; exact ⟨xs, e⟩
      · rw [List.getElem?_set_ne q] at g; exact ⟨zs, g⟩
    obtain ⟨_, g1'⟩ := own' _ _ g1
    obtain ⟨_, g2'⟩ := own' _ _ g2
    exact F.er.sep j k _ _ a b ne g1' g2' g3 g4
  · by_cases q : i = j
    · subst q
      rw [e2] at g2
      cases g2
      exact h0
    · rw [List.getElem?_set_ne q] at g1
      exact F.fresh j xs' a g1 g2
/-- an own list is given away -/
theorem FS.give (F : FS K ga B ms Γ μ ρ σ H) {i : Nat} {xs : List D} (e : ρ[i]? = some (.own xs)) : ∃ Γ', FS K ga B ms Γ' μ (ρ.set i (.val (.lst xs))) σ H := by
  obtain ⟨p, vs, e2, f2, f3, f4, f5, f6⟩ := F.er.own e
  have h0 := F.fresh i xs p e e2
  have le : Same Γ (upd Γ p (.lst vs)) := fun a u q => by rw [upd_ne (ne_of_none q f3)]; exact q
  have hi : i < ρ.length := (List.getElem?_eq_some_iff.mp e).1
  refine ⟨upd Γ p (.lst vs), ⟨F.si.share f2 f3 f4, F.af.le.trans le, F.af.pre, F.af.keep, F.af.newm, fun a o q => ?_⟩, F.le.trans le, F.pre, ⟨by rw [List.length_set]; exact F.er.len, fun j s ov g1 g2 => ?_, fun j k xs' ys' a b ne g1 g2 g3 g4 => ?_⟩, fun j xs' a g1 g2 => ?_⟩
  · by_cases z : a = p
    · subst z; exact .inr h0
    · rw [upd_ne z] at q; exact F.af.newg a o q
  · by_cases q : i = j
    · subst q
      rw [List.getElem?_set_self hi] at g1
      cases g1
      rw [e2] at g2
      cases g2
      refine ⟨.ref p, rfl, ?_⟩
      unfold Rep
      exact ⟨p, vs, rfl, upd_same, f5, f6.mono le List.prefix_rfl⟩
    · rw [List.getElem?_set_ne q] at g1
      have z := F.er.at_ j s ov g1 g2
      cases s with
      | no => trivial
      | val d =>
        obtain ⟨v, z1, z2⟩ := z
        exact ⟨v, z1, z2.mono le List.prefix_rfl⟩
      | own zs =>
        obtain ⟨b, ws, z1, z2, z3, z4, z5, z6⟩ := z
        subst z1
        have ne := F.er.sep i j xs zs p b q e g1 e2 g2
        exact ⟨b, ws, rfl, z2, by rw [upd_ne (Ne.symm ne)]; exact z3, z4, z5, z6.mono le List.prefix_rfl⟩
  · by_cases q : i = j
    · subst q; rw [List.getElem?_set_self hi] at g1; cases g1
    · by_cases q2 : i = k
      · subst q2; rw [List.getElem?_set_self hi] at g2; cases g2
      · rw [List.getElem?_set_ne q] at g1
        rw [List.getElem?_set_ne q2] at g2
        exact F.er.sep j k _ _ a b ne g1 g2 g3 g4
  · by_cases q : i = j
    · subst q; rw [List.getElem?_set_self hi] at g1; cases g1
    · rw [List.getElem?_set_ne q] at g1
      exact F.fresh j xs' a g1 g2
end
section
variable {X : Cx} {ga : Str → Addr} {G : GT} {W : WX} {B : Base} {ms : List Addr} {Γ : Hp} {μ : Store} {H : Hp} {σ : L2.St} {ρ : Env} {D : Ends}
/-- an expression in a statement -/
theorem stF {e : Ex} {f : LD.D → Store → Fl} {T : VK} (F : FS X.K ga B ms Γ μ ρ σ H) (h : FP X ga B (Fl.of ρ (ev G e ρ μ) f) W D)
    (k : ∀ d μ1 v H1 ms1 Γ1, FS X.K ga B ms1 Γ1 μ1 ρ σ H1 → After X.K ga ms Γ H ms1 Γ1 μ1 H1 → Rep X.K ga ms1 Γ1 d v → FP X ga B (f d μ1) W D → T v H1) : tE X ga G W e σ H T := by
  refine ⟨ms, Γ, μ, ρ, F.si, F.er, ?_⟩
  cases e1 : ev G e ρ μ with
  | ok d μ1 =>
    rw [e1] at h
    exact fun v H1 ms1 Γ1 A r => k d μ1 v H1 ms1 Γ1 (F.step A) A r h
  | exc c fs μ1 =>
    rw [e1] at h
    exact fun cls dd H' ms' Γ' A r => h ms' Γ' σ H' cls dd (F.step A) r
  | bad => rw [e1] at h; exact h.elim
theorem stFA {es : Exs} {f : List LD.D → Store → Fl} {T : List V → Hp → Prop} (F : FS X.K ga B ms Γ μ ρ σ H) (h : FP X ga B (Fl.of ρ (evs G es ρ μ) f) W D)
    (k : ∀ ds μ1 vs H1 ms1 Γ1, FS X.K ga B ms1 Γ1 μ1 ρ σ H1 → After X.K ga ms Γ H ms1 Γ1 μ1 H1 → Reps X.K ga ms1 Γ1 ds vs → FP X ga B (f ds μ1) W D → T vs H1) : tA X ga G W es σ H T := by
  refine ⟨ms, Γ, μ, ρ, F.si, F.er, ?_⟩
  cases e1 : evs G es ρ μ with
  | ok d μ1 =>
    rw [e1] at h
    exact fun v H1 ms1 Γ1 A r => k d μ1 v H1 ms1 Γ1 (F.step A) A r h
  | exc c fs μ1 =>
    rw [e1] at h
    exact fun cls dd H' ms' Γ' A r => h ms' Γ' σ H' cls dd (F.step A) r
  | bad => rw [e1] at h; exact h.elim
theorem stFB {e : Ex} {f : Bool → Store → Fl} {T : Bool → Hp → Prop} (F : FS X.K ga B ms Γ μ ρ σ H) (h : FP X ga B (Fl.of ρ (testOf (ev G e ρ μ)) f) W D)
    (k : ∀ b μ1 H1 ms1 Γ1, FS X.K ga B ms1 Γ1 μ1 ρ σ H1 → After X.K ga ms Γ H ms1 Γ1 μ1 H1 → FP X ga B (f b μ1) W D → T b H1) : tT X ga G W e σ H T := by
  refine ⟨ms, Γ, μ, ρ, F.si, F.er, ?_⟩
  cases e1 : testOf (ev G e ρ μ) with
  | ok d μ1 =>
    rw [e1] at h
    exact fun H1 ms1 Γ1 A => k d μ1 H1 ms1 Γ1 (F.step A) A h
  | exc c fs μ1 =>
    rw [e1] at h
    exact fun cls dd H' ms' Γ' A r => h ms' Γ' σ H' cls dd (F.step A) r
  | bad => rw [e1] at h; exact h.elim
/-- an expression that makes a new list -/
theorem stFF {e : Ex} {f : LD.D → Store → Fl} {T : VK} (F : FS X.K ga B ms Γ μ ρ σ H) (h : FP X ga B (Fl.of ρ (ev G e ρ μ) f) W D) (hl : ∀ d μ1, FP X ga B (f d μ1) W D → ∃ xs, d = .lst xs)
    (k : ∀ xs μ1 p vs H1 ms1 Γ1, After X.K ga ms Γ H ms1 Γ1 μ1 H1 → H1 p = some (.lst vs) → Γ1 p = none → p ∉ ms1 → H p = none → xs.length ≤ sizeLine → Reps X.K ga ms1 Γ1 xs vs → FP X ga B (f (.lst xs) μ1) W D → T (.ref p) H1) : tF X ga G W e σ H T := by
  refine ⟨ms, Γ, μ, ρ, F.si, F.er, ?_⟩
  cases e1 : ev G e ρ μ with
  | ok d μ1 =>
    rw [e1] at h
    obtain ⟨xs, rfl⟩ := hl d μ1 h
    exact fun p vs H1 ms1 Γ1 A h1 h2 h3 h4 h5 h6 => k xs μ1 p vs H1 ms1 Γ1 A h1 h2 h3 h4 h5 h6 h
  | exc c fs μ1 =>
    rw [e1] at h
    exact fun cls dd H' ms' Γ' A r => h ms' Γ' σ H' cls dd (F.step A) r
  | bad => rw [e1] at h; exact h.elim
theorem FP.opt {o : Option Env} {μ : Store} (h : FP X ga B (Fl.opt o μ) W D) : ∃ ρ', o = some ρ' ∧ FP X ga B (.nx ρ' μ) W D := by
  cases o with
  | none => exact False.elim h
  | some d => exact ⟨d, rfl, h⟩
end
end LD

set_option Elab.async false
set_option linter.all false
set_option maxRecDepth 100000
set_option maxHeartbeats 2000000
/-! LD10: the checker of statements, and that statements do what the interpreter says. -/
namespace LD
open PySem PySem.Spec PyProof.Rows L2 HT

def notComp : Expr → Bool
  | .ListComp _ _ _ _ => false
  | .SetComp _ _ _ _ => false
  | .DictComp _ _ _ _ _ => false
  | _ => true
def notTup : Expr → Bool
  | .Tuple _ _ _ => false
  | _ => true
def isComp : Ex → Bool
  | .comp _ _ _ _ _ => true
  | _ => false
def isFresh : Ex → Bool
  | .lst _ => true
  | .blt .list1 _ => true
  | _ => false
def isFreshO : Ex → Bool
  | .bin .add _ _ => true
  | e => isFresh e
def swB (sc : Scope) (x : Expr) (y : Str) (py : Pos) : Bool := match x with
  | .ListComp _ _ scope _ => (sc.names.lookup y == some .local) && py.line == x.pos.line && !(scope.names.any fun (n, k) => n == y && (k == .local || k == .cell))
  | _ => false
def parOk (sc : Scope) (x : Str) : Bool := decide (sc.names.lookup x = some .local)
def allConst (xs : List Expr) : Bool := xs.all (foldedForSure 8)
def allAlone (xs : List Expr) : Bool := xs.all (constantsAlone 8)
/-- some target is a cell: the tuple is built and taken apart -/
def cellIn (sc : Scope) (ts : List Expr) : Bool := ts.any fun
  | .Name x _ => decide (sc.names.lookup x = some .cell)
  | _ => false
def tupConst : Expr → Bool
  | .Tuple xs _ _ => allConst xs
  | _ => false
def parOwn (N : List Str) (T : List (Str × Nat)) (sc : Scope) (es : Exs) (a b : Expr) : Bool := match es with
  | .cons e1 (.cons e2 .nil) => isFresh e1 && chk N T sc e1 a && notStar a && chk N T sc e2 b && notStar b
  | _ => false
def parC (N : List Str) (T : List (Str × Nat)) (sc : Scope) (is : List (Nat × Bool)) (es : Exs) (ts : List Expr) (v : Expr) : Bool := match is, ts, v with
  | [(i, false), (j, false)], [.Tuple [.Name x px, .Name y py] _ _], .Tuple [a, b] _ _ => decide (N[i]? = some x) && decide (N[j]? = some y) && parOk sc x && parOk sc y && decide (x ≠ y) && decide (px.line = py.line) && chks N T sc es [a, b] && !allConst [a, b] && !allAlone [a, b]
  | [(i, false), (j, false), (l, false)], [.Tuple [.Name x px, .Name y py, .Name z pz] _ _], .Tuple [a, b, c] _ _ => decide (N[i]? = some x) && decide (N[j]? = some y) && decide (N[l]? = some z) && parOk sc x && parOk sc y && parOk sc z && decide (x ≠ y) && decide (x ≠ z) && decide (y ≠ z) && decide (px.line = py.line) && decide (px.line = pz.line) && chks N T sc es [a, b, c] && !allConst [a, b, c] && !allAlone [a, b, c]
  | [(i, true), (j, false)], [.Tuple [.Name x px, .Name y py] _ _], .Tuple [a, b] _ _ => decide (N[i]? = some x) && decide (N[j]? = some y) && parOk sc x && parOk sc y && decide (x ≠ y) && decide (px.line = py.line) && parOwn N T sc es a b && !allConst [a, b] && !allAlone [a, b]
  | _, _, _ => false
def raisC (T : List (Str × Nat)) (sc : Scope) (c : Str) : Option Expr → Option Expr → Bool
  | some (.Call (.Name x _) [.Constant (.str _) _ _] [] _), none => decide (x = c) && decide ((c, 1000) ∈ T) && glC sc x && okName x
  | _, _ => false
def tryC (T : List (Str × Nat)) (sc : Scope) (c z : Str) : List ExceptHandler → List Stmt → List Stmt → Bool
  | [.ExceptHandler (some (.Name x _)) none [.Return (some (.Constant (.str y) _ _)) _] _], [], [] => decide (x = c) && decide ((c, 1000) ∈ T) && glC sc x && okName x && decide (y = z) && decide (z.length ≤ LINE)
  | _, _, _ => false
theorem raisC_ok {T : List (Str × Nat)} {sc : Scope} {c : Str} {e cause : Option Expr} (h : raisC T sc c e cause = true) : ∃ x m j p p2 p3, e = some (.Call (.Name x p) [.Constant (.str m) j p2] [] p3) ∧ cause = none ∧ x = c ∧ (c, 1000) ∈ T ∧ glC sc x = true ∧ okName x = true := by
  unfold raisC at h
  split at h
  · simp only [Bool.and_eq_true, decide_eq_true_eq] at h
    exact ⟨_, _, _, _, _, _, rfl, rfl, h.1.1.1, h.1.1.2, h.1.2, h.2⟩
  · cases h
theorem tryC_ok {T : List (Str × Nat)} {sc : Scope} {c z : Str} {hs : List ExceptHandler} {els fin : List Stmt} (h : tryC T sc c z hs els fin = true) : ∃ x y j p1 p2 p3 p4, hs = [.ExceptHandler (some (.Name x p1)) none [.Return (some (.Constant (.str y) j p2)) p3] p4] ∧ els = [] ∧ fin = [] ∧
    x = c ∧ (c, 1000) ∈ T ∧ glC sc x = true ∧ okName x = true ∧ y = z ∧ z.length ≤ LINE := by
  unfold tryC at h
  split at h
  · simp only [Bool.and_eq_true, decide_eq_true_eq] at h
    exact ⟨_, _, _, _, _, _, _, rfl, rfl, rfl, h.1.1.1.1.1, h.1.1.1.1.2, h.1.1.1.2, h.1.1.2, h.1.2, h.2⟩
  · cases h
mutual
def chkS (N : List Str) (T : List (Str × Nat)) (sc : Scope) : Sm → Stmt → Bool
  | .expr e, .Expr x _ => chk N T sc e x && notComp x
  | .asg (.name i) e, .Assign [.Name y py] x _ => decide (N[i]? = some y) && locC sc y && chk N T sc e x && (notComp x || (isComp e && swB sc x y py))
  | .asg (.tup is) e, .Assign [.Tuple ts k p] x _ => tgC N sc (.tup is) (.Tuple ts k p) && chk N T sc e x && notComp x && (notTup x || decide (3 < ts.length) || tupConst x || cellIn sc ts)
  | .own i e, .Assign [.Name y py] x _ => decide (N[i]? = some y) && locC sc y && chk N T sc e x && ((notComp x && isFreshO e) || (isComp e && swB sc x y py))
  | .app i e, .Expr (.Call (.Attribute (.Name y _) n ap) [x] [] cp) _ => nIs N sc i y && decide (n = ("append" : Str)) && chk N T sc e x && notStar x && decide (ap.endLine = cp.line)
  | .seti i k e, .Assign [.Subscript (.Name y _) ix _] x _ => nIs N sc i y && chk N T sc k ix && plainIx ix && chk N T sc e x && notComp x
  | .setl o k e, .Assign [.Subscript ox ix _] x _ => chk N T sc o ox && chk N T sc k ix && plainIx ix && chk N T sc e x && notComp x
  | .par is es, .Assign ts x _ => parC N T sc is es ts x
  | .ret e, .Return (some x) _ => chk N T sc e x
  | .retn, .Return none _ => true
  | .ite c a b, .If t p q _ => chk N T sc c t && chkSs N T sc a p && chkSs N T sc b q
  | .for_ t k its body, .For tg it b [] _ => zipT k t && tgC N sc t tg && itC N T sc k its it && chkSs N T sc body b
  | .while_ c body, .While t b [] _ => chk N T sc c t && chkSs N T sc body b
  | .raise_ _ _, .Raise _ _ _ => true
  | .rais c, .Raise e cause _ => raisC T sc c e cause
  | .try_ body c z, .Try b hs els fin _ => tryC T sc c z hs els fin && chkSs N T sc body b
  | .brk, .Break _ => true
  | .cont, .Continue _ => true
  | .pass, .Pass _ => true
  | _, _ => false
def chkSs (N : List Str) (T : List (Str × Nat)) (sc : Scope) : Sms → List Stmt → Bool
  | .nil, [] => true
  | .cons (.fre _) ss, sts => chkSs N T sc ss sts
  | .cons s ss, st :: sts => chkS N T sc s st && chkSs N T sc ss sts
  | _, _ => false
end
section
variable {ga : Str → Addr} {G : GT} {N : List Str} {T : List (Str × Nat)} {sc : Scope} {X : Cx} {W : WX}
theorem blockKind_fn {env : PySem.Env} (h : env.scope.kind = .function) : env.blockKind = .function := by
  unfold Env.blockKind
  rw [h]
  rfl
theorem sw_plain {x : Expr} {tg : Option Expr} {line : Nat} {env : PySem.Env} (h : notComp x = true) : swapsWith x tg line env = pure false := by
  unfold swapsWith
  cases x <;> first | rfl | exact absurd h Bool.false_ne_true
theorem sw_sole {x tg : Expr} {line : Nat} {env : PySem.Env} (h : notComp x = true) : swapsWithSole [tg] x line env = pure false := sw_plain h
theorem sw_comp {x : Expr} {y : Str} {py : Pos} {line : Nat} (hk : X.env.scope.kind = .function) (h : swB X.env.scope x y py = true) : swapsWith x (some (.Name y py)) line X.env = pure true ∧ X.env.scope.names.lookup y = some .local := by
  cases x with
  | ListComp e gs scope pos =>
    have h' : ((X.env.scope.names.lookup y == some .local) && py.line == (Expr.ListComp e gs scope pos).pos.line && !(scope.names.any fun (n, k) => n == y && (k == .local || k == .cell))) = true := h
    have h2 := h'
    simp only [Bool.and_eq_true] at h2
    refine ⟨?_, by simpa using h2.1.1⟩
    show (pure (X.env.blockKind == .function && X.env.kindOf y == some .local && py.line == (Expr.ListComp e gs scope pos).pos.line && !(scope.names.any fun (n, k) => n == y && (k == .local || k == .cell))) : Sem Bool) = pure true
    rw [blockKind_fn hk]
    show (pure (true && (X.env.scope.names.lookup y == some .local) && py.line == (Expr.ListComp e gs scope pos).pos.line && !(scope.names.any fun (n, k) => n == y && (k == .local || k == .cell))) : Sem Bool) = pure true
    rw [Bool.true_and, h']
  | _ => exact absurd h Bool.false_ne_true
theorem sfl_comp {e : Ex} (h : isComp e = true) : SFL ga G N T e ∧ ListOnly G e := by
  cases e with
  | comp elt t k its c =>
    cases c with
    | none => exact ⟨sf_comp0 (sound elt).1 (sounds its).1 (hv_of (sounds its).2), lo_comp0 elt t k its⟩
    | some c => exact ⟨sf_comp1 (sound elt).1 (sound c).2.1 (sounds its).1 (hv_of (sounds its).2), lo_comp1 elt c t k its⟩
  | _ => exact absurd h Bool.false_ne_true
/-- new lists by a display, by list() -/
theorem stepAP {es : Exs} {f : List D → Store → Out D} {ms : List Addr} {Γ : Hp} {μ : Store} {H : Hp} {σ : L2.St} {ρ : Env} {Q : VK} {T : List V → Hp → Prop} (S : SI X.K ga ms Γ μ H) (R : ER X.K ga ms Γ H ρ σ) (h : PF X ga ms Γ H ((evs G es ρ μ).bind f) σ W Q)
    (k : ∀ ds μ1 vs H1 ms1 Γ1, After X.K ga ms Γ H ms1 Γ1 μ1 H1 → Reps X.K ga ms1 Γ1 ds vs → PF X ga ms1 Γ1 H1 (f ds μ1) σ W Q → T vs H1) : tA X ga G W es σ H T := by
  refine ⟨ms, Γ, μ, ρ, S, R, ?_⟩
  cases e1 : evs G es ρ μ with
  | ok d μ1 =>
    rw [e1] at h
    exact fun v H1 ms1 Γ1 A r => k d μ1 v H1 ms1 Γ1 A r (PF.shift h A)
  | exc c fs μ1 => rw [e1] at h; exact h
  | bad => rw [e1] at h; exact h.elim
theorem PF.new {ms : List Addr} {Γ : Hp} {μ : Store} {H : Hp} {σ : L2.St} {Q : VK} {xs : List D} {vs : List V} (q : PF X ga ms Γ H (.ok (.lst xs) μ) σ W Q) (S : SI X.K ga ms Γ μ H) (hz : xs.length ≤ sizeLine) (r : Reps X.K ga ms Γ xs vs) : ∀ p, H p = none → Q (.ref p) (upd H p (.lst vs)) := fun p hp => by
  have hΓ : Γ p = none := by
    cases e : Γ p with
    | none => rfl
    | some u => rw [S.sub _ _ e] at hp; cases hp
  have hm : p ∉ ms := fun hm => by
    obtain ⟨u, e⟩ := S.there p hm
    rw [hp] at e; cases e
  exact q p vs _ ms Γ (After.layOwn S hp) upd_same hΓ hm hp hz r
theorem sf_fresh {e : Ex} (hf : isFresh e = true) {x : Expr} (C : GC X ga G N T sc) (tk : Takes X W) (h : chk N T sc e x = true) : PE X x (tF X ga G W e) := by
  cases e with
  | lst es =>
    cases x with
    | List xs pos =>
      refine (pe_lst ((sounds es).1 X sc xs W C tk h)).mono fun σ H Q ⟨ms, Γ, μ, ρ, S, R, q⟩ => ?_
      refine stepAP S R q fun ds μ1 vs H1 ms1 Γ1 A r q1 => ?_
      split at q1
      · rename_i hz
        rw [line_eq] at hz
        exact ⟨by rw [← r.length]; exact hz, PF.new q1 A.si hz r⟩
      · exact False.elim q1
    | _ => exact absurd h (by simp [chk])
  | blt f es =>
    cases f with
    | list1 =>
      cases x with
      | Call g xs kws pos =>
        cases g with
        | Name y py =>
          match xs, kws, h with
          | a :: as, [], h =>
            obtain ⟨h1, h2, h3⟩ := and3 (show (decide (y = bltNm .list1) && glC sc y && chks N T sc es (a :: as)) = true from h)
            have e := of_decide_eq_true h1
            subst e
            obtain ⟨b1, b2, b3, b4⟩ := blt_boot .list1
            have st2 := Bool.and_eq_true_iff.mp (show (notStar a && as.all notStar) = true from chks_star h3)
            refine (pe_callV (.inr ⟨_, rfl⟩) (call_list_of.or (call_list_strL C.calm)) (C.gl _ h2) (C.blt _ b1) b4 ((sounds es).1 X sc _ W C tk h3) b2 b3 (star_cons a as X.env st2.1) (plain_any st2.2)).mono fun σ H Q ⟨ms, Γ, μ, ρ, S, R, q⟩ => ?_
            refine stepAP S R q fun ds μ1 vs H1 ms1 Γ1 A r q1 => ?_
            match ds, r, q1 with
            | [], _, q1 => exact False.elim q1
            | [d], r, q1 =>
              obtain ⟨v, rr, rfl, r1, r2⟩ := r.cons_iff
              rw [r2.nil_iff]
              cases d with
              | tup ys =>
                unfold Rep at r1
                obtain ⟨a, us, rfl, g1, g2, g3⟩ := r1
                exact .inl ⟨a, us, rfl, .inr (g1.mono A.si.sub).seq, PF.new q1 A.si g2 g3⟩
              | lst ys =>
                unfold Rep at r1
                obtain ⟨a, us, rfl, g1, g2, g3⟩ := r1
                exact .inl ⟨a, us, rfl, .inl (SqL.of (A.si.sub _ _ g1)), PF.new q1 A.si g2 g3⟩
              | str z =>
                unfold Rep at r1
                obtain ⟨rfl, hz⟩ := r1
                exact .inr ⟨z, rfl, hz, PF.new q1 A.si (by rw [List.length_map]; simpa [Str.length] using hz) (strl_rep _)⟩
              | _ => exact False.elim q1
            | a0 :: b0 :: r0, _, q1 => cases a0 <;> exact False.elim q1
          | [], [], h => simp [chk] at h
          | [], _ :: _, h => simp [chk] at h
          | _ :: _, _ :: _, h => simp [chk] at h
        | _ => exact absurd h (by simp [chk])
      | _ => exact absurd h (by simp [chk])
    | _ => exact absurd hf Bool.false_ne_true
  | _ => exact absurd hf Bool.false_ne_true
theorem stepP {e : Ex} {f : D → Store → Out D} {ms : List Addr} {Γ : Hp} {μ : Store} {H : Hp} {σ : L2.St} {ρ : Env} {Q : VK} {T : VK} (S : SI X.K ga ms Γ μ H) (R : ER X.K ga ms Γ H ρ σ) (h : PF X ga ms Γ H ((ev G e ρ μ).bind f) σ W Q)
    (k : ∀ d μ1 v H1 ms1 Γ1, After X.K ga ms Γ H ms1 Γ1 μ1 H1 → Rep X.K ga ms1 Γ1 d v → ER X.K ga ms1 Γ1 H1 ρ σ → PF X ga ms1 Γ1 H1 (f d μ1) σ W Q → T v H1) : tE X ga G W e σ H T := by
  refine ⟨ms, Γ, μ, ρ, S, R, ?_⟩
  cases e1 : ev G e ρ μ with
  | ok d μ1 =>
    rw [e1] at h
    exact fun v H1 ms1 Γ1 A r => k d μ1 v H1 ms1 Γ1 A r (R.mono A) (PF.shift h A)
  | exc c fs μ1 => rw [e1] at h; exact h
  | bad => rw [e1] at h; exact h.elim
theorem add_lst {ms : List Addr} {Γ : Hp} {μ : Store} {H : Hp} {σ : L2.St} {Q : VK} {x y : D} (q : PF X ga ms Γ H (opt (binop .add x y) μ) σ W Q) : ∃ xs ys, x = .lst xs ∧ y = .lst ys ∧ xs.length + ys.length ≤ LINE ∧ PF X ga ms Γ H (.ok (.lst (xs ++ ys)) μ) σ W Q := by
  cases e : binop .add x y with
  | none => rw [e] at q; exact q.elim
  | some d =>
    rw [e] at q
    unfold binop at e
    split at e
    all_goals first
      | (cases e; done)
      | (rename_i hop; cases hop; done)
      | (cases e; exact False.elim q)
      | (split at e
         · rename_i hz
           cases e
           first
             | exact False.elim q
             | exact ⟨_, _, rfl, rfl, hz, q⟩
         · cases e)
theorem sf_add {a b : Ex} {x : Expr} (C : GC X ga G N T sc) (tk : Takes X W) (h : chk N T sc (.bin .add a b) x = true) : PE X x (tF X ga G W (.bin .add a b)) := by
  cases x with
  | BinOp p o r pos =>
    obtain ⟨h1, h2, h3⟩ := and3 (show (decide (o = opB .add) && chk N T sc a p && chk N T sc b r) = true from h)
    have e := of_decide_eq_true h1
    subst e
    refine (pe_op op_cat ((sound a).1 X sc p W C tk h2) ((sound b).1 X sc r W C tk h3)).mono fun σ H Q ⟨ms, Γ, μ, ρ, S, R, q⟩ => ?_
    refine stepP S R q fun d μ1 v H1 ms1 Γ1 A r R1 q1 => stepP A.si R1 q1 fun d2 μ2 v2 H2 ms2 Γ2 A2 r2 R2 q2 => ?_
    obtain ⟨xs, ys, rfl, rfl, hz, q3⟩ := add_lst q2
    have r := r.mono A2.le A2.pre
    unfold Rep at r r2
    obtain ⟨a1, vs, rfl, h1, h2, h3⟩ := r
    obtain ⟨b1, us, rfl, g1, g2, g3⟩ := r2
    rw [line_eq] at hz
    exact ⟨a1, b1, vs, us, rfl, rfl, A2.si.sub _ _ h1, A2.si.sub _ _ g1, by rw [← h3.length, ← g3.length]; exact hz, PF.new q3 A2.si (by rw [List.length_append]; exact hz) (h3.append g3)⟩
  | _ => exact absurd h (by simp [chk])
theorem sf_freshO {e : Ex} (hf : isFreshO e = true) {x : Expr} (C : GC X ga G N T sc) (tk : Takes X W) (h : chk N T sc e x = true) : PE X x (tF X ga G W e) := by
  cases e with
  | bin op a b =>
    cases op with
    | add => exact sf_add C tk h
    | _ => exact absurd hf Bool.false_ne_true
  | lst es => exact sf_fresh (e := .lst es) hf C tk h
  | blt f es => exact sf_fresh (e := .blt f es) hf C tk h
  | _ => exact absurd hf Bool.false_ne_true
/-! ### targets, with the frame -/
theorem names_useF {K : PySem.W.Frag} {B : Base} {ms : List Addr} {Γ H : Hp} {μ : Store} {ρ' : Env} : ∀ {is : List Nat} {ds : List D} {vs : List V} {ρ : Env} {σ : L2.St} {Q : L2.St → Hp → Prop}, FS K ga B ms Γ μ ρ σ H → Reps K ga ms Γ ds vs → putAll ρ is ds = some ρ' →
    (∀ σ', FS K ga B ms Γ μ ρ' σ' H → Q σ' H) → gNames is vs σ H Q
  | [], [], vs, ρ, σ, Q, R, r, e, q => by
    unfold putAll at e
    cases e
    exact ⟨r.nil_iff, q σ R⟩
  | [], _ :: _, _, _, _, _, _, _, e, _ => by unfold putAll at e; cases e
  | _ :: _, [], _, _, _, _, _, _, e, _ => by unfold putAll at e; cases e
  | i :: is, d :: ds, vs, ρ, σ, Q, R, r, e, q => by
    unfold putAll at e
    obtain ⟨v, s, rfl, h1, h2⟩ := r.cons_iff
    cases e1 : ρ.put i d with
    | none => rw [e1] at e; cases e
    | some ρ1 =>
      rw [e1] at e
      have e : putAll ρ1 is ds = some ρ' := e
      obtain ⟨_, rfl⟩ := put_some e1
      exact ⟨v, s, rfl, names_useF (R.put h1) h2 e q⟩
theorem putAll_len {ρ' : Env} : ∀ {is : List Nat} {ds : List D} {ρ : Env}, putAll ρ is ds = some ρ' → ds.length = is.length := by
  intro is
  induction is with
  | nil => intro ds ρ e; cases ds with
    | nil => rfl
    | cons d ds => unfold putAll at e; cases e
  | cons i is ih => intro ds ρ e; cases ds with
    | nil => unfold putAll at e; cases e
    | cons d ds =>
      unfold putAll at e
      cases e1 : ρ.put i d with
      | none => rw [e1] at e; cases e
      | some ρ1 =>
        rw [e1] at e
        rw [List.length_cons, List.length_cons, ih (show putAll ρ1 is ds = some ρ' from e)]
theorem tg_useF {K : PySem.W.Frag} {B : Base} {ms : List Addr} {Γ H : Hp} {μ : Store} {ρ ρ' : Env} {σ : L2.St} {t : Tg} {d : D} {v : V} {Q : L2.St → Hp → Prop} (R : FS K ga B ms Γ μ ρ σ H) (r : Rep K ga ms Γ d v) (e : bindT ρ t d = some ρ')
    (q : ∀ σ', FS K ga B ms Γ μ ρ' σ' H → Q σ' H) : gT K t v σ H Q := by
  cases t with
  | name i =>
    obtain ⟨_, rfl⟩ := put_some e
    exact q _ (R.put r)
  | tup is =>
    cases d with
    | tup ds =>
      unfold Rep at r
      obtain ⟨a, vs, rfl, h1, _, h3⟩ := r
      exact ⟨a, vs, rfl, (h1.mono R.si.sub).seq, by rw [← h3.length, putAll_len e], names_useF R h3 e q⟩
    | _ => cases e
theorem tg_useFI {K : PySem.W.Frag} {B : Base} {ms : List Addr} {Γ H : Hp} {μ : Store} {ρ ρ' : Env} {σ : L2.St} {k : IK} {t : Tg} {d : D} {v : V} {Q : L2.St → Hp → Prop} (hz : zipT k t = true) (R : FS K ga B ms Γ μ ρ σ H) (r : IRep K ga k ms Γ H d v) (e : bindT ρ t d = some ρ')
    (q : ∀ σ', FS K ga B ms Γ μ ρ' σ' H → Q σ' H) : gT K t v σ H Q := by
  rcases r with r | ⟨rfl, ds, a, vs, rfl, rfl, h1, h3⟩
  · exact tg_useF R r e q
  · cases t with
    | name i => exact absurd hz Bool.false_ne_true
    | tup is => exact ⟨a, vs, rfl, h1, by rw [← h3.length, putAll_len e], names_useF R h3 e q⟩
end
end LD

set_option Elab.async false
set_option linter.all false
set_option maxRecDepth 100000
set_option maxHeartbeats 2000000
/-! LD11: statements are sound. -/
namespace LD
open PySem PySem.Spec PyProof.Rows L2 HT
section
variable (ga : Str → Addr) (G : GT) (N : List Str) (T : List (Str × Nat)) (sc : Scope) (fuel : Nat)
structure SCx (X : Cx) (W : WX) : Prop where
  gc : GC X ga G N T sc
  hsc : X.env.scope = sc
  fn : ∀ x, X.fn x = true
  tk : Takes X W
  po : PassesOwn (model X.prog X.w) X.A X.env X.xe
  hs : X.stack = X.env :: X.outer
  hf : X.env.frame = some X.env.locals
def SS (s : Sm) : Prop := ∀ (X : Cx) (st : Stmt) (W : WX), SCx ga G N T sc X W → chkS N T sc s st = true → PS X st (tS X ga G fuel W s)
def SSs (s : Sms) : Prop := ∀ (X : Cx) (sts : List Stmt) (W : WX), SCx ga G N T sc X W → chkSs N T sc s sts = true → PSs X sts (tSs X ga G fuel W s)
end
section
variable {ga : Str → Addr} {G : GT} {N : List Str} {T : List (Str × Nat)} {sc : Scope} {fuel : Nat} {X : Cx} {W : WX}
theorem ss_expr (e : Ex) : SS ga G N T sc fuel (.expr e) := by
  intro X st W C h
  cases st with
  | Expr x pos =>
    have h := Bool.and_eq_true_iff.mp (show (chk N T sc e x && notComp x) = true from h)
    refine (ps_expr ((sound e).1 X sc x W C.gc C.tk h.1) (sw_plain h.2)).mono fun D σ H ⟨B, ms, Γ, μ, ρ, F, q⟩ => ?_
    exact stF F q fun d μ1 v H1 ms1 Γ1 F1 A r q1 => q1 _ _ _ _ F1
  | _ => exact absurd h (by simp [chkS])
theorem set_name (C : SCx ga G N T sc X W) {i : Nat} {y : Str} {py pos : Pos} {x : Expr} {te : TE} (h1 : N[i]? = some y) (h2 : locC sc y = true) (he : PE X x te) (hn : notComp x = true) : PS X (.Assign [.Name y py] x pos) (tAsg te (gName i)) :=
  ps_set (i := i) (by rw [C.gc.hN]; exact C.gc.nd) (by rw [C.gc.hN]; exact h1) (C.gc.loc y h2).1 he (sw_plain hn) (C.gc.loc y h2).2
theorem ss_asgN (i : Nat) (e : Ex) : SS ga G N T sc fuel (.asg (.name i) e) := by
  intro X st W C h
  cases st with
  | Assign ts x pos =>
    match ts, h with
    | [.Name y py], h =>
      have h : (decide (N[i]? = some y) && locC sc y && chk N T sc e x && (notComp x || (isComp e && swB sc x y py))) = true := h
      simp only [Bool.and_eq_true, Bool.or_eq_true] at h
      obtain ⟨⟨⟨h1, h2⟩, h3⟩, h4⟩ := h
      have h1 := of_decide_eq_true h1
      rcases h4 with h4 | ⟨h4, h5⟩
      · refine (set_name C h1 h2 ((sound e).1 X sc x W C.gc C.tk h3) h4).mono fun D σ H ⟨B, ms, Γ, μ, ρ, F, q⟩ => ?_
        refine stF F q fun d μ1 v H1 ms1 Γ1 F1 A r q1 => ?_
        obtain ⟨ρ', e1, q1⟩ := q1.opt
        obtain ⟨_, rfl⟩ := put_some e1
        exact q1 _ _ _ _ (F1.put r)
      · obtain ⟨hf, hl⟩ := sfl_comp (ga := ga) (G := G) (N := N) (T := T) h4
        obtain ⟨s1, s2⟩ := sw_comp (X := X) (line := pos.line) C.gc.kind (by rw [C.hsc]; exact h5)
        refine ((hf X sc x W C.gc C.tk h3).2 i y py pos h1 s2 s1).mono fun D σ H ⟨B, ms, Γ, μ, ρ, F, q⟩ => ?_
        refine tF_of hl (stF F q fun d μ1 v H1 ms1 Γ1 F1 A r q1 => ?_)
        obtain ⟨ρ', e1, q1⟩ := q1.opt
        obtain ⟨_, rfl⟩ := put_some e1
        exact q1 _ _ _ _ (F1.put r)
    | [], h => simp [chkS] at h
    | e1 :: e2 :: es, h => cases e1 <;> simp [chkS] at h
    | [.Tuple _ _ _], h => simp [chkS] at h
    | [.List _ _], h => simp [chkS] at h
    | [.Subscript _ _ _], h => simp [chkS] at h
    | [.Attribute _ _ _], h => simp [chkS] at h
    | [.Starred _ _], h => simp [chkS] at h
  | _ => exact absurd h (by simp [chkS])

theorem swS_tup {ts xs : List Expr} {k k2 : Nat} {p p2 : Pos} (h : 3 < ts.length) : swappedStores [.Tuple ts k p] (.Tuple xs k2 p2) X.env = pure none := by
  unfold swappedStores
  have e : (!(ts.length == 2 || ts.length == 3) || xs.length != ts.length || X.env.blockKind != .function) = true := by
    have h2 : (ts.length == 2) = false := by simp; omega
    have h3 : (ts.length == 3) = false := by simp; omega
    rw [h2, h3]
    rfl
  simp only [e]
  rfl
theorem swS_plain {ts : List Expr} {x : Expr} {k : Nat} {p : Pos} (h : notTup x = true) : swappedStores [.Tuple ts k p] x X.env = pure none := by
  cases x <;> first | rfl | exact absurd h Bool.false_ne_true
theorem swS_const {ts xs : List Expr} {k k2 : Nat} {p p2 : Pos} (h : allConst xs = true) : swappedStores [.Tuple ts k p] (.Tuple xs k2 p2) X.env = pure none := by
  unfold swappedStores
  have h : xs.all (foldedForSure 8) = true := h
  dsimp only
  split
  · rfl
  · split
    · rfl
    · split
      · rfl
      · first | rfl | (split; (· rfl); (· rename_i hn; exact absurd h hn))
theorem any_star : ∀ {xs : List Expr}, xs.all notStar = true → (xs.any fun | .Starred .. => true | _ => false) = false
  | [], _ => rfl
  | x :: xs, h => by
    have h := Bool.and_eq_true_iff.mp (show (notStar x && xs.all notStar) = true from h)
    rw [List.any_cons, any_star h.2, Bool.or_false]
    cases x <;> first | rfl | exact absurd h.1 Bool.false_ne_true
theorem swS_two {x y : Str} {px py p p2 : Pos} {a b : Expr} {k k2 : Nat} (hk : X.env.scope.kind = .function) (hx : X.env.scope.names.lookup x = some .local) (hy : X.env.scope.names.lookup y = some .local) (ne : x ≠ y) (hl : px.line = py.line)
    (hs : [a, b].all notStar = true) (h1 : allConst [a, b] = false) (h2 : allAlone [a, b] = false) : swappedStores [.Tuple [.Name x px, .Name y py] k p] (.Tuple [a, b] k2 p2) X.env = pure (some [x, y]) := by
  have h1 : ([a, b].all (foldedForSure 8)) = false := h1
  have h2 : ([a, b].all (constantsAlone 8)) = false := h2
  have hkx : X.env.kindOf x = some .local := hx
  have hky : X.env.kindOf y = some .local := hy
  have eb : (y == x) = false := by simpa using fun e => ne e.symm
  unfold swappedStores
  dsimp only
  rw [blockKind_fn hk]
  rw [if_neg (by show ¬ (false = true); decide)]
  simp only [List.head?_cons, Option.map_some, Option.getD_some, Expr.pos, List.filterMap_cons, List.filterMap_nil, hkx, hky, hl, beq_self_eq_true, Bool.and_true, if_true]
  refine (if_neg (fun h => Bool.false_ne_true ((any_star hs).symm.trans h))).trans ?_
  rw [if_neg (by simp [List.eraseDups_cons, List.filter, eb])]
  rw [if_neg (by rw [h1]; exact Bool.false_ne_true), if_neg (by rw [h2]; exact Bool.false_ne_true)]
theorem swS_three {x y z : Str} {px py pz p p2 : Pos} {a b c : Expr} {k k2 : Nat} (hk : X.env.scope.kind = .function) (hx : X.env.scope.names.lookup x = some .local) (hy : X.env.scope.names.lookup y = some .local) (hz : X.env.scope.names.lookup z = some .local) (ne : x ≠ y) (ne2 : x ≠ z) (ne3 : y ≠ z) (hl : px.line = py.line) (hl2 : px.line = pz.line)
    (hs : [a, b, c].all notStar = true) (h1 : allConst [a, b, c] = false) (h2 : allAlone [a, b, c] = false) : swappedStores [.Tuple [.Name x px, .Name y py, .Name z pz] k p] (.Tuple [a, b, c] k2 p2) X.env = pure (some [x, y, z]) := by
  have h1 : ([a, b, c].all (foldedForSure 8)) = false := h1
  have h2 : ([a, b, c].all (constantsAlone 8)) = false := h2
  have hkx : X.env.kindOf x = some .local := hx
  have hky : X.env.kindOf y = some .local := hy
  have hkz : X.env.kindOf z = some .local := hz
  have eb : (y == x) = false := by simpa using fun e => ne e.symm
  have eb2 : (z == x) = false := by simpa using fun e => ne2 e.symm
  have eb3 : (z == y) = false := by simpa using fun e => ne3 e.symm
  unfold swappedStores
  dsimp only
  rw [blockKind_fn hk]
  rw [if_neg (by show ¬ (false = true); decide)]
  simp only [List.head?_cons, Option.map_some, Option.getD_some, Expr.pos, List.filterMap_cons, List.filterMap_nil, hkx, hky, hkz, ← hl, ← hl2, beq_self_eq_true, Bool.and_true, if_true]
  refine (if_neg (fun h => Bool.false_ne_true ((any_star hs).symm.trans h))).trans ?_
  rw [if_neg (by simp [List.eraseDups_cons, List.filter, eb, eb2, eb3])]
  rw [if_neg (by rw [h1]; exact Bool.false_ne_true), if_neg (by rw [h2]; exact Bool.false_ne_true)]
theorem fm_lt {α β : Type} {f : α → Option β} : ∀ {l : List α}, (∃ x ∈ l, f x = none) → (l.filterMap f).length < l.length
  | [], h => by obtain ⟨x, hx, _⟩ := h; cases hx
  | y :: l, h => by
    rw [List.filterMap_cons]
    cases e : f y with
    | none => exact Nat.lt_of_le_of_lt (List.length_filterMap_le f l) (by simp)
    | some z =>
      obtain ⟨x, hx, e2⟩ := h
      rcases List.mem_cons.mp hx with rfl | hx
      · rw [e] at e2; cases e2
      · have := fm_lt (f := f) (l := l) ⟨x, hx, e2⟩
        simp only [List.length_cons]
        omega
theorem swS_cell {ts : List Expr} {x : Expr} {k : Nat} {p : Pos} (h : cellIn X.env.scope ts = true) : swappedStores [.Tuple ts k p] x X.env = pure none := by
  cases x with
  | Tuple xs k2 p2 =>
    unfold swappedStores
    dsimp only
    split
    · rfl
    · split
      · rfl
      · refine if_pos ?_
        rw [Bool.or_eq_true]
        refine .inl ?_
        rw [bne_iff_ne]
        refine Nat.ne_of_lt (fm_lt ?_)
        obtain ⟨t, ht, h2⟩ := List.any_eq_true.mp h
        refine ⟨t, ht, ?_⟩
        cases t with
        | Name y py =>
          have h2 := of_decide_eq_true h2
          have hk : X.env.kindOf y = some .cell := h2
          show (if X.env.kindOf y == some .local && _ then some y else none) = none
          rw [hk]
          rfl
        | _ => exact absurd h2 Bool.false_ne_true
  | _ => rfl
theorem ss_asgT (is : List Nat) (e : Ex) : SS ga G N T sc fuel (.asg (.tup is) e) := by
  intro X st W C h
  cases st with
  | Assign ts x pos =>
    match ts, h with
    | [.Tuple ts k p], h =>
      have h : (tgC N sc (.tup is) (.Tuple ts k p) && chk N T sc e x && notComp x && (notTup x || decide (3 < ts.length) || tupConst x || cellIn sc ts)) = true := h
      simp only [Bool.and_eq_true, Bool.or_eq_true] at h
      obtain ⟨⟨⟨h1, h2⟩, h3⟩, h4⟩ := h
      have hw : swappedStores [.Tuple ts k p] x X.env = pure none := by
        rcases h4 with ((h4 | h4) | h4) | h4
        · exact swS_plain h4
        · cases x with
          | Tuple xs k2 p2 => exact swS_tup (of_decide_eq_true h4)
          | _ => rfl
        · cases x with
          | Tuple xs k2 p2 => exact swS_const h4
          | _ => rfl
        · exact swS_cell (by rw [C.hsc]; exact h4)
      refine (ps_asg ((sound e).1 X sc x W C.gc C.tk h2) (pg_ok C.gc h1) (sw_sole h3) hw).mono fun D σ H ⟨B, ms, Γ, μ, ρ, F, q⟩ => ?_
      refine stF F q fun d μ1 v H1 ms1 Γ1 F1 A r q1 => ?_
      obtain ⟨ρ', e1, q1⟩ := q1.opt
      exact tg_useF F1 r e1 fun σ' F2 => q1 _ _ _ _ F2
    | [], h => simp [chkS] at h
    | e1 :: e2 :: es, h => cases e1 <;> simp [chkS] at h
  | _ => exact absurd h (by simp [chkS])
theorem ss_own (i : Nat) (e : Ex) : SS ga G N T sc fuel (.own i e) := by
  intro X st W C h
  cases st with
  | Assign ts x pos =>
    match ts, h with
    | [.Name y py], h =>
      have h : (decide (N[i]? = some y) && locC sc y && chk N T sc e x && ((notComp x && isFreshO e) || (isComp e && swB sc x y py))) = true := h
      simp only [Bool.and_eq_true, Bool.or_eq_true] at h
      obtain ⟨⟨⟨h1, h2⟩, h3⟩, h4⟩ := h
      have h1 := of_decide_eq_true h1
      have key : ∀ D σ H, tS X ga G fuel W (.own i e) D σ H → tAsg (tF X ga G W e) (gName i) D σ H := fun D σ H ⟨B, ms, Γ, μ, ρ, F, q⟩ => by
        refine stFF F q (fun d μ1 q1 => ?_) fun xs μ1 p vs H1 ms1 Γ1 A g1 g2 g3 g4 g5 g6 q1 => ?_
        · cases d with
          | lst xs => exact ⟨xs, rfl⟩
          | _ => exact False.elim q1
        · have q1 : FP X ga B (if i < ρ.length then .nx (ρ.set i (.own xs)) μ1 else .bad) W D := q1
          split at q1
          · exact q1 _ _ _ _ (F.newOwn A g1 g2 g3 g4 g5 g6)
          · exact False.elim q1
      rcases h4 with ⟨h4, h5⟩ | ⟨h4, h5⟩
      · exact (set_name C h1 h2 (sf_freshO h5 C.gc C.tk h3) h4).mono key
      · obtain ⟨hf, hl⟩ := sfl_comp (ga := ga) (G := G) (N := N) (T := T) h4
        obtain ⟨s1, s2⟩ := sw_comp (X := X) (line := pos.line) C.gc.kind (by rw [C.hsc]; exact h5)
        exact ((hf X sc x W C.gc C.tk h3).2 i y py pos h1 s2 s1).mono key
    | [], h => simp [chkS] at h
    | e1 :: e2 :: es, h => cases e1 <;> simp [chkS] at h
  | _ => exact absurd h (by simp [chkS])
/-- one argument -/
theorem stF1 {B : Base} {ms : List Addr} {Γ : Hp} {μ : Store} {H : Hp} {σ : L2.St} {ρ : Env} {D : Ends} {e : Ex} {f : LD.D → Store → Fl} {T : List V → Hp → Prop} (F : FS X.K ga B ms Γ μ ρ σ H) (h : FP X ga B (Fl.of ρ (ev G e ρ μ) f) W D)
    (k : ∀ d μ1 v H1 ms1 Γ1, FS X.K ga B ms1 Γ1 μ1 ρ σ H1 → After X.K ga ms Γ H ms1 Γ1 μ1 H1 → Rep X.K ga ms1 Γ1 d v → FP X ga B (f d μ1) W D → T [v] H1) : tA X ga G W (.cons e .nil) σ H T := by
  refine ⟨ms, Γ, μ, ρ, F.si, F.er, ?_⟩
  show POs X ga ms Γ H ((ev G e ρ μ).bind fun d μ => (Out.ok [] μ : Out (List LD.D)).bind fun ds μ => .ok (d :: ds) μ) σ W T
  cases e1 : ev G e ρ μ with
  | ok d μ1 =>
    rw [e1] at h
    intro vs H1 ms1 Γ1 A r
    obtain ⟨v, rr, rfl, r1, r2⟩ := r.cons_iff
    rw [r2.nil_iff]
    exact k d μ1 v H1 ms1 Γ1 (F.step A) A r1 h
  | exc c fs μ1 =>
    rw [e1] at h
    exact fun cls dd H' ms' Γ' A r => h ms' Γ' σ H' cls dd (F.step A) r
  | bad => rw [e1] at h; exact h.elim
theorem ss_app (i : Nat) (e : Ex) : SS ga G N T sc fuel (.app i e) := by
  intro X st W C h
  cases st with
  | Expr z pos =>
    cases z with
    | Call g xs kws cp =>
      cases g with
      | Attribute o n ap =>
        cases o with
        | Name y py =>
          match xs, kws, h with
          | [x], [], h =>
            have h : (nIs N sc i y && decide (n = ("append" : Str)) && chk N T sc e x && notStar x && decide (ap.endLine = cp.line)) = true := h
            simp only [Bool.and_eq_true] at h
            obtain ⟨⟨⟨⟨h1, h2⟩, h3⟩, h4⟩, h5⟩ := h
            have e2 := of_decide_eq_true h2
            subst e2
            obtain ⟨g1, g2, g3, g4⟩ := nIs_ok h1
            have st1 : starEach [x] X.env = (false, eval x X.env) :: starEach [] X.env := star_cons x [] X.env h4
            have hs : SA ga G N T (.cons e .nil) := sa_cons (sound e).1 sa_nil
            have hc : chks N T sc (.cons e .nil) [x] = true := by
              show (chk N T sc e x && notStar x && true) = true
              rw [h3, h4]; rfl
            refine (ps_expr (pe_bm PySem.F.plainAttrs_list PySem.F.slot_list_append PySem.F.type_list_append mt_append (pe_var (i := i) (by rw [C.gc.hN]; exact g1) (C.gc.vis _ g2) g3 g4) (hs X sc [x] W C.gc C.tk hc) rfl (by rw [st1]; rfl) (by simpa using of_decide_eq_true h5) st1 (plain_any rfl)) rfl).mono fun D σ H ⟨B, ms, Γ, μ, ρ, F, q⟩ => ?_
            have q : FP X ga B (match ρ[i]? with
              | some (.own xs) => Fl.of ρ (ev G e ρ μ) fun d μ => if xs.length < LINE then .nx (ρ.set i (.own (xs ++ [d]))) μ else .bad
              | _ => .bad) W D := q
            split at q
            · rename_i xs eo
              obtain ⟨p, vs, e2, _⟩ := F.er.own eo
              refine ⟨.ref p, e2, ?_⟩
              refine ⟨?_, ?_⟩
              · obtain ⟨p', vs', f1, f2, _⟩ := F.er.own eo
                rw [e2] at f1
                cases f1
                exact .inl ⟨rfl, vs', SqL.of f2⟩
              · refine stF1 F q fun d μ1 v H1 ms1 Γ1 F1 A r q1 => ?_
                obtain ⟨p', vs', f1, f2, f3, f4, f5, f6⟩ := F1.er.own eo
                rw [e2] at f1
                cases f1
                split at q1
                · rename_i hz
                  rw [line_eq] at hz
                  refine ⟨p, vs', v, rfl, rfl, f2, by rw [← f6.length]; exact hz, ?_⟩
                  exact q1 _ _ _ _ (F1.chOwn eo e2 (by rw [List.length_append]; exact hz) (f6.append (Reps.cons r Reps.nil)))
                · exact False.elim q1
            · exact False.elim q
          | [], _, h => simp [chkS] at h
          | [_], _ :: _, h => simp [chkS] at h
          | _ :: _ :: _, _, h => simp [chkS] at h
        | _ => exact absurd h (by simp [chkS])
      | _ => exact absurd h (by simp [chkS])
    | _ => exact absurd h (by simp [chkS])
  | _ => exact absurd h (by simp [chkS])

theorem sub_assign {o ix : Expr} {pos : Pos} {env : PySem.Env} (h : plainIx ix = true) : ∀ v, assign (.Subscript o ix pos) env v = (do
      let ov ← holding [v] (eval o env)
      let iv ← holding [v, ov] (eval ix env)
      standAt pos
      holding [v, ov, iv] (setItem ov iv v)
      release [v, ov, iv] []) := by
  intro v
  cases ix <;> first | rfl | exact absurd h Bool.false_ne_true
theorem ss_seti (i : Nat) (k e : Ex) : SS ga G N T sc fuel (.seti i k e) := by
  intro X st W C h
  cases st with
  | Assign ts x pos =>
    match ts, h with
    | [.Subscript (.Name y py) ix p], h =>
      have h : (nIs N sc i y && chk N T sc k ix && plainIx ix && chk N T sc e x && notComp x) = true := h
      simp only [Bool.and_eq_true] at h
      obtain ⟨⟨⟨⟨h1, h2⟩, h3⟩, h4⟩, h5⟩ := h
      obtain ⟨g1, g2, g3, g4⟩ := nIs_ok h1
      refine (ps_asg ((sound e).1 X sc x W C.gc C.tk h4) (pg_sub (pe_var (i := i) (by rw [C.gc.hN]; exact g1) (C.gc.vis _ g2) g3 g4) ((sound k).1 X sc ix W C.gc C.tk h2) set_list (sub_assign h3)) (sw_sole h5) (by cases x <;> rfl)).mono fun D σ H ⟨B, ms, Γ, μ, ρ, F, q⟩ => ?_
      have q : FP X ga B (match ρ[i]? with
        | some (.own xs) => Fl.of ρ (ev G e ρ μ) fun d μ => Fl.of ρ (ev G k ρ μ) fun y μ => match y with
          | .int j => match L2.ixN xs.length j with
            | some n => .nx (ρ.set i (.own (xs.set n d))) μ
            | none => .bad
          | _ => .bad
        | _ => .bad) W D := q
      split at q
      · rename_i xs eo
        obtain ⟨p, vs, e2, _⟩ := F.er.own eo
        refine stF F q fun d μ1 v H1 ms1 Γ1 F1 A r q1 => ⟨.ref p, e2, stF F1 q1 fun d2 μ2 v2 H2 ms2 Γ2 F2 A2 r2 q2 => ?_⟩
        cases d2 with
        | int j =>
          have q2 : FP X ga B (match L2.ixN xs.length j with
            | some n => .nx (ρ.set i (.own (xs.set n d))) μ2
            | none => .bad) W D := q2
          split at q2
          · rename_i n en
            unfold Rep at r2
            obtain ⟨p', vs', f1, f2, f3, f4, f5, f6⟩ := F2.er.own eo
            rw [e2] at f1
            cases f1
            refine ⟨p, vs', j, n, rfl, r2, f2, by rw [← f6.length]; exact en, ?_⟩
            exact q2 _ _ _ _ (F2.chOwn eo e2 (by rw [List.length_set]; exact f5) (Reps.set (r.mono A2.le A2.pre) n f6))
          · exact False.elim q2
        | _ => exact False.elim q2
      · exact False.elim q
    | [], h => simp [chkS] at h
    | e1 :: e2 :: es, h =>
      cases e1 with
      | Subscript v _ _ => cases v <;> exact absurd h Bool.false_ne_true
      | _ => exact absurd h Bool.false_ne_true
  | _ => exact absurd h (by simp [chkS])
theorem FS.put_st {K : PySem.W.Frag} {B : Base} {ms : List Addr} {Γ H : Hp} {μ : Store} {ρ : Env} {σ : L2.St} (F : FS K ga B ms Γ μ ρ σ H) {l : Nat} {p : Addr} {vs : List V} {xs : List LD.D} {so : SO} (hl : μ[l]? = some so) (hp : ms[l]? = some p) (hn : xs.length ≤ sizeLine) (r : Reps K ga ms Γ xs vs) :
    FS K ga B ms Γ (μ.set l (.lst xs)) ρ σ (upd H p (.lst vs)) := F.step (After.put F.si hl hp hn r)
theorem ss_setl (o k e : Ex) : SS ga G N T sc fuel (.setl o k e) := by
  intro X st W C h
  cases st with
  | Assign ts x pos =>
    match ts, h with
    | [.Subscript ox ix p], h =>
      have h : (chk N T sc o ox && chk N T sc k ix && plainIx ix && chk N T sc e x && notComp x) = true := h
      simp only [Bool.and_eq_true] at h
      obtain ⟨⟨⟨⟨h1, h2⟩, h3⟩, h4⟩, h5⟩ := h
      refine (ps_asg ((sound e).1 X sc x W C.gc C.tk h4) (pg_sub ((sound o).1 X sc ox W C.gc C.tk h1) ((sound k).1 X sc ix W C.gc C.tk h2) set_list (sub_assign h3)) (sw_sole h5) (by cases x <;> rfl)).mono fun D σ H ⟨B, ms, Γ, μ, ρ, F, q⟩ => ?_
      refine stF F q fun d μ1 v H1 ms1 Γ1 F1 A1 r1 q1 => stF F1 q1 fun d2 μ2 v2 H2 ms2 Γ2 F2 A2 r2 q2 => stF F2 q2 fun d3 μ3 v3 H3 ms3 Γ3 F3 A3 r3 q3 => ?_
      cases d2 with
      | loc l =>
        cases d3 with
        | int j =>
          have q3 : FP X ga B (match μ3[l]? with
            | some (.lst xs) => match L2.ixN xs.length j with
              | some n => .nx ρ (μ3.set l (.lst (xs.set n d)))
              | none => .bad
            | _ => .bad) W D := q3
          split at q3
          · rename_i xs el
            split at q3
            · rename_i n en
              unfold Rep at r2 r3
              obtain ⟨p', rfl, hp⟩ := r2
              have hp := pre_get A3.pre hp
              obtain ⟨vs, f2, f5, f6⟩ := F3.si.st l _ p' el hp
              refine ⟨p', vs, j, n, rfl, r3, f2, by rw [← f6.length]; exact en, ?_⟩
              exact q3 _ _ _ _ (F3.put_st el hp (by rw [List.length_set]; exact f5) (Reps.set ((r1.mono A2.le A2.pre).mono A3.le A3.pre) n f6))
            · exact False.elim q3
          · exact False.elim q3
        | _ => exact False.elim q3
      | _ => cases d3 <;> exact False.elim q3
    | [], h => simp [chkS] at h
    | e1 :: e2 :: es, h => cases e1 <;> simp [chkS] at h
  | _ => exact absurd h (by simp [chkS])
theorem ss_ret (e : Ex) : SS ga G N T sc fuel (.ret e) := by
  intro X st W C h
  cases st with
  | Return ox pos =>
    cases ox with
    | some x =>
      refine (ps_ret ((sound e).1 X sc x W C.gc C.tk h)).mono fun D σ H ⟨B, ms, Γ, μ, ρ, F, q⟩ => ?_
      exact stF F q fun d μ1 v H1 ms1 Γ1 F1 A r q1 => q1 _ _ _ _ F1.af F1.le F1.pre r
    | none => exact absurd h (by simp [chkS])
  | _ => exact absurd h (by simp [chkS])
theorem ss_retn : SS ga G N T sc fuel .retn := by
  intro X st W C h
  cases st with
  | Return ox pos =>
    cases ox with
    | none => exact ps_retN.mono fun D σ H ⟨B, ms, Γ, μ, ρ, F, q⟩ => q _ _ _ _ F.af F.le F.pre (by unfold Rep; rfl)
    | some x => exact absurd h (by simp [chkS])
  | _ => exact absurd h (by simp [chkS])
theorem ss_ite (c : Ex) {a b : Sms} (ha : SSs ga G N T sc fuel a) (hb : SSs ga G N T sc fuel b) : SS ga G N T sc fuel (.ite c a b) := by
  intro X st W C h
  cases st with
  | If t p r pos =>
    obtain ⟨h1, h2, h3⟩ := and3 (show (chk N T sc c t && chkSs N T sc a p && chkSs N T sc b r) = true from h)
    refine (ps_if ((sound c).2.1 X sc t W C.gc C.tk h1) (ha X p W C h2) (hb X r W C h3)).mono fun D σ H ⟨B, ms, Γ, μ, ρ, F, q⟩ => ?_
    refine stFB F q fun k μ1 H1 ms1 Γ1 F1 A q1 => ?_
    cases k with
    | true => exact ⟨B, ms1, Γ1, μ1, ρ, F1, q1⟩
    | false => exact ⟨B, ms1, Γ1, μ1, ρ, F1, q1⟩
  | _ => exact absurd h (by simp [chkS])
theorem FP.base {B B' : Base} {fl : Fl} {D : Ends} (h1 : B'.ms0 = B.ms0) (h2 : B'.Γ0 = B.Γ0) (h3 : B'.H0 = B.H0) (le : Same B.Γb B'.Γb) (pre : B.msb <+: B'.msb) (q : FP X ga B fl W D) : FP X ga B' fl W D := by
  have fs : ∀ {ms Γ μ ρ σ H}, FS X.K ga B' ms Γ μ ρ σ H → FS X.K ga B ms Γ μ ρ σ H := fun F => ⟨by rw [← h1, ← h2, ← h3]; exact F.af, le.trans F.le, pre.trans F.pre, F.er, by rw [← h3]; exact F.fresh⟩
  cases fl with
  | nx ρ μ => exact fun ms Γ σ H F => q ms Γ σ H (fs F)
  | brk ρ μ => exact fun ms Γ σ H F => q ms Γ σ H (fs F)
  | cont ρ μ => exact fun ms Γ σ H F => q ms Γ σ H (fs F)
  | ret d μ => exact fun ms Γ v H A l p r => q ms Γ v H (by rw [← h1, ← h2, ← h3]; exact A) (le.trans l) (pre.trans p) r
  | exc c fs' ρ μ => exact fun ms Γ σ H cls dd F r => q ms Γ σ H cls dd (fs F) r
  | bad => exact q
theorem ss_for (t : Tg) (k : IK) (its : Exs) {body : Sms} (hb : SSs ga G N T sc fuel body) : SS ga G N T sc fuel (.for_ t k its body) := by
  intro X st W C h
  cases st with
  | For tg it b els pos =>
    cases els with
    | nil =>
      obtain ⟨hzt, h1, h2, h3⟩ := and4 (show (zipT k t && tgC N sc t tg && itC N T sc k its it && chkSs N T sc body b) = true from h)
      have hf0 : ∀ v, foldedSetIterable it X.env v = pure v := it_fold h2
      refine (ps_for C.po C.gc.calm (pi_ok (sounds its).1 (hv_of (sounds its).2) C.gc C.tk h2 (zip_tg hzt h1)) (pg_ok C.gc h1) (hb X b W C h3) hf0).mono fun D σ H ⟨B, ms, Γ, μ, ρ, F, q⟩ => ?_
      have q : FP X ga B (Fl.of ρ (evs G its ρ μ) fun ds μ => match iterD k ds with
        | some xs => forLoop t (exSs G fuel body) xs ρ μ
        | none => .bad) W D := q
      refine ⟨ms, Γ, μ, ρ, F.si, F.er, ?_⟩
      cases e1 : evs G its ρ μ with
      | bad => rw [e1] at q; exact q
      | exc c fs μ1 =>
        rw [e1] at q
        exact fun cls dd H' ms' Γ' A r => q ms' Γ' σ H' cls dd (F.step A) r
      | ok ds μ1 =>
        rw [e1] at q
        have q : FP X ga B (match iterD k ds with
          | some xs => forLoop t (exSs G fuel body) xs ρ μ1
          | none => .bad) W D := q
        show match iterD k ds with
          | some xs => _
          | none => False
        cases e2 : iterD k ds with
        | none => rw [e2] at q; exact q
        | some xs =>
          rw [e2] at q
          have q : FP X ga B (forLoop t (exSs G fuel body) xs ρ μ1) W D := q
          intro J H1 ms1 Γ1 A hz ok
          have F1 := F.step A
          obtain ⟨B', hB'⟩ : ∃ B' : Base, B' = { B with msb := ms1, Γb := Γ1 } := ⟨_, rfl⟩
          have F1' : FS X.K ga B' ms1 Γ1 μ1 ρ σ H1 := by rw [hB']; exact ⟨F1.af, fun _ _ e => e, List.prefix_rfl, F1.er, F1.fresh⟩
          have q : FP X ga B' (forLoop t (exSs G fuel body) xs ρ μ1) W D := by
            rw [hB']; exact FP.base (B := B) rfl rfl rfl F1.le F1.pre q
          refine ⟨fun i m σ2 H2 => m = xs.length - i ∧ i ≤ xs.length ∧ ∃ ms2 Γ2 μ2 ρ2, FS X.K ga B' ms2 Γ2 μ2 ρ2 σ2 H2 ∧ FP X ga B' (forLoop t (exSs G fuel body) (xs.drop i) ρ2 μ2) W D,
            ⟨_, rfl, Nat.zero_le _, ms1, Γ1, μ1, ρ, F1', by rw [List.drop_zero]; exact q⟩, ?_⟩
          rintro i m σ2 H2 ⟨hm, hi, ms2, Γ2, μ2, ρ2, F2, q2⟩
          have le12 : Same Γ1 Γ2 := by have := F2.le; rw [hB'] at this; exact this
          have pre12 : ms1 <+: ms2 := by have := F2.pre; rw [hB'] at this; exact this
          obtain ⟨ok1, ok2, ok3⟩ := ok H2 ms2 Γ2 μ2 le12 pre12 F2.si
          rcases Nat.lt_or_ge i xs.length with hi' | hi'
          · right
            refine ⟨ok1 i hi', fun σ' H' => ∃ m', m' < m ∧ (m' = xs.length - (i + 1) ∧ i + 1 ≤ xs.length ∧ ∃ ms2 Γ2 μ2 ρ2, FS X.K ga B' ms2 Γ2 μ2 ρ2 σ' H' ∧ FP X ga B' (forLoop t (exSs G fuel body) (xs.drop (i + 1)) ρ2 μ2) W D), fun σ' H' h => h, fun w H' hy => ?_⟩
            obtain ⟨A', dx, hx', rw'⟩ := ok3 i w H' hy hi'
            have hx : xs[i]? = some xs[i] := List.getElem?_eq_getElem hi'
            rw [hx] at hx'
            cases hx'
            have F2 := F2.step A'
            have dr : xs.drop i = xs[i] :: xs.drop (i + 1) := by rw [List.drop_eq_getElem_cons hi']
            rw [dr] at q2
            unfold forLoop at q2
            cases e3 : bindT ρ2 t xs[i] with
            | none => rw [e3] at q2; exact False.elim q2
            | some ρ3 =>
              rw [e3] at q2
              refine tg_useFI hzt F2 rw' e3 fun σ3 F3 => ⟨B', ms2, Γ2, μ2, ρ3, F3, ?_⟩
              have q2 : FP X ga B' (match exSs G fuel body ρ3 μ2 with
                | .nx ρ μ => forLoop t (exSs G fuel body) (xs.drop (i + 1)) ρ μ
                | .cont ρ μ => forLoop t (exSs G fuel body) (xs.drop (i + 1)) ρ μ
                | .brk ρ μ => .nx ρ μ
                | r => r) W D := q2
              cases e4 : exSs G fuel body ρ3 μ2 with
              | bad => rw [e4] at q2; exact q2
              | nx ρ4 μ4 => rw [e4] at q2; exact fun ms4 Γ4 σ4 H4 F4 => ⟨_, by omega, rfl, by omega, ms4, Γ4, μ4, ρ4, F4, q2⟩
              | cont ρ4 μ4 => rw [e4] at q2; exact fun ms4 Γ4 σ4 H4 F4 => ⟨_, by omega, rfl, by omega, ms4, Γ4, μ4, ρ4, F4, q2⟩
              | brk ρ4 μ4 => rw [e4] at q2; exact fun ms4 Γ4 σ4 H4 F4 => q2 ms4 Γ4 σ4 H4 F4
              | ret d μ4 => rw [e4] at q2; exact q2
              | exc c fs ρ4 μ4 => rw [e4] at q2; exact q2
          · left
            have e : i = xs.length := Nat.le_antisymm hi hi'
            subst e
            rw [List.drop_length] at q2
            refine ⟨ok2, ?_⟩
            exact q2 _ _ _ _ F2
    | cons _ _ => exact absurd h (by simp [chkS])
  | _ => exact absurd h (by simp [chkS])
theorem ss_while (c : Ex) {body : Sms} (hb : SSs ga G N T sc fuel body) : SS ga G N T sc fuel (.while_ c body) := by
  intro X st W C h
  cases st with
  | While t b els pos =>
    cases els with
    | nil =>
      have h := Bool.and_eq_true_iff.mp (show (chk N T sc c t && chkSs N T sc body b) = true from h)
      refine (ps_while C.po ((sound c).2.1 X sc t W C.gc C.tk h.1) (hb X b W C h.2)).mono fun D σ H ⟨B, ms, Γ, μ, ρ, F, q⟩ => ?_
      have q : FP X ga B (whileLoop (fun ρ μ => testOf (ev G c ρ μ)) (exSs G fuel body) fuel ρ μ) W D := q
      refine ⟨fun m σ H => ∃ ms Γ μ ρ, FS X.K ga B ms Γ μ ρ σ H ∧ FP X ga B (whileLoop (fun ρ μ => testOf (ev G c ρ μ)) (exSs G fuel body) m ρ μ) W D, ⟨fuel, ms, Γ, μ, ρ, F, q⟩, ?_⟩
      rintro m σ2 H2 ⟨ms2, Γ2, μ2, ρ2, F2, q2⟩
      cases m with
      | zero => exact False.elim q2
      | succ m =>
        unfold whileLoop at q2
        refine stFB F2 q2 fun k μ3 H3 ms3 Γ3 F3 A q3 => ?_
        cases k with
        | false => exact q3 _ _ _ _ F3
        | true =>
          rw [if_pos rfl]
          refine ⟨fun σ' H' => ∃ m', m' < m + 1 ∧ ∃ ms Γ μ ρ, FS X.K ga B ms Γ μ ρ σ' H' ∧ FP X ga B (whileLoop (fun ρ μ => testOf (ev G c ρ μ)) (exSs G fuel body) m' ρ μ) W D, fun σ' H' h => h, B, ms3, Γ3, μ3, ρ2, F3, ?_⟩
          rw [if_pos rfl] at q3
          cases e4 : exSs G fuel body ρ2 μ3 with
          | bad => rw [e4] at q3; exact q3
          | nx ρ4 μ4 => rw [e4] at q3; exact fun ms4 Γ4 σ4 H4 F4 => ⟨m, by omega, ms4, Γ4, μ4, ρ4, F4, q3⟩
          | cont ρ4 μ4 => rw [e4] at q3; exact fun ms4 Γ4 σ4 H4 F4 => ⟨m, by omega, ms4, Γ4, μ4, ρ4, F4, q3⟩
          | brk ρ4 μ4 => rw [e4] at q3; exact fun ms4 Γ4 σ4 H4 F4 => q3 ms4 Γ4 σ4 H4 F4
          | ret d μ4 => rw [e4] at q3; exact q3
          | exc c fs ρ4 μ4 => rw [e4] at q3; exact q3
    | cons _ _ => exact absurd h (by simp [chkS])
  | _ => exact absurd h (by simp [chkS])

theorem mix2 {ρ ρ' : Env} {i j : Nat} {d e : LD.D} (h : putMix ρ [(i, false), (j, false)] [d, e] = some ρ') : ρ' = (ρ.set i (.val d)).set j (.val e) := by
  unfold putMix at h
  cases e1 : ρ.put i d with
  | none => rw [e1] at h; cases h
  | some ρ1 =>
    rw [e1] at h
    have h : putMix ρ1 [(j, false)] [e] = some ρ' := h
    unfold putMix at h
    cases e2 : ρ1.put j e with
    | none => rw [e2] at h; cases h
    | some ρ2 =>
      rw [e2] at h
      have h : some ρ2 = some ρ' := h
      cases h
      rw [(put_some e2).2, (put_some e1).2]
theorem mix3 {ρ ρ' : Env} {i j l : Nat} {d e f : LD.D} (h : putMix ρ [(i, false), (j, false), (l, false)] [d, e, f] = some ρ') : ρ' = ((ρ.set i (.val d)).set j (.val e)).set l (.val f) := by
  unfold putMix at h
  cases e1 : ρ.put i d with
  | none => rw [e1] at h; cases h
  | some ρ1 =>
    rw [e1] at h
    have h : putMix ρ1 [(j, false), (l, false)] [e, f] = some ρ' := h
    rw [mix2 h, (put_some e1).2]
theorem evs_len : ∀ {es : Exs} {xs : List Expr} {ρ : Env} {μ μ' : Store} {ds : List LD.D}, chks N T sc es xs = true → evs G es ρ μ = .ok ds μ' → ds.length = xs.length
  | .nil, [], ρ, μ, μ', ds, _, e => by
    have e : (Out.ok [] μ : Out (List LD.D)) = .ok ds μ' := e
    cases e
    rfl
  | .nil, _ :: _, _, _, _, _, h, _ => by simp [chks] at h
  | .cons e es, [], _, _, _, _, h, _ => by simp [chks] at h
  | .cons e es, x :: xs, ρ, μ, μ', ds, h, q => by
    obtain ⟨_, _, h3⟩ := and3 (show (chk N T sc e x && notStar x && chks N T sc es xs) = true from h)
    obtain ⟨d, μ1, _, q1⟩ := bind_ok_inv (show (ev G e ρ μ).bind _ = .ok ds μ' from q)
    obtain ⟨dr, μ2, q2, q3⟩ := bind_ok_inv q1
    cases q3
    rw [List.length_cons, List.length_cons, evs_len h3 q2]
theorem putMix_len {ρ' : Env} : ∀ {is : List (Nat × Bool)} {ds : List LD.D} {ρ : Env}, putMix ρ is ds = some ρ' → ds.length = is.length
  | [], [], _, _ => rfl
  | [], _ :: _, _, h => by simp [putMix] at h
  | (_, false) :: _, [], _, h => by simp [putMix] at h
  | (_, true) :: _, [], _, h => by simp [putMix] at h
  | (i, false) :: is, d :: ds, ρ, h => by
    unfold putMix at h
    cases e1 : ρ.put i d with
    | none => rw [e1] at h; cases h
    | some ρ1 =>
      rw [e1] at h
      rw [List.length_cons, List.length_cons, putMix_len (show putMix ρ1 is ds = some ρ' from h)]
  | (i, true) :: is, d :: ds, ρ, h => by
    cases d with
    | lst xs =>
      unfold putMix at h
      split at h
      · rw [List.length_cons, List.length_cons, putMix_len h]
      · cases h
    | _ => simp [putMix] at h
theorem fresh_only {e : Ex} (h : isFresh e = true) : ListOnly G e := fun ρ μ d μ' q => by
  cases e with
  | lst es =>
    obtain ⟨ds, μ1, _, q2⟩ := bind_ok_inv (show (evs G es ρ μ).bind _ = .ok d μ' from q)
    split at q2
    · cases q2
      exact ⟨ds, rfl⟩
    · cases q2
  | blt f es =>
    cases f with
    | list1 =>
      obtain ⟨ds, μ1, _, q2⟩ := bind_ok_inv (show (evs G es ρ μ).bind _ = .ok d μ' from q)
      match ds, q2 with
      | [], q2 => cases q2
      | [x], q2 =>
        cases x with
        | tup xs => cases q2; exact ⟨xs, rfl⟩
        | lst xs => cases q2; exact ⟨xs, rfl⟩
        | str z => cases q2; exact ⟨_, rfl⟩
        | _ => cases q2
      | x :: _ :: _, q2 => cases x <;> cases q2
    | _ => exact absurd h Bool.false_ne_true
  | _ => exact absurd h Bool.false_ne_true
theorem mixO {ρ ρ' : Env} {i j : Nat} {xs : List LD.D} {e : LD.D} (h : putMix ρ [(i, true), (j, false)] [.lst xs, e] = some ρ') : ρ' = (ρ.set i (.own xs)).set j (.val e) := by
  unfold putMix at h
  split at h
  · unfold putMix at h
    cases e2 : Env.put (List.set ρ i (.own xs)) j e with
    | none => rw [e2] at h; cases h
    | some ρ2 =>
      rw [e2] at h
      have h : some ρ2 = some ρ' := h
      cases h
      rw [(put_some e2).2]
  · cases h
theorem ss_par (is : List (Nat × Bool)) (es : Exs) : SS ga G N T sc fuel (.par is es) := by
  intro X st W C h
  cases st with
  | Assign ts x pos =>
    have h : parC N T sc is es ts x = true := h
    unfold parC at h
    split at h
    next i j x px y py k p a b k2 p2 _ =>
      have h : (decide (N[i]? = some x) && decide (N[j]? = some y) && parOk sc x && parOk sc y && decide (x ≠ y) && decide (px.line = py.line) && chks N T sc es [a, b] && !allConst [a, b] && !allAlone [a, b]) = true := h
      simp only [Bool.and_eq_true] at h
      obtain ⟨⟨⟨⟨⟨⟨⟨⟨h1, h2⟩, h3⟩, h4⟩, h5⟩, h6⟩, h7⟩, h8⟩, h9⟩ := h
      have h1 := of_decide_eq_true h1
      have h2 := of_decide_eq_true h2
      have h3 : X.env.scope.names.lookup x = some .local := by rw [C.hsc]; exact of_decide_eq_true h3
      have h4 : X.env.scope.names.lookup y = some .local := by rw [C.hsc]; exact of_decide_eq_true h4
      have h5 := of_decide_eq_true h5
      have h6 := of_decide_eq_true h6
      have hij : i ≠ j := fun e => by subst e; rw [h1] at h2; exact h5 (Option.some.inj h2)
      refine (ps_par (i := i) (j := j) C.gc.calm (by rw [C.gc.hN]; exact C.gc.nd) (by rw [C.gc.hN]; exact h1) (by rw [C.gc.hN]; exact h2) hij h3 h4 ((sounds es).1 X sc [a, b] W C.gc C.tk h7)
        (swS_two C.gc.kind h3 h4 h5 h6 (chks_star h7) (by simpa using h8) (by simpa using h9)) (sw_sole rfl)).mono fun D σ H ⟨B, ms, Γ, μ, ρ, F, q⟩ => ?_
      refine stFA F q fun ds μ1 vs H1 ms1 Γ1 F1 A r q1 => ?_
      obtain ⟨ρ', e1, q9⟩ := q1.opt
      clear q1
      have hl := putMix_len e1
      match ds, hl, e1, r with
      | [d, e], _, e1, r =>
        obtain ⟨v, r1, rfl, g1, r⟩ := r.cons_iff
        obtain ⟨w, r2, rfl, g2, r⟩ := r.cons_iff
        rw [r.nil_iff]
        rw [mix2 e1] at q9
        exact ⟨v, w, rfl, q9 _ _ _ _ ((F1.put g1).put g2)⟩
    next i j l x px y py z pz k p a b c k2 p2 _ =>
      have h : (decide (N[i]? = some x) && decide (N[j]? = some y) && decide (N[l]? = some z) && parOk sc x && parOk sc y && parOk sc z && decide (x ≠ y) && decide (x ≠ z) && decide (y ≠ z) && decide (px.line = py.line) && decide (px.line = pz.line) && chks N T sc es [a, b, c] && !allConst [a, b, c] && !allAlone [a, b, c]) = true := h
      simp only [Bool.and_eq_true] at h
      obtain ⟨⟨⟨⟨⟨⟨⟨⟨⟨⟨⟨⟨⟨h1, h2⟩, h2'⟩, h3⟩, h4⟩, h4'⟩, h5⟩, h5'⟩, h5''⟩, h6⟩, h6'⟩, h7⟩, h8⟩, h9⟩ := h
      have h1 := of_decide_eq_true h1
      have h2 := of_decide_eq_true h2
      have h2' := of_decide_eq_true h2'
      have h3 : X.env.scope.names.lookup x = some .local := by rw [C.hsc]; exact of_decide_eq_true h3
      have h4 : X.env.scope.names.lookup y = some .local := by rw [C.hsc]; exact of_decide_eq_true h4
      have h4' : X.env.scope.names.lookup z = some .local := by rw [C.hsc]; exact of_decide_eq_true h4'
      have h5 := of_decide_eq_true h5
      have h5' := of_decide_eq_true h5'
      have h5'' := of_decide_eq_true h5''
      have hij : i ≠ j := fun e => by subst e; rw [h1] at h2; exact h5 (Option.some.inj h2)
      have hil : i ≠ l := fun e => by subst e; rw [h1] at h2'; exact h5' (Option.some.inj h2')
      have hjl : j ≠ l := fun e => by subst e; rw [h2] at h2'; exact h5'' (Option.some.inj h2')
      refine (ps_par3 (i := i) (j := j) (l := l) C.gc.calm (by rw [C.gc.hN]; exact C.gc.nd) (by rw [C.gc.hN]; exact h1) (by rw [C.gc.hN]; exact h2) (by rw [C.gc.hN]; exact h2') hij hil hjl h3 h4 h4' ((sounds es).1 X sc [a, b, c] W C.gc C.tk h7)
        (swS_three C.gc.kind h3 h4 h4' h5 h5' h5'' (of_decide_eq_true h6) (of_decide_eq_true h6') (chks_star h7) (by simpa using h8) (by simpa using h9)) (sw_sole rfl)).mono fun D σ H ⟨B, ms, Γ, μ, ρ, F, q⟩ => ?_
      refine stFA F q fun ds μ1 vs H1 ms1 Γ1 F1 A r q1 => ?_
      obtain ⟨ρ', e1, q9⟩ := q1.opt
      clear q1
      have hl := putMix_len e1
      match ds, hl, e1, r with
      | [d, e, f], _, e1, r =>
        obtain ⟨v, r1, rfl, g1, r⟩ := r.cons_iff
        obtain ⟨w, r2, rfl, g2, r⟩ := r.cons_iff
        obtain ⟨u, r3, rfl, g3, r⟩ := r.cons_iff
        rw [r.nil_iff]
        rw [mix3 e1] at q9
        exact ⟨v, w, u, rfl, q9 _ _ _ _ (((F1.put g1).put g2).put g3)⟩
    next i j x px y py k p a b k2 p2 _ =>
      have h : (decide (N[i]? = some x) && decide (N[j]? = some y) && parOk sc x && parOk sc y && decide (x ≠ y) && decide (px.line = py.line) && parOwn N T sc es a b && !allConst [a, b] && !allAlone [a, b]) = true := h
      simp only [Bool.and_eq_true] at h
      obtain ⟨⟨⟨⟨⟨⟨⟨⟨h1, h2⟩, h3⟩, h4⟩, h5⟩, h6⟩, h7⟩, h8⟩, h9⟩ := h
      have h1 := of_decide_eq_true h1
      have h2 := of_decide_eq_true h2
      have h3 : X.env.scope.names.lookup x = some .local := by rw [C.hsc]; exact of_decide_eq_true h3
      have h4 : X.env.scope.names.lookup y = some .local := by rw [C.hsc]; exact of_decide_eq_true h4
      have h5 := of_decide_eq_true h5
      have h6 := of_decide_eq_true h6
      have hij : i ≠ j := fun e => by subst e; rw [h1] at h2; exact h5 (Option.some.inj h2)
      unfold parOwn at h7
      split at h7
      next e1 e2 _ =>
        simp only [Bool.and_eq_true] at h7
        obtain ⟨⟨⟨⟨f1, f2⟩, f3⟩, f4⟩, f5⟩ := h7
        have hst : [a, b].all notStar = true := by
          show (notStar a && (notStar b && true)) = true
          rw [f3, f5]; rfl
        refine (ps_par (i := i) (j := j) C.gc.calm (by rw [C.gc.hN]; exact C.gc.nd) (by rw [C.gc.hN]; exact h1) (by rw [C.gc.hN]; exact h2) hij h3 h4
          (pa_cons (sf_fresh (G := G) (T := T) (N := N) (ga := ga) (W := W) f1 C.gc C.tk f2) (pa_cons ((sound e2).1 X sc b W C.gc C.tk f4) pa_nil (star_cons b [] X.env f5)) (star_cons a [b] X.env f3))
          (swS_two C.gc.kind h3 h4 h5 h6 hst (by simpa using h8) (by simpa using h9)) (sw_sole rfl)).mono fun D σ H ⟨B, ms, Γ, μ, ρ, F, q⟩ => ?_
        have q : FP X ga B (Fl.of ρ ((ev G e1 ρ μ).bind fun d μ => ((ev G e2 ρ μ).bind fun d μ => (Out.ok [] μ : Out (List LD.D)).bind fun ds μ => .ok (d :: ds) μ).bind fun ds μ => .ok (d :: ds) μ) fun ds μ => Fl.opt (putMix ρ [(i, true), (j, false)] ds) μ) W D := q
        refine ⟨ms, Γ, μ, ρ, F.si, F.er, ?_⟩
        cases q1 : ev G e1 ρ μ with
        | bad => rw [q1] at q; exact q
        | exc c fs μ1 =>
          rw [q1] at q
          exact fun cls dd H' ms' Γ' A r => q ms' Γ' σ H' cls dd (F.step A) r
        | ok d μ1 =>
          rw [q1] at q
          obtain ⟨xs, rfl⟩ := fresh_only (G := G) f1 ρ μ d μ1 q1
          intro p vs H1 ms1 Γ1 A g1 g2 g3 g4 g5 g6
          refine ⟨ms1, Γ1, μ1, ρ, A.si, (F.step A).er, ?_⟩
          cases q2 : ev G e2 ρ μ1 with
          | bad => rw [Out.bind_ok, q2] at q; exact q
          | exc c fs μ2 =>
            rw [Out.bind_ok, q2] at q
            exact fun cls dd H' ms' Γ' A2 r => q ms' Γ' σ H' cls dd ((F.step A).step A2) r
          | ok d2 μ2 =>
            rw [Out.bind_ok, q2] at q
            intro w H2 ms2 Γ2 A2 r2
            obtain ⟨ρ', e3, q⟩ := FP.opt (show FP X ga B (Fl.opt (putMix ρ [(i, true), (j, false)] [.lst xs, d2]) μ2) W D from q)
            rw [mixO e3] at q
            have k1 := A2.keep _ _ g1 g3
            have k2 : Γ2 p = none := by
              cases e : Γ2 p with
              | none => rfl
              | some u =>
                rcases A2.newg _ _ e with z | z
                · rw [g2] at z; cases z
                · rw [g1] at z; cases z
            have k3 : p ∉ ms2 := fun hm => by
              rcases A2.newm _ hm with z | z
              · exact g3 z
              · rw [g1] at z; cases z
            exact ⟨.ref p, w, rfl, q _ _ _ _ ((F.newOwn (A.trans A2) k1 k2 k3 g4 g5 (g6.mono A2.le A2.pre)).put r2)⟩
      next => exact absurd h7 Bool.false_ne_true
    next => exact absurd h Bool.false_ne_true
  | _ => exact absurd h (by simp [chkS])
theorem ss_brk : SS ga G N T sc fuel .brk := by
  intro X st W C h
  cases st with
  | Break pos => exact ps_break.mono fun D σ H ⟨B, ms, Γ, μ, ρ, F, q⟩ => q _ _ _ _ F
  | _ => exact absurd h (by simp [chkS])
theorem ss_cont : SS ga G N T sc fuel .cont := by
  intro X st W C h
  cases st with
  | Continue pos => exact ps_continue.mono fun D σ H ⟨B, ms, Γ, μ, ρ, F, q⟩ => q _ _ _ _ F
  | _ => exact absurd h (by simp [chkS])
theorem ss_pass : SS ga G N T sc fuel .pass := by
  intro X st W C h
  cases st with
  | Pass pos => exact ps_pass.mono fun D σ H ⟨B, ms, Γ, μ, ρ, F, q⟩ => q _ _ _ _ F
  | _ => exact absurd h (by simp [chkS])
theorem ss_raise (c : Str) (es : Exs) : SS ga G N T sc fuel (.raise_ c es) := by
  intro X st W C h
  exact ps_never.mono fun D σ H ⟨B, ms, Γ, μ, ρ, F, q⟩ => q
theorem ss_rais (c : Str) : SS ga G N T sc fuel (.rais c) := by
  intro X st W C h
  cases st with
  | Raise e cause pos =>
   obtain ⟨x, m, j, p, p2, p3, rfl, rfl, h1, h2, h3, h4⟩ := raisC_ok (show raisC T sc c e cause = true from h)
   subst h1
   have Xc := C.gc.xc _ h2
   refine (ps_raise C.gc.calm C.tk (pmk_own (bmB := He.veBase) PySem.F.excBase_ValueError Xc.exc Xc.mg Xc.keep (raises_own Xc.sub Xc.ty) (C.gc.gl _ h3) (okName_debug h4).1)).mono fun D σ H ⟨B, ms, Γ, μ, ρ, F, q⟩ => ?_
   exact q ms Γ σ H _ none F ⟨rfl, .inl rfl⟩
  | _ => exact absurd (show false = true from h) Bool.false_ne_true
theorem scx_tr (C : SCx ga G N T sc X W) {pn : List (Addr × Obj)} {xe : Value → Shared → Prop} {W' : WX} (tk : Takes (X.tr pn xe) W') (po : PassesOwn (model X.prog X.w) X.A X.env xe) : SCx ga G N T sc (X.tr pn xe) W' :=
  ⟨⟨C.gc.hN, C.gc.nd, C.gc.kind, C.gc.vis, C.gc.loc, C.gc.cf, C.gc.gl, C.gc.calm, C.gc.hu, C.gc.blt, C.gc.con, fun f n h hn => ⟨(C.gc.fn f n h hn).ex⟩, C.gc.xc⟩, C.hsc, C.fn, tk, po, C.hs, C.hf⟩
theorem ss_try {body : Sms} (hb : SSs ga G N T sc fuel body) (c z : Str) : SS ga G N T sc fuel (.try_ body c z) := by
  intro X st W C h
  have key : ∃ b hs els fin pos, st = .Try b hs els fin pos ∧ (tryC T sc c z hs els fin && chkSs N T sc body b) = true := by
    cases st with
    | Try b hs els fin pos => exact ⟨_, _, _, _, _, rfl, h⟩
    | _ => exact absurd (show false = true from h) Bool.false_ne_true
  obtain ⟨b, hs, els, fin, pos, rfl, h2⟩ := key
  obtain ⟨hq, h7⟩ := Bool.and_eq_true_iff.mp h2
  obtain ⟨x, y, j, p1, p2, p3, p4, rfl, rfl, rfl, h1, hmem, h3, h4, h5, hz⟩ := tryC_ok hq
  subst h1 h5
  rw [line_eq] at hz
  have Xc := C.gc.xc _ hmem
  refine (ps_try_only (tb := fun W => tSs X ga G fuel W body) (ts := fun _ _ _ => tRet (tC (.str y))) C.hs C.hf (c := .ref (ga x)) ⟨C.gc.gl _ h3, (okName_debug h4).1, .inl Xc.mg⟩ C.tk (fun W' pn xe tk po => hb (X.tr pn xe) b W' (scx_tr C tk po) h7)
    (fun a oe cls d pn _ _ => pss_one (ps_ret pe_str))).mono fun D σ H ⟨B, ms, Γ, μ, ρ, F, q⟩ => ?_
  refine ⟨B, ms, Γ, μ, ρ, F, ?_⟩
  have q : FP X ga B (match exSs G fuel body ρ μ with
    | .exc (.glob x') _ _ μ => if x' = x then .ret (.str y) μ else .bad
    | .exc _ _ _ _ => .bad
    | r => r) W D := q
  cases e1 : exSs G fuel body ρ μ with
  | nx ρ1 μ1 => rw [e1] at q; exact q
  | ret d μ1 => rw [e1] at q; exact q
  | brk ρ1 μ1 => rw [e1] at q; exact q
  | cont ρ1 μ1 => rw [e1] at q; exact q
  | bad => rw [e1] at q; exact q
  | exc c' fs ρ1 μ1 =>
    rw [e1] at q
    cases c' with
    | glob x' =>
      have q : FP X ga B (if x' = x then .ret (.str y) μ1 else .bad) W D := q
      by_cases hx : x' = x
      · subst hx
        rw [if_pos rfl] at q
        intro ms1 Γ1 σ1 H1 cls dd F1 r1
        have ec : cls = .ref (ga x') := r1.1
        subst ec
        refine ⟨true, Xc.exm, fun _ a _ => ?_, fun hb => Bool.noConfusion hb⟩
        exact q ms1 Γ1 _ H1 F1.af F1.le F1.pre (by unfold Rep; exact ⟨rfl, hz⟩)
      · rw [if_neg hx] at q
        exact q.elim
    | _ => exact q.elim
theorem ss_fre (i : Nat) : SS ga G N T sc fuel (.fre i) := by
  intro X st W C h
  cases st <;> exact absurd h (by simp [chkS])
theorem sss_nil : SSs ga G N T sc fuel .nil := by
  intro X sts W C h
  cases sts with
  | nil => exact pss_nil.mono fun D σ H ⟨B, ms, Γ, μ, ρ, F, q⟩ => q _ _ _ _ F
  | cons _ _ => exact absurd h (by simp [chkSs])
theorem sss_cons {s : Sm} {ss : Sms} (hf : ∀ i, s ≠ .fre i) (h1 : SS ga G N T sc fuel s) (h2 : SSs ga G N T sc fuel ss) : SSs ga G N T sc fuel (.cons s ss) := by
  intro X sts W C h
  cases sts with
  | nil => exact absurd h (by cases s <;> first | exact absurd rfl (hf _) | simp [chkSs])
  | cons st sts =>
    have h : (chkS N T sc s st && chkSs N T sc ss sts) = true := by
      cases s <;> first | exact absurd rfl (hf _) | exact h
    have h := Bool.and_eq_true_iff.mp h
    refine (pss_cons (h1 X st W C h.1) (h2 X sts W C h.2)).mono fun D σ H ⟨B, ms, Γ, μ, ρ, F, q⟩ => ⟨B, ms, Γ, μ, ρ, F, ?_⟩
    have q : FP X ga B ((exS G fuel s ρ μ).next fun ρ μ => exSs G fuel ss ρ μ) W D := q
    cases e1 : exS G fuel s ρ μ with
    | nx ρ1 μ1 =>
      rw [e1] at q
      exact fun ms1 Γ1 σ1 H1 F1 => ⟨B, ms1, Γ1, μ1, ρ1, F1, q⟩
    | ret d μ1 => rw [e1] at q; exact q
    | brk ρ1 μ1 => rw [e1] at q; exact q
    | cont ρ1 μ1 => rw [e1] at q; exact q
    | exc c fs ρ1 μ1 => rw [e1] at q; exact q
    | bad => rw [e1] at q; exact q
theorem sss_fre (i : Nat) {ss : Sms} (h2 : SSs ga G N T sc fuel ss) : SSs ga G N T sc fuel (.cons (.fre i) ss) := by
  intro X sts W C h
  have h : chkSs N T sc ss sts = true := by cases sts <;> exact h
  refine (h2 X sts W C h).mono fun D σ H ⟨B, ms, Γ, μ, ρ, F, q⟩ => ?_
  have q : FP X ga B ((match ρ[i]? with
    | some (.own xs) => (.nx (ρ.set i (.val (.lst xs))) μ : Fl)
    | _ => .bad).next fun ρ μ => exSs G fuel ss ρ μ) W D := q
  split at q
  · rename_i xs eo
    obtain ⟨Γ', F'⟩ := F.give eo
    exact ⟨B, ms, Γ', μ, _, F', q⟩
  · exact False.elim q
mutual
theorem soundS : ∀ s : Sm, SS ga G N T sc fuel s
  | .expr e => ss_expr e
  | .asg (.name i) e => ss_asgN i e
  | .asg (.tup is) e => ss_asgT is e
  | .own i e => ss_own i e
  | .app i e => ss_app i e
  | .seti i k e => ss_seti i k e
  | .setl o k e => ss_setl o k e
  | .par is es => ss_par is es
  | .ret e => ss_ret e
  | .retn => ss_retn
  | .ite c a b => ss_ite c (soundSs a) (soundSs b)
  | .for_ t k its body => ss_for t k its (soundSs body)
  | .while_ c body => ss_while c (soundSs body)
  | .raise_ c es => ss_raise c es
  | .rais c => ss_rais c
  | .try_ b c z => ss_try (soundSs b) c z
  | .brk => ss_brk
  | .cont => ss_cont
  | .pass => ss_pass
  | .fre i => ss_fre i
theorem soundSs : ∀ ss : Sms, SSs ga G N T sc fuel ss
  | .nil => sss_nil
  | .cons (.fre i) ss => sss_fre i (soundSs ss)
  | .cons (.expr e) ss => sss_cons (fun _ => nofun) (soundS _) (soundSs ss)
  | .cons (.asg t e) ss => sss_cons (fun _ => nofun) (soundS _) (soundSs ss)
  | .cons (.own i e) ss => sss_cons (fun _ => nofun) (soundS _) (soundSs ss)
  | .cons (.app i e) ss => sss_cons (fun _ => nofun) (soundS _) (soundSs ss)
  | .cons (.seti i k e) ss => sss_cons (fun _ => nofun) (soundS _) (soundSs ss)
  | .cons (.setl i k e) ss => sss_cons (fun _ => nofun) (soundS _) (soundSs ss)
  | .cons (.par i k) ss => sss_cons (fun _ => nofun) (soundS _) (soundSs ss)
  | .cons (.ret e) ss => sss_cons (fun _ => nofun) (soundS _) (soundSs ss)
  | .cons .retn ss => sss_cons (fun _ => nofun) (soundS _) (soundSs ss)
  | .cons (.ite c a b) ss => sss_cons (fun _ => nofun) (soundS _) (soundSs ss)
  | .cons (.for_ t k i b) ss => sss_cons (fun _ => nofun) (soundS _) (soundSs ss)
  | .cons (.while_ c b) ss => sss_cons (fun _ => nofun) (soundS _) (soundSs ss)
  | .cons (.raise_ c b) ss => sss_cons (fun _ => nofun) (soundS _) (soundSs ss)
  | .cons (.rais c) ss => sss_cons (fun _ => nofun) (soundS _) (soundSs ss)
  | .cons (.try_ b c z) ss => sss_cons (fun _ => nofun) (soundS _) (soundSs ss)
  | .cons .brk ss => sss_cons (fun _ => nofun) (soundS _) (soundSs ss)
  | .cons .cont ss => sss_cons (fun _ => nofun) (soundS _) (soundSs ss)
  | .cons .pass ss => sss_cons (fun _ => nofun) (soundS _) (soundSs ss)
end
end
end LD

set_option Elab.async false
set_option linter.all false
set_option maxRecDepth 100000
set_option maxHeartbeats 2000000
/-! LD12: functions keep their promises. -/
namespace LD
open PySem PySem.Spec PyProof.Rows L2 HT

/-- a def behind the top: its object, and that its body is the term b -/
structure DefOk (K : PySem.W.Frag) (mg : Str → Option Value) (T : List (Str × Nat)) (f : Str) (b : Fn) : Prop where
  ex : ∃ (a : Addr) (fd : FuncData) (nm qual : Str) (params : Arguments) (body : List Stmt) (scope : Scope) (N : List Str), mg f = some (.ref a) ∧ FunD K nm qual params body scope [] [] a fd ∧ Binds K fd (N.take b.ps) [] ∧
    FnScope N (N.take b.ps) scope ∧ N.length = b.n ∧ b.ps ≤ b.n ∧ chkSs N T scope b.body body = true
section
variable {P : Program} {w : World} {K : PySem.W.Frag} {mg : Str → Option Value} {base : Heap} {ga : Str → Addr} {con : Str → Option D} {fn : Str → Option Fn} {fuel : Nat} {T : List (Str × Nat)}
theorem start_er {K : PySem.W.Frag} {ms : List Addr} {Γ H : Hp} {ds : List D} {vs : List V} {N : List Str} {b : Fn} (r : Reps K ga ms Γ ds vs) (hl : ds.length = b.ps) (hn : N.length = b.n) (hp : b.ps ≤ b.n) : ER K ga ms Γ H (ds.map Slot.val ++ List.replicate (b.n - b.ps) Slot.no) (L2.start N vs) := by
  have hv := r.length
  have noown : ∀ (i : Nat) (xs : List D), (ds.map Slot.val ++ List.replicate (b.n - b.ps) Slot.no)[i]? ≠ some (.own xs) := by
    intro i xs e
    by_cases hi : i < ds.length
    · rw [List.getElem?_append_left (by simpa using hi), List.getElem?_map] at e
      cases q : ds[i]? with
      | none => rw [q] at e; cases e
      | some d => rw [q] at e; cases e
    · rw [List.getElem?_append_right (by simpa using hi), List.getElem?_replicate] at e
      split at e <;> cases e
  refine ⟨?_, fun i s ov e1 e2 => ?_, fun i j xs ys a c ne e1 _ _ _ => absurd e1 (noown i xs)⟩
  · unfold L2.start
    simp only [List.length_append, List.length_map, List.length_replicate]
    omega
  · by_cases hi : i < ds.length
    · rw [List.getElem?_append_left (by simpa using hi), List.getElem?_map] at e1
      cases q : ds[i]? with
      | none => rw [q] at e1; cases e1
      | some d =>
        rw [q] at e1
        cases e1
        obtain ⟨v, q2, q3⟩ := r.get q
        unfold L2.start at e2
        rw [List.getElem?_append_left (by rw [List.length_map, ← hv]; exact hi), List.getElem?_map, q2] at e2
        cases e2
        exact ⟨v, rfl, q3⟩
    · rw [List.getElem?_append_right (by simpa using hi), List.getElem?_replicate] at e1
      split at e1
      · cases e1; trivial
      · cases e1
theorem visC_ok {sc : Scope} {x : Str} (h : visC sc x = true) : Vis sc x := by
  unfold visC at h
  split at h
  · rename_i e; exact .inl e
  · rename_i e; exact .inr (.inl e)
  · rename_i e; exact .inr (.inr e)
  · cases h
theorem locC_ok {sc : Scope} {x : Str} (h : locC sc x = true) : Loc sc x := by
  unfold locC at h
  split at h
  · rename_i e; exact .inl e
  · rename_i e; exact .inr e
  · cases h
theorem cfC_ok {sc : Scope} {x : Str} (h : cfC sc x = true) : sc.names.lookup x = some .cell ∨ sc.names.lookup x = some .free := by
  unfold cfC at h
  split at h
  · rename_i e; exact .inl e
  · rename_i e; exact .inr e
  · cases h
theorem glC_ok {sc : Scope} {x : Str} (h : glC sc x = true) : sc.names.lookup x = some .globalImplicit := by
  unfold glC at h
  split at h
  · rename_i e; exact e
  · cases h
/-- what the world holds: the defs, the constants, the built-in names -/
structure Wd (K : PySem.W.Frag) (mg : Str → Option Value) (ga : Str → Addr) (con : Str → Option D) (fn : Str → Option Fn) (T : List (Str × Nat)) : Prop where
  defs : ∀ f n, (f, n) ∈ T → n ≠ 1000 → ∃ b, fn f = some b ∧ b.ps = n ∧ DefOk K mg T f b
  blt : ∀ x ∈ bltNames, mg x = none
  con : ∀ x d, con x = some d → ∃ u v, mg x = some u ∧ RelV v u ∧ ∀ ms, Rep K ga ms (fun _ => none) d v
  xc : ∀ c, (c, 1000) ∈ T → XcAt K mg ga c
abbrev FnAll (P : Program) (w : World) (K : PySem.W.Frag) (mg : Str → Option Value) (base : Heap) (ga : Str → Addr) (con : Str → Option D) (fn : Str → Option Fn) (fuel : Nat) (T : List (Str × Nat)) (d : Nat) : Prop :=
  ∀ (f : Str) (n : Nat), (f, n) ∈ T → n ≠ 1000 → ∃ (a : Addr) (fd : FuncData) (ps : List Str), mg f = some (.ref a) ∧ PySem.W.keepIn K (.ref a) = true ∧ ps.length = n ∧
    FnOk P w K mg base (L2.CX P w) d a fd ps (spC K ga (callD con fn fuel d f)) ∧ Binds K fd ps []
theorem fn_step (Y : Wd K mg ga con fn T) {d : Nat} (ih : FnAll P w K mg base ga con fn fuel T d) {f : Str} {b : Fn} (hb : fn f = some b) {a : Addr} {fd : FuncData} {nm qual : Str} {params : Arguments} {body : List Stmt} {scope : Scope} {N : List Str}
    (F : FunD K nm qual params body scope [] [] a fd) (S : FnScope N (N.take b.ps) scope) (h5 : N.length = b.n) (h6 : b.ps ≤ b.n) (h7 : chkSs N T scope b.body body = true) : FnOk P w K mg base (L2.CX P w) (d + 1) a fd (N.take b.ps) (spC K ga (callD con fn fuel (d + 1) f)) := by
  have hpl : (N.take b.ps).length = b.ps := by rw [List.length_take, h5]; omega
  have eq : ∀ ds μ, callD con fn fuel (d + 1) f ds μ = runF ⟨con, callD con fn fuel d⟩ fuel b ds μ := fun ds μ => by
    show (match fn f with
      | some b => runF ⟨con, callD con fn fuel d⟩ fuel b ds μ
      | none => .bad) = _
    rw [hb]
  have len : ∀ vs H Q E, spC K ga (callD con fn fuel (d + 1) f) vs H Q E → vs.length = (N.take b.ps).length := fun vs H Q E ⟨ms, Γ, μ, ds, _, r, z⟩ => by
    rw [eq] at z
    unfold runF at z
    by_cases hl : ds.length = b.ps
    · rw [hpl, ← hl, r.length]
    · rw [if_neg hl] at z
      exact z.elim
  refine F.ok S len fun cdv A outer s H vs Q E hr hsp => ?_
  have tk : Takes (cxOf (L2.CX P w) P w K mg base N qual scope a cdv A outer s H E) (fun cls dd _ H => E cls dd H) := takes_of rfl rfl rfl rfl
  have po : PassesOwn (model P w) (cxOf (L2.CX P w) P w K mg base N qual scope a cdv A outer s H E).A (cxOf (L2.CX P w) P w K mg base N qual scope a cdv A outer s H E).env (cxOf (L2.CX P w) P w K mg base N qual scope a cdv A outer s H E).xe := passes_of (X := cxOf (L2.CX P w) P w K mg base N qual scope a cdv A outer s H E) rfl
  have gc : GC (cxOf (L2.CX P w) P w K mg base N qual scope a cdv A outer s H E) ga ⟨con, callD con fn fuel d⟩ N T scope := by
    refine ⟨rfl, S.nd, S.kind, fun x h => visC_ok h, fun x h => ⟨locC_ok h, .inl rfl⟩, fun x h => cfC_ok h, fun x h => glC_ok h, rfl, hr.units, Y.blt, Y.con, fun g m hg hn => ?_, Y.xc⟩
    obtain ⟨a', fd', ps', g1, g2, g3, g4, g5⟩ := ih g m hg hn
    exact ⟨d, a', fd', ps', g1, g2, g3, g4, hr, g5⟩
  refine ⟨_, soundSs (fuel := fuel) b.body (cxOf (L2.CX P w) P w K mg base N qual scope a cdv A outer s H E) body _ ⟨gc, rfl, fun _ => rfl, tk, po, rfl, rfl⟩ h7, ?_⟩
  obtain ⟨ms, Γ, μ, ds, si, r, z⟩ := hsp
  rw [eq] at z
  unfold runF at z
  by_cases hl : ds.length = b.ps
  · rw [if_pos hl] at z
    refine ⟨⟨ms, Γ, H, ms, Γ⟩, ms, Γ, μ, _, ⟨After.refl si, fun _ _ e => e, List.prefix_rfl, start_er r hl h5 h6, fun i xs a' e => ?_⟩, ?_⟩
    · exfalso
      by_cases hi : i < ds.length
      · rw [List.getElem?_append_left (by simpa using hi), List.getElem?_map] at e
        cases q : ds[i]? with
        | none => rw [q] at e; cases e
        | some d => rw [q] at e; cases e
      · rw [List.getElem?_append_right (by simpa using hi), List.getElem?_replicate] at e
        split at e <;> cases e
    · cases e : exSs ⟨con, callD con fn fuel d⟩ fuel b.body (ds.map Slot.val ++ List.replicate (b.n - b.ps) Slot.no) μ with
      | nx ρ' μ' =>
        rw [e] at z
        exact fun ms' Γ' σ' H' F' => z _ _ _ _ F'.af (by unfold Rep; rfl)
      | ret d' μ' =>
        rw [e] at z
        exact fun ms' Γ' v H' A' _ _ r' => z v H' ms' Γ' A' r'
      | exc c fs ρ' μ' =>
        rw [e] at z
        exact fun ms' Γ' σ' H' cls dd F' r' => z cls dd H' ms' Γ' F'.af r'
      | brk ρ' μ' => rw [e] at z; exact z.elim
      | cont ρ' μ' => rw [e] at z; exact z.elim
      | bad => rw [e] at z; exact z.elim
  · rw [if_neg hl] at z
    exact z.elim
theorem fn_ok (Y : Wd K mg ga con fn T) : ∀ (d : Nat) (f : Str) (n : Nat), (f, n) ∈ T → n ≠ 1000 → ∃ (a : Addr) (fd : FuncData) (ps : List Str), mg f = some (.ref a) ∧ PySem.W.keepIn K (.ref a) = true ∧ ps.length = n ∧
    FnOk P w K mg base (L2.CX P w) d a fd ps (spC K ga (callD con fn fuel d f)) ∧ Binds K fd ps []
  | 0, f, n, h, hn0 => by
    obtain ⟨b, hb, hn, ⟨a, fd, nm, qual, params, body, scope, N, h1, F, h3, S, h5, h6, h7⟩⟩ := Y.defs f n h hn0
    have no : ∀ vs H Q E, ¬ spC K ga (callD con fn fuel 0 f) vs H Q E := fun vs H Q E ⟨ms, Γ, μ, ds, _, _, z⟩ => z
    exact ⟨a, fd, N.take b.ps, h1, F.kp, by rw [List.length_take, h5, ← hn]; omega, ⟨fun vs H Q E z => (no _ _ _ _ z).elim, fun A outer s H args us vs Q E _ _ _ _ z => (no _ _ _ _ z).elim⟩, h3⟩
  | d + 1, f, n, h, hn0 => by
    obtain ⟨b, hb, hn, ⟨a, fd, nm, qual, params, body, scope, N, h1, F, h3, S, h5, h6, h7⟩⟩ := Y.defs f n h hn0
    exact ⟨a, fd, N.take b.ps, h1, F.kp, by rw [List.length_take, h5, ← hn]; omega, fn_step Y (fn_ok Y d) hb F S h5 h6 h7, h3⟩
/-- the law: called with its script -/
theorem law_sp {ns : List Int} {H : Hp} {a : Addr} {Q : VK} {E : XK} {c : List D → Store → Out D} (hz : ns.length ≤ sizeLine) (hS : SqL K H a (ns.map V.int)) {μ' : Store} (hc : c [.scr ns] [] = .ok (.bl true) μ') (hQ : ∀ H', Q (.bl true) H') : spC K ga c [.ref a] H Q E := by
  refine ⟨[], H, [], [.scr ns], ⟨fun _ _ e => e, rfl, fun l o a e => by simp at e, fun a h => (List.not_mem_nil h).elim, fun a h => (List.not_mem_nil h).elim, List.nodup_nil⟩, Reps.cons (by unfold Rep; exact ⟨a, rfl, hS, hz⟩) Reps.nil, ?_⟩
  rw [hc]
  intro v H' ms' Γ' A r
  unfold Rep at r
  rw [r]
  exact hQ H'
end
end LD

set_option Elab.async false
set_option linter.all false
set_option maxRecDepth 100000
set_option maxHeartbeats 2000000
/-! LD13: the head: what stands behind the top, and the end. -/
namespace LD
open PySem PySem.Spec PyProof.Rows L2 HT

theorem walk_ofL {l : PySem.W.OpenLaw} {n k : Nat} {q : Program} {loose : List Str} {XP : (Str → Option Value) → Heap → Prop} {YP : World → Heap → Prop} {d : DefRec} {CX : World → CXT} {x : Str}
    (hn : l.most = some n) (hn2 : n ≤ sizeLine) (hdf : d.params.defaults = []) (hr : Room k callerA)
    (F : ∀ (w : World) (mg : Str → Option Value) (fa : Addr) (h : Heap), YP w h → h.Ns mainGlobals mg → mg d.name = some (.ref fa) →
      ∃ (K : PySem.W.Frag) (fd : FuncData) (sp : Sp), K.In h ∧ (∀ (s : Shared) (u : Value), BindsTo s fd ⟨[u], []⟩ [(x, u)]) ∧
        (∀ (H : Hp) (a : Addr) (ns : List Int), ns.length ≤ n → Only H → SqL K H a (ns.map V.int) → sp [.ref a] H (fun v _ => v = .bl true) fun _ _ _ => False) ∧
        ∀ base : Heap, K.In base → base.Ns mainGlobals mg → FnOk l.prog w K mg base (CX w) k fa fd [x] sp)
    (hCX : ∀ (w : World) (H : Hp) (s : Shared) (e : Value) (s' : Shared), CX w [] H s (fun _ _ _ => False) e s' → False) :
    PySem.W.WalkO q loose XP YP l.row.toRowW d [] (fun f vs => PySem.call f vs) := by
  refine Att.attach_call hn hdf fun w s₀ s₁ mg mb fa o pm cd doc a vs ns G Y ho hd hcd hmg hobj hints hlen hg => ?_
  obtain ⟨K, fd, sp, KX, hb, hsp, hF⟩ := F w mg fa _ Y G.T.g hmg
  exact law_call KX G.T.g G.T.b G.T.builtins G.T.nolimit hg hobj hints (Nat.le_trans hlen hn2) hr hF hb (fun H hO hS => hsp H a ns hlen hO hS) fun H e s' => hCX w H s₁ e s'

/-! ### constants -/
mutual
def repB (K : PySem.W.Frag) : D → Value → Bool
  | .non, .none => true
  | .bl b, .bool c => b == c
  | .int i, .int j _ => decide (i = j)
  | .str s, .str t _ => decide (s = t) && decide (s.length ≤ LINE)
  | .tup xs, .ref a => (match K.lookup a with
    | some ⟨.type c, none, .seq its _, _⟩ => decide (c = "tuple") && (decide (its.size ≤ LINE) && repBs K xs its.toList)
    | _ => false)
  | .glob x, .ref a => decide (a = He.ga K x)
  | .ty n, .type m => decide (n = m)
  | _, _ => false
def repBs (K : PySem.W.Frag) : List D → List Value → Bool
  | [], [] => true
  | d :: ds, u :: us => repB K d u && repBs K ds us
  | _, _ => false
end
mutual
theorem repB_ok {K : PySem.W.Frag} {ms : List Addr} {Γ : Hp} : ∀ {d : D} {u : Value}, repB K d u = true → ∃ v, RelV v u ∧ Rep K (He.ga K) ms Γ d v
  | .non, u, h => by
    cases u with
    | none => exact ⟨.non, rfl, by unfold Rep; rfl⟩
    | _ => exact absurd h (by simp [repB])
  | .bl b, u, h => by
    cases u with
    | bool c =>
      have e : b = c := by simpa [repB] using h
      exact ⟨.bl b, by rw [e]; rfl, by unfold Rep; rfl⟩
    | _ => exact absurd h (by simp [repB])
  | .int i, u, h => by
    cases u with
    | int j t =>
      have e : i = j := by simpa [repB] using h
      exact ⟨.int i, ⟨t, by rw [e]⟩, by unfold Rep; rfl⟩
    | _ => exact absurd h (by simp [repB])
  | .str s, u, h => by
    cases u with
    | str z t =>
      have h := Bool.and_eq_true_iff.mp (show (decide (s = z) && decide (s.length ≤ LINE)) = true from h)
      have e := of_decide_eq_true h.1
      have e2 := of_decide_eq_true h.2
      rw [line_eq] at e2
      exact ⟨.str s, ⟨t, by rw [e]⟩, by unfold Rep; exact ⟨rfl, e2⟩⟩
    | _ => exact absurd h (by simp [repB])
  | .tup xs, u, h => by
    cases u with
    | ref a =>
      have h : (match K.lookup a with
        | some ⟨.type c, none, .seq its _, _⟩ => decide (c = "tuple") && (decide (its.size ≤ LINE) && repBs K xs its.toList)
        | _ => false) = true := h
      cases q : K.lookup a with
      | none => rw [q] at h; cases h
      | some o =>
        obtain ⟨oc, od, dt, osl⟩ := o
        rw [q] at h
        cases oc with
        | type c =>
          cases od with
          | none =>
            cases dt with
            | seq its n =>
              have h1 := Bool.and_eq_true_iff.mp (show (decide (c = "tuple") && (decide (its.size ≤ LINE) && repBs K xs its.toList)) = true from h)
              have h2 := Bool.and_eq_true_iff.mp h1.2
              obtain ⟨vs, r1, r2⟩ := repBs_ok (ms := ms) (Γ := Γ) h2.2
              have hz := of_decide_eq_true h2.1
              rw [line_eq] at hz
              refine ⟨.ref a, rfl, ?_⟩
              unfold Rep
              refine ⟨a, vs, rfl, .inr ⟨_, its, n, q, congrArg Value.type (of_decide_eq_true h1.1), rfl, rfl, hz, r1⟩, ?_, r2⟩
              rw [r2.length, r1.length]
              simpa using hz
            | _ => cases h
          | some a => cases dt <;> cases h
        | _ => cases od <;> cases dt <;> cases h
    | _ => exact absurd h (by simp [repB])
  | .lst _, u, h => by cases u <;> exact absurd h (by simp [repB])
  | .dct _, u, h => by cases u <;> exact absurd h (by simp [repB])
  | .ins _ _, u, h => by cases u <;> exact absurd h (by simp [repB])
  | .loc _, u, h => by cases u <;> exact absurd h (by simp [repB])
  | .scr _, u, h => by cases u <;> exact absurd h (by simp [repB])
  | .glob x, u, h => by
    cases u with
    | ref a =>
      have e : a = He.ga K x := of_decide_eq_true h
      exact ⟨.ref a, rfl, by unfold Rep; rw [e]⟩
    | _ => exact absurd h (by simp [repB])
  | .ty n, u, h => by
    cases u with
    | type m =>
      have e : n = m := of_decide_eq_true h
      exact ⟨.ty n, by rw [e]; rfl, by unfold Rep; rfl⟩
    | _ => exact absurd h (by simp [repB])
theorem repBs_ok {K : PySem.W.Frag} {ms : List Addr} {Γ : Hp} : ∀ {ds : List D} {us : List Value}, repBs K ds us = true → ∃ vs, Vals vs us ∧ Reps K (He.ga K) ms Γ ds vs
  | [], [], _ => ⟨[], .nil, Reps.nil⟩
  | [], _ :: _, h => by simp [repBs] at h
  | _ :: _, [], h => by simp [repBs] at h
  | d :: ds, u :: us, h => by
    have h := Bool.and_eq_true_iff.mp (show (repB K d u && repBs K ds us) = true from h)
    obtain ⟨v, r1, r2⟩ := repB_ok h.1
    obtain ⟨vs, r3, r4⟩ := repBs_ok h.2
    exact ⟨v :: vs, .cons r1 r3, Reps.cons r2 r4⟩
end
def vOf : Value → V
  | .none => .non
  | .bool b => .bl b
  | .int i _ => .int i
  | .str s _ => .str s
  | .bytes b _ => .byt b
  | .float f _ => .flt f
  | .ref a => .ref a
  | .type n => .ty n
  | _ => .non
theorem rel_vOf : ∀ {v : V} {u : Value}, L2.RelV v u → v = vOf u
  | .non, _, h => by rw [show _ = Value.none from h]; rfl
  | .bl b, _, h => by rw [show _ = Value.bool b from h]; rfl
  | .int i, _, ⟨t, h⟩ => by rw [h]; rfl
  | .str i, _, ⟨t, h⟩ => by rw [h]; rfl
  | .byt i, _, ⟨t, h⟩ => by rw [h]; rfl
  | .flt i, _, ⟨t, h⟩ => by rw [h]; rfl
  | .ref a, _, h => by rw [show _ = Value.ref a from h]; rfl
  | .ty n, _, h => by rw [show _ = Value.type n from h]; rfl
theorem rel_uniq {v v' : V} {u : Value} (h : L2.RelV v u) (h' : L2.RelV v' u) : v = v' := (rel_vOf h).trans (rel_vOf h').symm
def conB (K : PySem.W.Frag) (p : Str × D) : Bool := match PySem.W.nsIn K mainGlobals p.1 with
  | some (some u) => repB K p.2 u
  | _ => false
/-! ### the Hook -/
abbrev AlL := He.AlD
def obsL (fa : List He.Fa) (fn : List He.DefD) (cs : List (Str × D)) (K : PySem.W.Frag) : AlL := (((fa.all fun f => f.ok K) && fn.all fun d => d.ok K) && cs.all (conB K), fn.map fun d => He.fnW K d.at_)
def obsLG (n : Nat) (fa : List He.Fa) (fn : List He.DefD) (cs : List (Str × D)) (g : Addr → Option Obj) : AlL := obsL fa fn cs (He.frG g (He.asD g n))
def hookL (n : Nat) (fa : List He.Fa) (fn : List He.DefD) (cs : List (Str × D)) : PySem.W.Hook where
  α := AlL
  obs := fun s => obsLG n fa fn cs s.heap.get?
  val := fun _ => He.valD fn
  says := fun _ h => ∃ K : PySem.W.Frag, K.In h ∧ obsL fa fn cs K = He.valD fn
  of := fun _ _ e => ⟨_, He.frG_in, e⟩
  keeps := fun _ _ _ ⟨K, hK, c⟩ k => ⟨K, PySem.W.Frag.In.keeps hK k, c⟩
theorem obsLG_eq {n : Nat} {fa : List He.Fa} {fn : List He.DefD} {cs : List (Str × D)} {g : Addr → Option Obj} {s : Shared} (h : ∀ a, g a = s.heap.get? a) : obsLG n fa fn cs g = (hookL n fa fn cs).obs s := by
  have e : g = s.heap.get? := funext h
  rw [e] <;> rfl
theorem saysL {fa : List He.Fa} {fn : List He.DefD} {cs : List (Str × D)} {K : PySem.W.Frag} (c : obsL fa fn cs K = He.valD fn) : He.SaysD fa fn K ∧ cs.all (conB K) = true := by
  have c1 := Bool.and_eq_true_iff.mp (show (((fa.all fun f => f.ok K) && fn.all fun d => d.ok K) && cs.all (conB K)) = true from congrArg (fun z : AlL => z.1) c)
  refine ⟨?_, c1.2⟩
  have c2 : fn.map (fun d => He.fnW K d.at_) = fn.map He.DefD.val := congrArg (fun z : AlL => z.2) c
  show (((fa.all fun f => f.ok K) && fn.all fun d => d.ok K), fn.map fun d => He.fnW K d.at_) = He.valD fn
  rw [c1.1, c2]
  rfl
/-! ### the table of a law's defs -/
structure Ent where
  f : Str
  params : Arguments
  body : List Stmt
  scope : Scope
  N : List Str
  b : Fn
def Ent.dd (e : Ent) : He.DefD := ⟨(e.f, none), e.f, e.f, e.params, e.body, e.scope, [], []⟩
def Ent.ps (e : Ent) : List Str := e.N.take e.b.ps
def Ent.ok (T : List (Str × Nat)) (e : Ent) : Bool := decide (e.scope.kind = .function) && !e.scope.isCoroutine && !e.scope.isGenerator && decide e.N.Nodup && (e.ps.all fun x => decide (e.scope.names.lookup x = some .local) || decide (e.scope.names.lookup x = some .cell)) &&
  (e.scope.names.all fun y => decide (y.2 ≠ .free)) && decide (e.N.length = e.b.n) && decide (e.b.ps ≤ e.b.n) && chkSs e.N T e.scope e.b.body e.body
def Ent.binds (e : Ent) : Prop := ∀ (kV doc pm : Value) (an : Option Addr) (cdv ct : Value) (us : List Value), us.length = e.ps.length → bindArgs (PySem.W.fnOf e.f e.f e.params e.body e.scope .none kV doc pm an cdv ct) ⟨us, []⟩ = pure (e.ps.zip us)
def tabT (es : List Ent) (xs : List Str) : List (Str × Nat) := (es.map fun e => (e.f, e.b.ps)) ++ xs.map fun x => (x, 1000)
def tabF (es : List Ent) (x : Str) : Option Fn := (es.map fun e => (e.f, e.b)).lookup x
def tabC (cs : List (Str × D)) (x : Str) : Option D := cs.lookup x
theorem Ent.ok_scope {T : List (Str × Nat)} {e : Ent} (h : e.ok T = true) : FnScope e.N e.ps e.scope ∧ e.N.length = e.b.n ∧ e.b.ps ≤ e.b.n ∧ chkSs e.N T e.scope e.b.body e.body = true := by
  unfold Ent.ok at h
  simp only [Bool.and_eq_true] at h
  obtain ⟨⟨⟨⟨⟨⟨⟨⟨h1, h2⟩, h3⟩, h4⟩, h5⟩, h6⟩, h7⟩, h8⟩, h9⟩ := h
  have h7 := of_decide_eq_true h7
  have h8 := of_decide_eq_true h8
  refine ⟨⟨of_decide_eq_true h1, by simpa using h2, by simpa using h3, of_decide_eq_true h4, ?_, fun x hx => ?_, fun y hy => of_decide_eq_true (List.all_eq_true.mp h6 y hy)⟩, h7, h8, h9⟩
  · unfold Ent.ps
    rw [List.length_take, h7, Nat.min_eq_left h8]
  · have z := List.all_eq_true.mp h5 x hx
    rw [Bool.or_eq_true] at z
    rcases z with z | z
    · exact .inl (of_decide_eq_true z)
    · exact .inr (of_decide_eq_true z)
theorem lookup_mem {α β : Type} [BEq α] [LawfulBEq α] {x : α} {y : β} : ∀ {l : List (α × β)}, (l.map (·.1)).Nodup → (x, y) ∈ l → l.lookup x = some y
  | [], _, h => (List.not_mem_nil h).elim
  | (a, b) :: l, nd, h => by
    rw [List.map_cons, List.nodup_cons] at nd
    rw [List.lookup_cons]
    rcases List.mem_cons.mp h with h' | h'
    · cases h'
      simp
    · have ne : (x == a) = false := by
        simp only [beq_eq_false_iff_ne]
        intro e
        subst e
        exact nd.1 (List.mem_map.mpr ⟨(x, y), h', rfl⟩)
      rw [ne]
      exact lookup_mem nd.2 h'
section
variable {w : World} {K : PySem.W.Frag} {mg : Str → Option Value} {h : Heap}
/-- facts of the Hook for the table -/
def faX (x : Str) : List He.Fa := [.glo x, .exc x, .exm x x true]
def faL (es : List Ent) (xs : List Str) : List He.Fa := (es.map fun e => He.Fa.glo e.f) ++ (bltNames.map He.Fa.free ++ xs.flatMap faX)
theorem ent_def {es : List Ent} {xs : List Str} {cs : List (Str × D)} (X : K.In h) (G : h.Ns mainGlobals mg) (c : obsL (faL es xs) (es.map Ent.dd) cs K = He.valD (es.map Ent.dd)) {e : Ent} (he : e ∈ es) :
    mg e.f = some (.ref (He.ga K e.f)) ∧ ∃ fd, FunD K e.f e.f e.params e.body e.scope [] [] (He.ga K e.f) fd := by
  obtain ⟨c1, c2⟩ := saysL c
  obtain ⟨i, hi, q⟩ := List.mem_iff_getElem.mp he
  have q' : es[i]? = some e := by rw [List.getElem?_eq_getElem hi, q]
  refine ⟨He.glo_ok X G (c1.fact i (f := .glo e.f) ?_), ?_⟩
  · unfold faL
    rw [List.getElem?_append_left (by simpa using hi), List.getElem?_map, q']
    rfl
  · obtain ⟨fd, F⟩ := c1.def_ i (d := e.dd) (by rw [List.getElem?_map, q']; rfl)
    exact ⟨fd, F⟩
theorem wd_of {es : List Ent} {xs : List Str} {cs : List (Str × D)} (X : K.In h) (G : h.Ns mainGlobals mg) (c : obsL (faL es xs) (es.map Ent.dd) cs K = He.valD (es.map Ent.dd)) (nd : (es.map Ent.f).Nodup) (hok : es.all (Ent.ok (tabT es xs)) = true) (hb : ∀ e ∈ es, e.binds) (hps : es.all (fun e => decide (e.b.ps ≠ 1000)) = true) :
    Wd K mg (He.ga K) (tabC cs) (tabF es) (tabT es xs) := by
  obtain ⟨c1, c2⟩ := saysL c
  refine ⟨fun f n hm hn => ?_, fun x hx => ?_, fun x d hx => ?_, fun x hx => ?_⟩
  · rcases List.mem_append.mp hm with hm | hm
    case inr =>
      obtain ⟨x, _, q⟩ := List.mem_map.mp hm
      cases q
      exact absurd rfl hn
    obtain ⟨e, he, q⟩ := List.mem_map.mp hm
    cases q
    obtain ⟨g1, fd, F⟩ := ent_def X G c he
    obtain ⟨S, h5, h6, h7⟩ := Ent.ok_scope (List.all_eq_true.mp hok e he)
    refine ⟨e.b, lookup_mem (by rw [List.map_map]; exact nd) (List.mem_map.mpr ⟨e, he, rfl⟩), rfl, ⟨_, fd, e.f, e.f, e.params, e.body, e.scope, e.N, g1, F, FunD.bindsN (ps := e.ps) F (hb e he), S, h5, h6, h7⟩⟩
  · obtain ⟨i, hi, q⟩ := List.mem_iff_getElem.mp hx
    refine He.free_ok X G (c1.fact (es.length + i) (f := .free x) ?_)
    unfold faL
    rw [List.getElem?_append_right (by simp)]
    simp only [List.length_map, Nat.add_sub_cancel_left]
    rw [List.getElem?_append_left (by simpa using hi), List.getElem?_map, List.getElem?_eq_getElem hi, q]
    rfl
  · have hm : (x, d) ∈ cs := PySem.mem_of_lookup hx
    have z : conB K (x, d) = true := List.all_eq_true.mp c2 (x, d) hm
    unfold conB at z
    cases q : PySem.W.nsIn K mainGlobals x with
    | none => rw [q] at z; cases z
    | some o =>
      rw [q] at z
      cases o with
      | none => cases z
      | some u =>
        obtain ⟨v, r1, _⟩ := repB_ok (ms := []) (Γ := fun _ => none) z
        refine ⟨u, v, PySem.W.mg_of X G q, r1, fun ms => ?_⟩
        obtain ⟨v', r1', r2'⟩ := repB_ok (ms := ms) (Γ := fun _ => none) z
        rw [rel_uniq r1 r1']
        exact r2'
  · have hx2 : x ∈ xs := by
      rcases List.mem_append.mp hx with hx | hx
      · obtain ⟨e, he, q⟩ := List.mem_map.mp hx
        have := of_decide_eq_true (List.all_eq_true.mp hps e he)
        exact absurd (congrArg Prod.snd q) this
      · obtain ⟨y, hy, q⟩ := List.mem_map.mp hx
        cases q
        exact hy
    have mem : ∀ f ∈ faX x, f.ok K = true := fun f hf => by
      have hm : f ∈ faL es xs := List.mem_append_right _ (List.mem_append_right _ (List.mem_flatMap.mpr ⟨x, hx2, hf⟩))
      obtain ⟨i, hi, q⟩ := List.mem_iff_getElem.mp hm
      exact c1.fact i (f := f) (by rw [List.getElem?_eq_getElem hi, q])
    have g1 := He.glo_ok X G (mem (.glo x) (by simp [faX]))
    obtain ⟨e1, e2, e3, e4⟩ := He.exc_ok (mem (.exc x) (by simp [faX]))
    have e5 := He.exm_ok (mem (.exm x x true) (by simp [faX]))
    exact ⟨g1, e1, e2, e3, e4, e5⟩
/-- the law's def e of the table es keeps its promise at depth d + 1 -/
theorem law_facts {es : List Ent} {xs : List Str} {cs : List (Str × D)} {fuel d : Nat} {P : Program} {e : Ent} {x : Str} {f : Addr} (nd : (es.map Ent.f).Nodup) (hok : es.all (Ent.ok (tabT es xs)) = true) (hb : ∀ e ∈ es, e.binds) (hps : es.all (fun e => decide (e.b.ps ≠ 1000)) = true) (he : e ∈ es) (hx : e.ps = [x])
    (X : K.In h) (G : h.Ns mainGlobals mg) (hfa : mg e.f = some (.ref f)) (c : obsL (faL es xs) (es.map Ent.dd) cs K = He.valD (es.map Ent.dd)) :
    ∃ fd : FuncData, (∀ (s : Shared) (v : Value), BindsTo s fd ⟨[v], []⟩ [(x, v)]) ∧ ∀ base : Heap, K.In base → base.Ns mainGlobals mg → FnOk P w K mg base (L2.CX P w) (d + 1) f fd [x] (spC K (He.ga K) (callD (tabC cs) (tabF es) fuel (d + 1) e.f)) := by
  obtain ⟨g1, fd, F⟩ := ent_def X G c he
  have q := hfa.symm.trans g1
  cases q
  refine ⟨fd, fun s v => ?_, fun base _ _ => ?_⟩
  · have z := FunD.bindsA (ps := e.ps) F (hb e he) s [v] (by rw [hx]; rfl)
    rw [hx] at z
    exact z
  · have Y := wd_of X G c nd hok hb hps
    obtain ⟨S, h5, h6, h7⟩ := Ent.ok_scope (List.all_eq_true.mp hok e he)
    have z := fn_step (P := P) (w := w) (base := base) (fuel := fuel) Y (fn_ok Y d) (f := e.f) (b := e.b) (lookup_mem (by rw [List.map_map]; exact nd) (List.mem_map.mpr ⟨e, he, rfl⟩)) F S h5 h6 h7
    rw [show e.N.take e.b.ps = [x] from hx] at z
    exact z
end
end LD

set_option Elab.async false
set_option linter.all false
set_option maxRecDepth 100000
set_option maxHeartbeats 2000000
/-! LD14: the dice of the laws. -/
namespace LD
open PySem
def fDiceA : Fn := ⟨2, 5,
    (.cons (.asg (.name 2) (.ite (.cmp .lt (.var 1) (.blt .len (.cons (.var 0) .nil))) (.idx (.var 0) (.var 1)) (.bin .add (.bin .mul (.con (.int 31)) (.var 1)) (.con (.int 5)))))
    (.cons (.asg (.name 3) (.bin .mod (.blt .int1 (.cons (.blt .abs (.cons (.var 2) .nil)) .nil)) (.bin .pow (.bin .pow (.con (.int 10)) (.con (.int 50))) (.con (.int 12)))))
    (.cons (.asg (.name 4) (.bin .add (.bin .add (.bin .add (.bin .mul (.bin .mod (.blt .int1 (.cons (.var 3) .nil)) (.con (.int 4611686018427387847))) (.con (.int 69069))) (.bin .mul (.con (.int 104729)) (.var 1))) (.bin .mul (.con (.int 59)) (.blt .int1 (.cons (.cmp .lt (.var 2) (.con (.int 0))) .nil)))) (.con (.int 13))))
    (.cons (.ret (.newl (.cons (.blt .max2 (.cons (.con (.int 0)) (.cons (.bin .sub (.var 3) (.bin .pow (.con (.int 10)) (.con (.int 18)))) .nil))) (.cons (.bin .mod (.blt .int1 (.cons (.var 4) .nil)) (.con (.int 2305843009213693921))) (.cons (.con (.int 0)) .nil))))) .nil))))⟩
def fDiceB : Fn := ⟨2, 5,
    (.cons (.asg (.name 2) (.bin .add (.bin .mul (.con (.int 67)) (.var 1)) (.con (.int 9))))
    (.cons (.ite (.cmp .lt (.var 1) (.blt .len (.cons (.var 0) .nil)))
      (.cons (.asg (.name 2) (.idx (.var 0) (.var 1))) .nil)
      (.nil))
    (.cons (.asg (.name 3) (.bin .mod (.blt .int1 (.cons (.blt .abs (.cons (.var 2) .nil)) .nil)) (.bin .pow (.bin .pow (.con (.int 10)) (.con (.int 60))) (.con (.int 10)))))
    (.cons (.asg (.name 4) (.bin .add (.bin .add (.bin .add (.bin .mul (.bin .mod (.blt .int1 (.cons (.var 3) .nil)) (.con (.int 2147483489))) (.con (.int 52747))) (.bin .mul (.con (.int 7001)) (.var 1))) (.bin .mul (.con (.int 37)) (.blt .int1 (.cons (.cmp .lt (.var 2) (.con (.int 0))) .nil)))) (.con (.int 11))))
    (.cons (.ret (.newl (.cons (.blt .max2 (.cons (.con (.int 0)) (.cons (.bin .sub (.var 3) (.bin .pow (.con (.int 10)) (.con (.int 18)))) .nil))) (.cons (.bin .mod (.blt .int1 (.cons (.var 4) .nil)) (.con (.int 2147483423))) (.cons (.con (.int 0)) .nil))))) .nil)))))⟩
def fRollA : Fn := ⟨2, 5,
    (.cons (.ite (.cmp .gt (.idx (.var 0) (.con (.int 0))) (.con (.int 0)))
      (.cons (.asg (.name 4) (.bin .mod (.blt .int1 (.cons (.idx (.var 0) (.con (.int 0))) .nil)) (.var 1)))
      (.cons (.setl (.var 0) (.con (.int 0)) (.bin .fdiv (.idx (.var 0) (.con (.int 0))) (.var 1)))
      (.cons (.ret (.var 4)) .nil)))
      (.nil))
    (.cons (.setl (.var 0) (.con (.int 2)) (.bin .add (.idx (.var 0) (.con (.int 2))) (.con (.int 1))))
    (.cons (.asg (.name 2) (.bin .mod (.blt .int1 (.cons (.bin .add (.idx (.var 0) (.con (.int 1))) (.bin .mul (.con (.int 1442695041)) (.idx (.var 0) (.con (.int 2))))) .nil)) (.con (.int 2305843009213693951))))
    (.cons (.asg (.name 3) (.bin .mod (.blt .int1 (.cons (.bin .add (.bin .mul (.var 2) (.var 2)) (.bin .mul (.con (.int 40503)) (.idx (.var 0) (.con (.int 2))))) .nil)) (.con (.int 4611686018427387787))))
    (.cons (.ret (.bin .mod (.blt .int1 (.cons (.bin .fdiv (.bin .mod (.blt .int1 (.cons (.bin .mul (.var 3) (.var 2)) .nil)) (.con (.int 1125899906842679))) (.con (.int 8192))) .nil)) (.var 1))) .nil)))))⟩
def fRollB : Fn := ⟨2, 5,
    (.cons (.ite (.cmp .gt (.idx (.var 0) (.con (.int 0))) (.con (.int 0)))
      (.cons (.asg (.name 4) (.bin .mod (.blt .int1 (.cons (.idx (.var 0) (.con (.int 0))) .nil)) (.var 1)))
      (.cons (.setl (.var 0) (.con (.int 0)) (.bin .fdiv (.idx (.var 0) (.con (.int 0))) (.var 1)))
      (.cons (.ret (.var 4)) .nil)))
      (.nil))
    (.cons (.setl (.var 0) (.con (.int 2)) (.bin .add (.idx (.var 0) (.con (.int 2))) (.con (.int 1))))
    (.cons (.asg (.name 2) (.bin .mod (.blt .int1 (.cons (.bin .add (.idx (.var 0) (.con (.int 1))) (.bin .mul (.con (.int 1000541)) (.idx (.var 0) (.con (.int 2))))) .nil)) (.con (.int 2305843009213693951))))
    (.cons (.asg (.name 3) (.bin .add (.bin .mul (.bin .mod (.blt .int1 (.cons (.bin .mul (.var 2) (.var 2)) .nil)) (.con (.int 2305843009213693907))) (.var 2)) (.bin .mul (.con (.int 8329)) (.idx (.var 0) (.con (.int 2))))))
    (.cons (.asg (.name 3) (.bin .mod (.blt .int1 (.cons (.var 3) .nil)) (.con (.int 2305843009213693921))))
    (.cons (.ret (.bin .mod (.blt .int1 (.cons (.bin .fdiv (.var 3) (.con (.int 4096))) .nil)) (.var 1))) .nil))))))⟩
def fPick : Fn := ⟨2, 2,
    (.cons (.ret (.idx (.var 1) (.call "_law_roll" (.cons (.var 0) (.cons (.blt .len (.cons (.var 1) .nil)) .nil))))) .nil)⟩

theorem callD_succ {con : Str → Option D} {fn : Str → Option Fn} {fuel d : Nat} {f : Str} {b : Fn} (hb : fn f = some b) (ds : List D) (μ : Store) : callD con fn fuel (d + 1) f ds μ = runF ⟨con, callD con fn fuel d⟩ fuel b ds μ := by
  show (match fn f with
    | some b => runF ⟨con, callD con fn fuel d⟩ fuel b ds μ
    | none => .bad) = _
  rw [hb]
def Dice (l : Nat) (μ : Store) : Prop := ∃ a b c : Int, μ[l]? = some (.lst [.int a, .int b, .int c])
theorem small_of {i : Int} (h1 : 0 ≤ i) (h2 : i < 18446744073709551616) : small i = true := by
  unfold small
  simp only [decide_eq_true_eq]
  omega
/-- only the object at l changed -/
def Chg (l : Nat) (μ μ' : Store) : Prop := ∃ so, μ' = μ.set l so
theorem Chg.trans {l : Nat} {μ μ1 μ2 : Store} (h : Chg l μ μ1) (h' : Chg l μ1 μ2) : Chg l μ μ2 := by
  obtain ⟨a, rfl⟩ := h
  obtain ⟨b, rfl⟩ := h'
  exact ⟨b, by rw [List.set_set]⟩
theorem Chg.len {l : Nat} {μ μ' : Store} (h : Chg l μ μ') : μ'.length = μ.length := by
  obtain ⟨a, rfl⟩ := h
  exact List.length_set
/-- what a roll does: a number below n; the dice stand on -/
def RollOk (r : List D → Store → Out D) : Prop := ∀ (l : Nat) (μ : Store) (n : Int), Dice l μ → 1 ≤ n → n < 1073741824 → ∃ (k : Nat) (μ' : Store), (k : Int) < n ∧ r [.loc l, .int n] μ = .ok (.int k) μ' ∧ Dice l μ' ∧ Chg l μ μ'
def DiceOk (r : List D → Store → Out D) : Prop := ∀ (ns : List Int) (i : Int) (μ : Store), 0 ≤ i → ∃ a b : Int, r [.scr ns, .int i] μ = .ok (.loc μ.length) (μ ++ [.lst [.int a, .int b, .int 0]])
def PickOk (r : List D → Store → Out D) : Prop := ∀ (l : Nat) (μ : Store) (xs : List D), Dice l μ → 1 ≤ xs.length → xs.length < 1073741824 → ∃ (x : D) (μ' : Store), x ∈ xs ∧ r [.loc l, .lst xs] μ = .ok x μ' ∧ Dice l μ' ∧ Chg l μ μ'
theorem rollA_ok {G : GT} {fuel : Nat} : RollOk (runF G fuel fRollA) := by
  intro l μ n h h1 h2
  obtain ⟨a, b, c, hd⟩ := h
  have hl : l < μ.length := (List.getElem?_eq_some_iff.mp hd).1
  have hs : ∀ so, (List.set μ l so)[l]? = some so := fun so => List.getElem?_set_self hl
  have hn : n ≠ 0 := by omega
  have hn2 : n.natAbs < 1073741824 := by omega
  by_cases ha : a > 0
  · have h3 := Int.fmod_nonneg_of_pos a (show 0 < n by omega)
    have h4 := Int.fmod_lt_of_pos a (show 0 < n by omega)
    refine ⟨(a.fmod n).toNat, μ.set l (.lst [.int (a.fdiv n), .int b, .int c]), by omega, ?_, ⟨_, _, _, by rw [List.getElem?_set_self hl]⟩, ⟨_, rfl⟩⟩
    simp [runF, fRollA, exSs, exS, ev, evs, Fl.of, Fl.next, Fl.opt, Out.bind, opt, Env.get, Env.put, bindT, idxD, hd, L2.atI, L2.ixN, cmpop, testOf, truthy, binop, blt, ha, List.set, hn, hn2]
    omega
  · obtain ⟨one, e1⟩ : ∃ one : Int, one = (b + 1442695041 * (c + 1)).fmod 2305843009213693951 := ⟨_, rfl⟩
    have p1 := Int.fmod_nonneg_of_pos (b + 1442695041 * (c + 1)) (show (0 : Int) < 2305843009213693951 by omega)
    have p2 := Int.fmod_lt_of_pos (b + 1442695041 * (c + 1)) (show (0 : Int) < 2305843009213693951 by omega)
    rw [← e1] at p1 p2
    have s1 : small one = true := small_of p1 (by omega)
    obtain ⟨two, e2⟩ : ∃ two : Int, two = (one * one + 40503 * (c + 1)).fmod 4611686018427387787 := ⟨_, rfl⟩
    have p3 := Int.fmod_nonneg_of_pos (one * one + 40503 * (c + 1)) (show (0 : Int) < 4611686018427387787 by omega)
    have p4 := Int.fmod_lt_of_pos (one * one + 40503 * (c + 1)) (show (0 : Int) < 4611686018427387787 by omega)
    rw [← e2] at p3 p4
    have s2 : small two = true := small_of p3 (by omega)
    obtain ⟨z, e3⟩ : ∃ z : Int, z = ((two * one).fmod 1125899906842679).fdiv 8192 := ⟨_, rfl⟩
    have h3 := Int.fmod_nonneg_of_pos z (show 0 < n by omega)
    have h4 := Int.fmod_lt_of_pos z (show 0 < n by omega)
    have sc1 : small 1442695041 = true := by decide
    have sc2 : small 40503 = true := by decide
    refine ⟨(z.fmod n).toNat, μ.set l (.lst [.int a, .int b, .int (c + 1)]), by omega, ?_, ⟨_, _, _, by rw [List.getElem?_set_self hl]⟩, ⟨_, rfl⟩⟩
    simp [runF, fRollA, exSs, exS, ev, evs, Fl.of, Fl.next, Fl.opt, Out.bind, opt, Env.get, Env.put, bindT, idxD, hd, L2.atI, L2.ixN, cmpop, testOf, truthy, binop, blt, ha, List.set, hn, hn2, hs, ← e1, ← e2, ← e3, s1, s2, sc1, sc2]
    omega
theorem rollB_ok {G : GT} {fuel : Nat} : RollOk (runF G fuel fRollB) := by
  intro l μ n h h1 h2
  obtain ⟨a, b, c, hd⟩ := h
  have hl : l < μ.length := (List.getElem?_eq_some_iff.mp hd).1
  have hs : ∀ so, (List.set μ l so)[l]? = some so := fun so => List.getElem?_set_self hl
  have hn : n ≠ 0 := by omega
  have hn2 : n.natAbs < 1073741824 := by omega
  by_cases ha : a > 0
  · have h3 := Int.fmod_nonneg_of_pos a (show 0 < n by omega)
    have h4 := Int.fmod_lt_of_pos a (show 0 < n by omega)
    refine ⟨(a.fmod n).toNat, μ.set l (.lst [.int (a.fdiv n), .int b, .int c]), by omega, ?_, ⟨_, _, _, by rw [List.getElem?_set_self hl]⟩, ⟨_, rfl⟩⟩
    simp [runF, fRollB, exSs, exS, ev, evs, Fl.of, Fl.next, Fl.opt, Out.bind, opt, Env.get, Env.put, bindT, idxD, hd, L2.atI, L2.ixN, cmpop, testOf, truthy, binop, blt, ha, List.set, hn, hn2]
    omega
  · obtain ⟨one, e1⟩ : ∃ one : Int, one = (b + 1000541 * (c + 1)).fmod 2305843009213693951 := ⟨_, rfl⟩
    have p1 := Int.fmod_nonneg_of_pos (b + 1000541 * (c + 1)) (show (0 : Int) < 2305843009213693951 by omega)
    have p2 := Int.fmod_lt_of_pos (b + 1000541 * (c + 1)) (show (0 : Int) < 2305843009213693951 by omega)
    rw [← e1] at p1 p2
    have s1 : small one = true := small_of p1 (by omega)
    obtain ⟨two, e2⟩ : ∃ two : Int, two = (((one * one).fmod 2305843009213693907) * one + 8329 * (c + 1)).fmod 2305843009213693921 := ⟨_, rfl⟩
    obtain ⟨z, e3⟩ : ∃ z : Int, z = two.fdiv 4096 := ⟨_, rfl⟩
    have h3 := Int.fmod_nonneg_of_pos z (show 0 < n by omega)
    have h4 := Int.fmod_lt_of_pos z (show 0 < n by omega)
    have sc1 : small 1000541 = true := by decide
    have sc2 : small 8329 = true := by decide
    refine ⟨(z.fmod n).toNat, μ.set l (.lst [.int a, .int b, .int (c + 1)]), by omega, ?_, ⟨_, _, _, by rw [List.getElem?_set_self hl]⟩, ⟨_, rfl⟩⟩
    simp [runF, fRollB, exSs, exS, ev, evs, Fl.of, Fl.next, Fl.opt, Out.bind, opt, Env.get, Env.put, bindT, idxD, hd, L2.atI, L2.ixN, cmpop, testOf, truthy, binop, blt, ha, List.set, hn, hn2, hs, ← e1, ← e2, ← e3, s1, sc1, sc2]
    omega
theorem pick_ok {G : GT} {fuel : Nat} (h : RollOk (G.call "_law_roll")) : PickOk (runF G fuel fPick) := by
  intro l μ xs hd h1 h2
  obtain ⟨k, so, hk, e, hd', hc⟩ := h l μ xs.length hd (by omega) (by omega)
  have hk' : k < xs.length := by omega
  refine ⟨xs[k], so, List.getElem_mem hk', ?_, hd', hc⟩
  simp [runF, fPick, exSs, exS, ev, evs, Fl.of, Fl.next, Out.bind, opt, Env.get, idxD, L2.atI, L2.ixN, blt, lenD, e, hk, hk']
theorem pows_ok : powOk 10 50 = true ∧ powOk 100000000000000000000000000000000000000000000000000 12 = true ∧ powOk 10 18 = true ∧ powOk 10 60 = true ∧ powOk 1000000000000000000000000000000000000000000000000000000000000 10 = true := by decide +kernel
theorem smalls_ok : small 31 = true ∧ small 69069 = true ∧ small 104729 = true ∧ small 59 = true ∧ small 67 = true ∧ small 52747 = true ∧ small 7001 = true ∧ small 37 = true := by decide +kernel
/-! ### steps by lemma (the kernel does not look into the interpreter) -/
theorem exSs_nx {G : GT} {fuel : Nat} {s : Sm} {ss : Sms} {ρ ρ' : Env} {μ μ' : Store} (h : exS G fuel s ρ μ = .nx ρ' μ') : exSs G fuel (.cons s ss) ρ μ = exSs G fuel ss ρ' μ' := by
  rw [exSs, h]
  rfl
theorem exSs_ret {G : GT} {fuel : Nat} {s : Sm} {ss : Sms} {ρ : Env} {μ μ' : Store} {d : D} (h : exS G fuel s ρ μ = .ret d μ') : exSs G fuel (.cons s ss) ρ μ = .ret d μ' := by
  rw [exSs, h]
  rfl
theorem runF_ret {G : GT} {fuel : Nat} {f : Fn} {ds : List D} {μ μ' : Store} {d : D} (hl : ds.length = f.ps) (h : exSs G fuel f.body (ds.map Slot.val ++ List.replicate (f.n - f.ps) Slot.no) μ = .ret d μ') : runF G fuel f ds μ = .ok d μ' := by
  unfold runF
  rw [if_pos hl, h]
theorem diceA_ok {G : GT} {fuel : Nat} : DiceOk (runF G fuel fDiceA) := by
  intro ns i μ hi
  obtain ⟨p1, p2, p3, _, _⟩ := pows_ok
  obtain ⟨s1, s2, s3, s4, _⟩ := smalls_ok
  have fin : ∀ (cell : Int) (ρ : Env), (∀ G : GT, exS G fuel (.asg (.name 2) (.ite (.cmp .lt (.var 1) (.blt .len (.cons (.var 0) .nil))) (.idx (.var 0) (.var 1)) (.bin .add (.bin .mul (.con (.int 31)) (.var 1)) (.con (.int 5))))) [.val (.scr ns), .val (.int i), .no, .no, .no] μ = .nx [.val (.scr ns), .val (.int i), .val (.int cell), .no, .no] μ) → ∃ a b : Int, runF G fuel fDiceA [.scr ns, .int i] μ = .ok (.loc μ.length) (μ ++ [.lst [.int a, .int b, .int 0]]) := by
    intro cell ρ hc
    obtain ⟨whole, hw⟩ : ∃ whole : Int, whole = (if cell < 0 then -cell else cell).fmod 1000000000000000000000000000000000000000000000000000000000000000000000000000000000000000000000000000000000000000000000000000000000000000000000000000000000000000000000000000000000000000000000000000000000000000000000000000000000000000000000000000000000000000000000000000000000000000000000000000000000000000000000000000000000000000000000000000000000000000000000000000000000000000000000000000000000000000000000000000000000000000000000000000000000000000000000000000000000000000000000000000000000000000000000000000000000000000000000000000000000000000000000000000000000000000000000000000000000000000000000000 := ⟨_, rfl⟩
    refine ⟨if whole - 1000000000000000000 > 0 then whole - 1000000000000000000 else 0, ((whole.fmod 4611686018427387847) * 69069 + 104729 * i + 59 * (if cell < 0 then 1 else 0) + 13).fmod 2305843009213693921, ?_⟩
    have e0 : runF G fuel fDiceA [.scr ns, .int i] μ = (match exSs G fuel fDiceA.body [.val (.scr ns), .val (.int i), .no, .no, .no] μ with
      | .ret d μ => .ok d μ
      | .nx _ μ => .ok .non μ
      | .exc c fs _ μ => .exc c fs μ
      | _ => .bad) := rfl
    rw [e0]
    unfold fDiceA
    dsimp only
    unfold exSs
    rw [hc]
    by_cases hn : cell < 0
    · simp only [hn, if_true] at hw ⊢
      simp [exSs, exS, ev, evs, Fl.of, Fl.next, Fl.opt, Out.bind, opt, Env.get, Env.put, bindT, cmpop, testOf, truthy, binop, blt, hn, p1, p2, p3, s1, s2, s3, s4, LINE, ← hw]
    · simp only [hn, if_false] at hw ⊢
      simp [exSs, exS, ev, evs, Fl.of, Fl.next, Fl.opt, Out.bind, opt, Env.get, Env.put, bindT, cmpop, testOf, truthy, binop, blt, hn, p1, p2, p3, s1, s2, s3, s4, LINE, ← hw]
  by_cases h : i < ns.length
  · have hz : i.toNat < ns.length := by omega
    refine fin ns[i.toNat] [] fun G => ?_
    simp [exS, ev, evs, Fl.of, Fl.opt, Out.bind, opt, Env.get, Env.put, bindT, idxD, L2.atI, L2.ixN, cmpop, truthy, blt, lenD, h, hi, hz]
  · refine fin (31 * i + 5) [] fun G => ?_
    simp [exS, ev, evs, Fl.of, Fl.opt, Out.bind, opt, Env.get, Env.put, bindT, cmpop, truthy, binop, blt, lenD, h, s1]
theorem diceB_ok {G : GT} {fuel : Nat} : DiceOk (runF G fuel fDiceB) := by
  intro ns i μ hi
  obtain ⟨_, _, p3, p1, p2⟩ := pows_ok
  obtain ⟨_, _, _, _, s0, s1, s2, s3⟩ := smalls_ok
  have fin : ∀ cell : Int, ∃ a b : Int, exSs G fuel
    (.cons (.asg (.name 3) (.bin .mod (.blt .int1 (.cons (.blt .abs (.cons (.var 2) .nil)) .nil)) (.bin .pow (.bin .pow (.con (.int 10)) (.con (.int 60))) (.con (.int 10)))))
    (.cons (.asg (.name 4) (.bin .add (.bin .add (.bin .add (.bin .mul (.bin .mod (.blt .int1 (.cons (.var 3) .nil)) (.con (.int 2147483489))) (.con (.int 52747))) (.bin .mul (.con (.int 7001)) (.var 1))) (.bin .mul (.con (.int 37)) (.blt .int1 (.cons (.cmp .lt (.var 2) (.con (.int 0))) .nil)))) (.con (.int 11))))
    (.cons (.ret (.newl (.cons (.blt .max2 (.cons (.con (.int 0)) (.cons (.bin .sub (.var 3) (.bin .pow (.con (.int 10)) (.con (.int 18)))) .nil))) (.cons (.bin .mod (.blt .int1 (.cons (.var 4) .nil)) (.con (.int 2147483423))) (.cons (.con (.int 0)) .nil))))) .nil))) [.val (.scr ns), .val (.int i), .val (.int cell), .no, .no] μ = .ret (.loc μ.length) (μ ++ [.lst [.int a, .int b, .int 0]]) := by
    intro cell
    obtain ⟨whole, hw⟩ : ∃ whole : Int, whole = (if cell < 0 then -cell else cell).fmod 1000000000000000000000000000000000000000000000000000000000000000000000000000000000000000000000000000000000000000000000000000000000000000000000000000000000000000000000000000000000000000000000000000000000000000000000000000000000000000000000000000000000000000000000000000000000000000000000000000000000000000000000000000000000000000000000000000000000000000000000000000000000000000000000000000000000000000000000000000000000000000000000000000000000000000000000000000000000000000000000000000000000000000000000000000000000000000000000000000000000000000000000000000000000000000000000000000000000000000000000000 := ⟨_, rfl⟩
    refine ⟨if whole - 1000000000000000000 > 0 then whole - 1000000000000000000 else 0, ((whole.fmod 2147483489) * 52747 + 7001 * i + 37 * (if cell < 0 then 1 else 0) + 11).fmod 2147483423, ?_⟩
    by_cases hn : cell < 0
    · simp only [hn, if_true] at hw ⊢
      simp [exSs, exS, ev, evs, Fl.of, Fl.next, Fl.opt, Out.bind, opt, Env.get, Env.put, bindT, cmpop, testOf, truthy, binop, blt, hn, p1, p2, p3, s1, s2, s3, LINE, ← hw]
    · simp only [hn, if_false] at hw ⊢
      simp [exSs, exS, ev, evs, Fl.of, Fl.next, Fl.opt, Out.bind, opt, Env.get, Env.put, bindT, cmpop, testOf, truthy, binop, blt, hn, p1, p2, p3, s1, s2, s3, LINE, ← hw]
  have a1 : exS G fuel (.asg (.name 2) (.bin .add (.bin .mul (.con (.int 67)) (.var 1)) (.con (.int 9)))) [.val (.scr ns), .val (.int i), .no, .no, .no] μ = .nx [.val (.scr ns), .val (.int i), .val (.int (67 * i + 9)), .no, .no] μ := by
    simp [exS, ev, Fl.of, Fl.opt, Out.bind, opt, Env.get, Env.put, bindT, binop, s0]
  by_cases h : i < ns.length
  · have hz : i.toNat < ns.length := by omega
    obtain ⟨a, b, e⟩ := fin ns[i.toNat]
    refine ⟨a, b, runF_ret rfl ?_⟩
    unfold fDiceB
    refine (exSs_nx a1).trans ((exSs_nx (ρ' := [.val (.scr ns), .val (.int i), .val (.int ns[i.toNat]), .no, .no]) (μ' := μ) ?_).trans e)
    simp [exS, exSs, ev, evs, Fl.of, Fl.next, Fl.opt, Out.bind, opt, Env.get, Env.put, bindT, idxD, L2.atI, L2.ixN, cmpop, testOf, truthy, blt, lenD, h, hi, hz]
  · obtain ⟨a, b, e⟩ := fin (67 * i + 9)
    refine ⟨a, b, runF_ret rfl ?_⟩
    unfold fDiceB
    refine (exSs_nx a1).trans ((exSs_nx (ρ' := [.val (.scr ns), .val (.int i), .val (.int (67 * i + 9)), .no, .no]) (μ' := μ) ?_).trans e)
    simp [exS, exSs, ev, evs, Fl.of, Fl.next, Fl.opt, Out.bind, opt, Env.get, cmpop, testOf, truthy, blt, lenD, h]
/-- for spot in range(max(lo, min(hi, len(script)))): if not _law_right(_law_dice(script, spot)): return False -/
def lawBody : Sms := .cons (.ite (.not_ (.call "_law_right" (.cons (.call "_law_dice" (.cons (.var 0) (.cons (.var 1) .nil))) .nil))) (.cons (.ret (.con (.bl false))) .nil) .nil) .nil
def fLaw (lo hi : Int) : Fn := ⟨1, 2, .cons (.for_ (.name 1) .rng1 (.cons (.blt .max2 (.cons (.con (.int lo)) (.cons (.blt .min2 (.cons (.con (.int hi)) (.cons (.blt .len (.cons (.var 0) .nil)) .nil))) .nil))) .nil) lawBody) (.cons (.ret (.con (.bl true))) .nil)⟩
theorem dice_at {μ : Store} {a b c : Int} : Dice μ.length (μ ++ [.lst [.int a, .int b, .int c]]) := ⟨a, b, c, by simp⟩
theorem law_loop {G : GT} {fuel : Nat} {ns : List Int} (hd : DiceOk (G.call "_law_dice")) (hr : ∀ l μ, Dice l μ → ∃ μ', G.call "_law_right" [.loc l] μ = .ok (.bl true) μ') : ∀ (ys : List D), (∀ y ∈ ys, ∃ i : Int, 0 ≤ i ∧ y = .int i) → ∀ (s : Slot) (μ : Store), ∃ s' μ', forLoop (.name 1) (exSs G fuel lawBody) ys [.val (.scr ns), s] μ = .nx [.val (.scr ns), s'] μ'
  | [], _, s, μ => ⟨s, μ, rfl⟩
  | y :: ys, h, s, μ => by
    obtain ⟨i, hi, rfl⟩ := h y (List.mem_cons_self ..)
    obtain ⟨a, b, e1⟩ := hd ns i μ hi
    obtain ⟨μ2, e2⟩ := hr _ _ (dice_at (μ := μ) (a := a) (b := b) (c := 0))
    obtain ⟨s', μ', ih⟩ := law_loop (ns := ns) hd hr ys (fun z hz => h z (List.mem_cons_of_mem _ hz)) (.val (.int i)) μ2
    refine ⟨s', μ', ?_⟩
    unfold forLoop
    generalize forLoop (.name 1) (exSs G fuel lawBody) ys = F at ih ⊢
    simp [lawBody, exSs, exS, ev, evs, Fl.of, Fl.next, Fl.opt, Out.bind, opt, Env.get, Env.put, bindT, testOf, truthy, e1, e2, ih]
theorem rangeL_int (lo hi : Int) (h : 0 ≤ lo) : ∀ y ∈ rangeL lo hi, ∃ i : Int, 0 ≤ i ∧ y = .int i := fun y hy => by
  unfold rangeL at hy
  obtain ⟨i, _, rfl⟩ := List.mem_map.mp hy
  exact ⟨_, by omega, rfl⟩
theorem law_ok {G : GT} {fuel : Nat} {ns : List Int} {lo hi : Int} (h1 : 0 ≤ lo) (h2 : lo < LINE) (h3 : 0 ≤ hi) (h4 : hi < LINE) (hd : DiceOk (G.call "_law_dice")) (hr : ∀ l μ, Dice l μ → ∃ μ', G.call "_law_right" [.loc l] μ = .ok (.bl true) μ') : ∃ μ', runF G fuel (fLaw lo hi) [.scr ns] [] = .ok (.bl true) μ' := by
  obtain ⟨m, hm⟩ : ∃ m : Int, m = (if (ns.length : Int) < hi then (ns.length : Int) else hi) := ⟨_, rfl⟩
  obtain ⟨j, hj⟩ : ∃ j : Int, j = (if m > lo then m else lo) := ⟨_, rfl⟩
  have hm2 : m ≤ hi := by rw [hm]; split <;> omega
  have hj1 : 0 ≤ j ∧ j < LINE := by rw [hj]; split <;> omega
  have hb1 : blt .min2 [.int hi, .int (ns.length : Int)] = some (.int m) := by rw [hm]; rfl
  have hb2 : blt .max2 [.int lo, .int m] = some (.int j) := by rw [hj]; rfl
  have hb3 : blt .len [.scr ns] = some (.int (ns.length : Int)) := rfl
  have hit : iterD .rng1 [.int j] = some (rangeL 0 j) := by
    show (if -(2 ^ 62) ≤ j ∧ j < LINE then some (rangeL 0 j) else none) = _
    rw [if_pos ⟨by omega, hj1.2⟩]
  obtain ⟨s', μ', e⟩ := law_loop (ns := ns) (fuel := fuel) hd hr (rangeL 0 j) (rangeL_int 0 j (by omega)) .no []
  refine ⟨μ', ?_⟩
  simp [runF, fLaw, exSs, exS, ev, evs, Fl.of, Fl.next, Fl.opt, Out.bind, opt, Env.get, hb1, hb2, hb3, hit, e]
/-- the loop and the end, wherever they stand -/
def lawTail (lo hi : Int) : Sms := .cons (.for_ (.name 1) .rng1 (.cons (.blt .max2 (.cons (.con (.int lo)) (.cons (.blt .min2 (.cons (.con (.int hi)) (.cons (.blt .len (.cons (.var 0) .nil)) .nil))) .nil))) .nil) lawBody) (.cons (.ret (.con (.bl true))) .nil)
theorem law_tail {G : GT} {fuel : Nat} {ns : List Int} {lo hi : Int} (h1 : 0 ≤ lo) (h2 : lo < LINE) (h3 : 0 ≤ hi) (h4 : hi < LINE) (hd : DiceOk (G.call "_law_dice")) (hr : ∀ l μ, Dice l μ → ∃ μ', G.call "_law_right" [.loc l] μ = .ok (.bl true) μ') (μ : Store) : ∃ μ', exSs G fuel (lawTail lo hi) [.val (.scr ns), .no] μ = .ret (.bl true) μ' := by
  obtain ⟨m, hm⟩ : ∃ m : Int, m = (if (ns.length : Int) < hi then (ns.length : Int) else hi) := ⟨_, rfl⟩
  obtain ⟨j, hj⟩ : ∃ j : Int, j = (if m > lo then m else lo) := ⟨_, rfl⟩
  have hm2 : m ≤ hi := by rw [hm]; split <;> omega
  have hj1 : 0 ≤ j ∧ j < LINE := by rw [hj]; split <;> omega
  have hb1 : blt .min2 [.int hi, .int (ns.length : Int)] = some (.int m) := by rw [hm]; rfl
  have hb2 : blt .max2 [.int lo, .int m] = some (.int j) := by rw [hj]; rfl
  have hb3 : blt .len [.scr ns] = some (.int (ns.length : Int)) := rfl
  have hit : iterD .rng1 [.int j] = some (rangeL 0 j) := by
    show (if -(2 ^ 62) ≤ j ∧ j < LINE then some (rangeL 0 j) else none) = _
    rw [if_pos ⟨by omega, hj1.2⟩]
  obtain ⟨s', μ', e⟩ := law_loop (ns := ns) (fuel := fuel) hd hr (rangeL 0 j) (rangeL_int 0 j (by omega)) .no μ
  refine ⟨μ', ?_⟩
  simp [lawTail, exSs, exS, ev, evs, Fl.of, Fl.next, Fl.opt, Out.bind, opt, Env.get, hb1, hb2, hb3, hit, e]
/-! ### the same for any case function -/
def lawBodyN (f : Str) : Sms := .cons (.ite (.not_ (.call f (.cons (.call "_law_dice" (.cons (.var 0) (.cons (.var 1) .nil))) .nil))) (.cons (.ret (.con (.bl false))) .nil) .nil) .nil
theorem law_loopN {G : GT} {fuel : Nat} {f : Str} {ns : List Int} (hd : DiceOk (G.call "_law_dice")) (hr : ∀ l μ, Dice l μ → ∃ μ', G.call f [.loc l] μ = .ok (.bl true) μ') : ∀ (ys : List D), (∀ y ∈ ys, ∃ i : Int, 0 ≤ i ∧ y = .int i) → ∀ (s : Slot) (μ : Store), ∃ s' μ', forLoop (.name 1) (exSs G fuel (lawBodyN f)) ys [.val (.scr ns), s] μ = .nx [.val (.scr ns), s'] μ'
  | [], _, s, μ => ⟨s, μ, rfl⟩
  | y :: ys, h, s, μ => by
    obtain ⟨i, hi, rfl⟩ := h y (List.mem_cons_self ..)
    obtain ⟨a, b, e1⟩ := hd ns i μ hi
    obtain ⟨μ2, e2⟩ := hr _ _ (dice_at (μ := μ) (a := a) (b := b) (c := 0))
    obtain ⟨s', μ', ih⟩ := law_loopN (ns := ns) hd hr ys (fun z hz => h z (List.mem_cons_of_mem _ hz)) (.val (.int i)) μ2
    refine ⟨s', μ', ?_⟩
    unfold forLoop
    generalize forLoop (.name 1) (exSs G fuel (lawBodyN f)) ys = F at ih ⊢
    simp [lawBodyN, exSs, exS, ev, evs, Fl.of, Fl.next, Fl.opt, Out.bind, opt, Env.get, Env.put, bindT, testOf, truthy, e1, e2, ih]
/-- the loop and the end, wherever they stand -/
def lawTailN (f : Str) (lo hi : Int) : Sms := .cons (.for_ (.name 1) .rng1 (.cons (.blt .max2 (.cons (.con (.int lo)) (.cons (.blt .min2 (.cons (.con (.int hi)) (.cons (.blt .len (.cons (.var 0) .nil)) .nil))) .nil))) .nil) (lawBodyN f)) (.cons (.ret (.con (.bl true))) .nil)
theorem law_tailN {G : GT} {fuel : Nat} {f : Str} {ns : List Int} {lo hi : Int} (h1 : 0 ≤ lo) (h2 : lo < LINE) (h3 : 0 ≤ hi) (h4 : hi < LINE) (hd : DiceOk (G.call "_law_dice")) (hr : ∀ l μ, Dice l μ → ∃ μ', G.call f [.loc l] μ = .ok (.bl true) μ') (μ : Store) : ∃ μ', exSs G fuel (lawTailN f lo hi) [.val (.scr ns), .no] μ = .ret (.bl true) μ' := by
  obtain ⟨m, hm⟩ : ∃ m : Int, m = (if (ns.length : Int) < hi then (ns.length : Int) else hi) := ⟨_, rfl⟩
  obtain ⟨j, hj⟩ : ∃ j : Int, j = (if m > lo then m else lo) := ⟨_, rfl⟩
  have hm2 : m ≤ hi := by rw [hm]; split <;> omega
  have hj1 : 0 ≤ j ∧ j < LINE := by rw [hj]; split <;> omega
  have hb1 : blt .min2 [.int hi, .int (ns.length : Int)] = some (.int m) := by rw [hm]; rfl
  have hb2 : blt .max2 [.int lo, .int m] = some (.int j) := by rw [hj]; rfl
  have hb3 : blt .len [.scr ns] = some (.int (ns.length : Int)) := rfl
  have hit : iterD .rng1 [.int j] = some (rangeL 0 j) := by
    show (if -(2 ^ 62) ≤ j ∧ j < LINE then some (rangeL 0 j) else none) = _
    rw [if_pos ⟨by omega, hj1.2⟩]
  obtain ⟨s', μ', e⟩ := law_loopN (ns := ns) (fuel := fuel) hd hr (rangeL 0 j) (rangeL_int 0 j (by omega)) .no μ
  refine ⟨μ', ?_⟩
  simp [lawTailN, exSs, exS, ev, evs, Fl.of, Fl.next, Fl.opt, Out.bind, opt, Env.get, hb1, hb2, hb3, hit, e]
/-! ### comprehensions whose turns leave the store alone -/
theorem compLoop_map {α : Type} {f : D → Store → Out (Option D)} {g h : α → D} {μ : Store} : ∀ {xs : List α} {acc : List D}, (∀ x ∈ xs, f (g x) μ = .ok (some (h x)) μ) → compLoop f (xs.map g) acc μ = .ok (acc ++ xs.map h) μ
  | [], acc, _ => by simp [compLoop]
  | x :: xs, acc, hf => by
    have ih := compLoop_map (xs := xs) (acc := acc ++ [h x]) fun y hy => hf y (List.mem_cons_of_mem _ hy)
    rw [List.map_cons, compLoop, hf x (List.mem_cons_self ..)]
    show compLoop f (xs.map g) (acc ++ [h x]) μ = _
    rw [ih, List.append_assoc]
    rfl
theorem compLoop_filter {α : Type} {f : D → Store → Out (Option D)} {g h : α → D} {p : α → Bool} {μ : Store} : ∀ {xs : List α} {acc : List D}, (∀ x ∈ xs, f (g x) μ = .ok (if p x then some (h x) else none) μ) → compLoop f (xs.map g) acc μ = .ok (acc ++ (xs.filter p).map h) μ
  | [], acc, _ => by simp [compLoop]
  | x :: xs, acc, hf => by
    have hx := hf x (List.mem_cons_self ..)
    rw [List.map_cons, compLoop, hx]
    cases e : p x with
    | true =>
      have ih := compLoop_filter (p := p) (xs := xs) (acc := acc ++ [h x]) fun y hy => hf y (List.mem_cons_of_mem _ hy)
      show compLoop f (xs.map g) (acc ++ [h x]) μ = _
      rw [ih, List.filter_cons, e, List.append_assoc]
      rfl
    | false =>
      have ih := compLoop_filter (p := p) (xs := xs) (acc := acc) fun y hy => hf y (List.mem_cons_of_mem _ hy)
      show compLoop f (xs.map g) acc μ = _
      rw [ih, List.filter_cons, e]
      rfl
end LD

set_option Elab.async false
set_option linter.all false
set_option maxRecDepth 100000
set_option maxHeartbeats 0
namespace Lk77
open PySem PySem.Spec PyProof.Rows L2 LD
abbrev top (i : Nat) : Stmt := PySem.Challenge.pw_lentdoors_k77_reasons_exclude.main.body.getD i (.Pass ⟨0, 0, 0, 0⟩)
def f_is_name : Fn := ⟨1, 2,
    (.cons (.ret (.and_ (.blt .isinst (.cons (.var 0) (.cons (.con (.ty "str")) .nil))) (.and_ (.chain .le .le (.con (.int 1)) (.blt .len (.cons (.var 0) .nil)) (.con (.int 8))) (.blt .all1 (.cons (.comp (.cmp .in_ (.var 1) (.glob "LETTERS")) (.name 1) .val (.cons (.var 0) .nil) none) .nil))))) .nil)⟩
def e_is_name : Ent := ⟨"is_name", defArgs (top 9), defBody (top 9), defScope (top 9), ["value", "sign"], f_is_name⟩
theorem b_is_name : e_is_name.binds := fun _ _ _ _ _ _ us hl => match us, hl with | [_], _ => rfl
def f_is_kind : Fn := ⟨1, 4,
    (.cons (.ite (.or_ (.not_ (.blt .isinst (.cons (.var 0) (.cons (.con (.ty "tuple")) .nil)))) (.cmp .ne (.blt .len (.cons (.var 0) .nil)) (.con (.int 3))))
      (.cons (.ret (.con (.bl false))) .nil)
      (.nil))
    (.cons (.asg (.tup [1, 2, 3]) (.var 0))
    (.cons (.ret (.and_ (.cmp .in_ (.var 1) (.glob "LENDINGS")) (.and_ (.cmp .in_ (.var 2) (.glob "LETTINGS")) (.cmp .in_ (.var 3) (.glob "TURNINGS"))))) .nil)))⟩
def e_is_kind : Ent := ⟨"is_kind", defArgs (top 10), defBody (top 10), defScope (top 10), ["value", "lending", "letting", "turning"], f_is_kind⟩
theorem b_is_kind : e_is_kind.binds := fun _ _ _ _ _ _ us hl => match us, hl with | [_], _ => rfl
def f_require_kind : Fn := ⟨1, 1,
    (.cons (.ite (.not_ (.call "is_kind" (.cons (.var 0) .nil)))
      (.cons (.rais "InvalidKind") .nil)
      (.nil)) .nil)⟩
def e_require_kind : Ent := ⟨"require_kind", defArgs (top 11), defBody (top 11), defScope (top 11), ["kind"], f_require_kind⟩
theorem b_require_kind : e_require_kind.binds := fun _ _ _ _ _ _ us hl => match us, hl with | [_], _ => rfl
def f_is_as_loose : Fn := ⟨2, 2,
    (.cons (.expr (.call "require_kind" (.cons (.var 0) .nil)))
    (.cons (.expr (.call "require_kind" (.cons (.var 1) .nil)))
    (.cons (.ite (.or_ (.cmp .gt (.meth .tindex (.glob "LENDINGS") (.cons (.idx (.var 0) (.con (.int 0))) .nil)) (.meth .tindex (.glob "LENDINGS") (.cons (.idx (.var 1) (.con (.int 0))) .nil))) (.cmp .gt (.meth .tindex (.glob "LETTINGS") (.cons (.idx (.var 0) (.con (.int 1))) .nil)) (.meth .tindex (.glob "LETTINGS") (.cons (.idx (.var 1) (.con (.int 1))) .nil))))
      (.cons (.ret (.con (.bl false))) .nil)
      (.nil))
    (.cons (.ret (.or_ (.cmp .eq (.idx (.var 0) (.con (.int 2))) (.idx (.var 1) (.con (.int 2)))) (.cmp .eq (.idx (.var 1) (.con (.int 2))) (.con (.str "never"))))) .nil))))⟩
def e_is_as_loose : Ent := ⟨"is_as_loose", defArgs (top 12), defBody (top 12), defScope (top 12), ["kind", "other"], f_is_as_loose⟩
theorem b_is_as_loose : e_is_as_loose.binds := fun _ _ _ _ _ _ us hl => match us, hl with | [_, _], _ => rfl
def f_is_free_name : Fn := ⟨1, 1,
    (.cons (.ret (.and_ (.call "is_name" (.cons (.var 0) .nil)) (.cmp .ne (.var 0) (.glob "OUTERMOST")))) .nil)⟩
def e_is_free_name : Ent := ⟨"is_free_name", defArgs (top 15), defBody (top 15), defScope (top 15), ["value"], f_is_free_name⟩
theorem b_is_free_name : e_is_free_name.binds := fun _ _ _ _ _ _ us hl => match us, hl with | [_], _ => rfl
def f_are_ascending : Fn := ⟨1, 3,
    (.cons (.ret (.blt .all1 (.cons (.comp (.cmp .lt (.var 1) (.var 2)) (.tup [1, 2]) .zip (.cons (.var 0) (.cons (.slice .lo (.var 0) (.cons (.con (.int 1)) .nil)) .nil)) none) .nil))) .nil)⟩
def e_are_ascending : Ent := ⟨"are_ascending", defArgs (top 16), defBody (top 16), defScope (top 16), ["values", "one", "other"], f_are_ascending⟩
theorem b_are_ascending : e_are_ascending.binds := fun _ _ _ _ _ _ us hl => match us, hl with | [_], _ => rfl
def f_is_lot : Fn := ⟨1, 4,
    (.cons (.ite (.or_ (.not_ (.blt .isinst (.cons (.var 0) (.cons (.con (.ty "tuple")) .nil)))) (.not_ (.chain .le .le (.con (.int 1)) (.blt .len (.cons (.var 0) .nil)) (.glob "MAX_OFFERED"))))
      (.cons (.ret (.con (.bl false))) .nil)
      (.nil))
    (.cons (.ite (.not_ (.blt .all1 (.cons (.comp (.and_ (.blt .isinst (.cons (.var 1) (.cons (.con (.ty "tuple")) .nil))) (.cmp .eq (.blt .len (.cons (.var 1) .nil)) (.con (.int 2)))) (.name 1) .val (.cons (.var 0) .nil) none) .nil)))
      (.cons (.ret (.con (.bl false))) .nil)
      (.nil))
    (.cons (.ite (.not_ (.blt .all1 (.cons (.comp (.and_ (.call "is_free_name" (.cons (.var 2) .nil)) (.call "is_kind" (.cons (.var 3) .nil))) (.tup [2, 3]) .val (.cons (.var 0) .nil) none) .nil)))
      (.cons (.ret (.con (.bl false))) .nil)
      (.nil))
    (.cons (.ret (.call "are_ascending" (.cons (.comp (.idx (.var 1) (.con (.int 0))) (.name 1) .val (.cons (.var 0) .nil) none) .nil))) .nil))))⟩
def e_is_lot : Ent := ⟨"is_lot", defArgs (top 19), defBody (top 19), defScope (top 19), ["value", "row", "box", "kind"], f_is_lot⟩
theorem b_is_lot : e_is_lot.binds := fun _ _ _ _ _ _ us hl => match us, hl with | [_], _ => rfl
def f_boxes_of : Fn := ⟨1, 3,
    (.cons (.ret (.comp (.var 1) (.tup [1, 2]) .val (.cons (.var 0) .nil) none)) .nil)⟩
def e_boxes_of : Ent := ⟨"boxes_of", defArgs (top 20), defBody (top 20), defScope (top 20), ["lot", "box", "kind"], f_boxes_of⟩
theorem b_boxes_of : e_boxes_of.binds := fun _ _ _ _ _ _ us hl => match us, hl with | [_], _ => rfl
def f_is_above : Fn := ⟨2, 4,
    (.cons (.ret (.blt .all1 (.cons (.comp (.call "is_as_loose" (.cons (.idx (.var 2) (.con (.int 1))) (.cons (.idx (.var 3) (.con (.int 1))) .nil))) (.tup [2, 3]) .zip (.cons (.var 0) (.cons (.var 1) .nil)) none) .nil))) .nil)⟩
def e_is_above : Ent := ⟨"is_above", defArgs (top 21), defBody (top 21), defScope (top 21), ["lot", "other", "one", "two"], f_is_above⟩
theorem b_is_above : e_is_above.binds := fun _ _ _ _ _ _ us hl => match us, hl with | [_, _], _ => rfl
def f_excludes_in : Fn := ⟨2, 2,
    (.cons (.ret (.ite (.cmp .eq (.idx (.var 0) (.con (.int 0))) (.glob "UNHEARD")) (.call "is_above" (.cons (.idx (.var 0) (.con (.int 1))) (.cons (.var 1) .nil))) (.call "is_above" (.cons (.var 1) (.cons (.idx (.var 0) (.con (.int 1))) .nil))))) .nil)⟩
def e_excludes_in : Ent := ⟨"excludes_in", defArgs (top 25), defBody (top 25), defScope (top 25), ["reason", "lot"], f_excludes_in⟩
theorem b_excludes_in : e_excludes_in.binds := fun _ _ _ _ _ _ us hl => match us, hl with | [_, _], _ => rfl
def f_excludes : Fn := ⟨2, 2,
    (.cons (.ite (.or_ (.not_ (.blt .isinst (.cons (.var 0) (.cons (.con (.ty "tuple")) .nil)))) (.or_ (.cmp .ne (.blt .len (.cons (.var 0) .nil)) (.con (.int 4))) (.not_ (.blt .isinst (.cons (.idx (.var 0) (.con (.int 0))) (.cons (.con (.ty "str")) .nil))))))
      (.cons (.rais "InvalidOperation") .nil)
      (.nil))
    (.cons (.ite (.or_ (.cmp .notin (.idx (.var 0) (.con (.int 0))) (.tup (.cons (.glob "UNHEARD") (.cons (.glob "HEARD") .nil)))) (.or_ (.not_ (.call "is_lot" (.cons (.idx (.var 0) (.con (.int 1))) .nil))) (.not_ (.call "is_lot" (.cons (.var 1) .nil)))))
      (.cons (.rais "InvalidOperation") .nil)
      (.nil))
    (.cons (.ite (.cmp .ne (.call "boxes_of" (.cons (.idx (.var 0) (.con (.int 1))) .nil)) (.call "boxes_of" (.cons (.var 1) .nil)))
      (.cons (.rais "InvalidOperation") .nil)
      (.nil))
    (.cons (.ret (.call "excludes_in" (.cons (.var 0) (.cons (.var 1) .nil)))) .nil))))⟩
def e_excludes : Ent := ⟨"excludes", defArgs (top 26), defBody (top 26), defScope (top 26), ["reason", "lot"], f_excludes⟩
theorem b_excludes : e_excludes.binds := fun _ _ _ _ _ _ us hl => match us, hl with | [_, _], _ => rfl
abbrev f__law_dice : Fn := LD.fDiceB
def e__law_dice : Ent := ⟨"_law_dice", defArgs (top 28), defBody (top 28), defScope (top 28), ["_law_script", "_law_at", "_law_cell", "_law_great", "_law_blend"], f__law_dice⟩
theorem b__law_dice : e__law_dice.binds := fun _ _ _ _ _ _ us hl => match us, hl with | [_, _], _ => rfl
abbrev f__law_roll : Fn := LD.fRollB
def e__law_roll : Ent := ⟨"_law_roll", defArgs (top 29), defBody (top 29), defScope (top 29), ["_law_dice_here", "_law_total", "_law_one", "_law_two", "_law_found"], f__law_roll⟩
theorem b__law_roll : e__law_roll.binds := fun _ _ _ _ _ _ us hl => match us, hl with | [_, _], _ => rfl
abbrev f__law_pick : Fn := LD.fPick
def e__law_pick : Ent := ⟨"_law_pick", defArgs (top 30), defBody (top 30), defScope (top 30), ["_law_dice_here", "_law_items"], f__law_pick⟩
theorem b__law_pick : e__law_pick.binds := fun _ _ _ _ _ _ us hl => match us, hl with | [_, _], _ => rfl
def f__law_mixed : Fn := ⟨2, 4,
    (.cons (.asg (.name 2) (.newc (.var 1)))
    (.cons (.ret (.comp (.popl (.var 2) (.call "_law_roll" (.cons (.var 0) (.cons (.llen (.var 2)) .nil)))) (.name 3) .rng1 (.cons (.blt .len (.cons (.var 1) .nil)) .nil) none)) .nil))⟩
def e__law_mixed : Ent := ⟨"_law_mixed", defArgs (top 31), defBody (top 31), defScope (top 31), ["_law_dice_here", "_law_items", "_law_left", "_law_turn"], f__law_mixed⟩
theorem b__law_mixed : e__law_mixed.binds := fun _ _ _ _ _ _ us hl => match us, hl with | [_, _], _ => rfl
def f__law_any_kind : Fn := ⟨1, 3,
    (.cons (.par [(1, false), (2, false)] (.cons (.call "_law_pick" (.cons (.var 0) (.cons (.lst (.cons (.con (.str "source")) (.cons (.con (.str "address")) (.cons (.con (.str "door")) .nil)))) .nil))) (.cons (.call "_law_pick" (.cons (.var 0) (.cons (.lst (.cons (.con (.str "any")) (.cons (.con (.str "address")) (.cons (.con (.str "door")) .nil)))) .nil))) .nil)))
    (.cons (.ret (.tup (.cons (.var 1) (.cons (.var 2) (.cons (.call "_law_pick" (.cons (.var 0) (.cons (.lst (.cons (.con (.str "never")) (.cons (.con (.str "lent")) (.cons (.con (.str "inner")) .nil)))) .nil))) .nil))))) .nil))⟩
def e__law_any_kind : Ent := ⟨"_law_any_kind", defArgs (top 32), defBody (top 32), defScope (top 32), ["_law_dice_here", "_law_lending", "_law_letting"], f__law_any_kind⟩
theorem b__law_any_kind : e__law_any_kind.binds := fun _ _ _ _ _ _ us hl => match us, hl with | [_], _ => rfl
def f__law_is_looser : Fn := ⟨2, 4,
    (.cons (.par [(2, false), (3, false)] (.cons (.lst (.cons (.con (.str "source")) (.cons (.con (.str "address")) (.cons (.con (.str "door")) .nil)))) (.cons (.lst (.cons (.con (.str "any")) (.cons (.con (.str "address")) (.cons (.con (.str "door")) .nil)))) .nil)))
    (.cons (.ite (.or_ (.cmp .gt (.meth .lindex (.var 2) (.cons (.idx (.var 0) (.con (.int 0))) .nil)) (.meth .lindex (.var 2) (.cons (.idx (.var 1) (.con (.int 0))) .nil))) (.cmp .gt (.meth .lindex (.var 3) (.cons (.idx (.var 0) (.con (.int 1))) .nil)) (.meth .lindex (.var 3) (.cons (.idx (.var 1) (.con (.int 1))) .nil))))
      (.cons (.ret (.con (.bl false))) .nil)
      (.nil))
    (.cons (.ret (.cmp .in_ (.idx (.var 1) (.con (.int 2))) (.tup (.cons (.con (.str "never")) (.cons (.idx (.var 0) (.con (.int 2))) .nil))))) .nil)))⟩
def e__law_is_looser : Ent := ⟨"_law_is_looser", defArgs (top 33), defBody (top 33), defScope (top 33), ["_law_kind", "_law_other", "_law_lendings", "_law_lettings"], f__law_is_looser⟩
theorem b__law_is_looser : e__law_is_looser.binds := fun _ _ _ _ _ _ us hl => match us, hl with | [_, _], _ => rfl
def f__law_is_above : Fn := ⟨2, 3,
    (.cons (.ret (.cmp .eq (.comp (.var 2) (.name 2) .rng1 (.cons (.blt .len (.cons (.var 0) .nil)) .nil) (some (.not_ (.call "_law_is_looser" (.cons (.idx (.idx (.var 0) (.var 2)) (.con (.int 1))) (.cons (.idx (.idx (.var 1) (.var 2)) (.con (.int 1))) .nil)))))) (.lst (.nil)))) .nil)⟩
def e__law_is_above : Ent := ⟨"_law_is_above", defArgs (top 34), defBody (top 34), defScope (top 34), ["_law_lot", "_law_other", "_law_at"], f__law_is_above⟩
theorem b__law_is_above : e__law_is_above.binds := fun _ _ _ _ _ _ us hl => match us, hl with | [_, _], _ => rfl
def f__law_told : Fn := ⟨2, 2,
    (.cons (.try_ (.cons (.ret (.call "excludes" (.cons (.var 0) (.cons (.var 1) .nil)))) .nil) "InvalidOperation" "operation") .nil)⟩
def e__law_told : Ent := ⟨"_law_told", defArgs (top 35), defBody (top 35), defScope (top 35), ["_law_reason", "_law_lot"], f__law_told⟩
theorem b__law_told : e__law_told.binds := fun _ _ _ _ _ _ us hl => match us, hl with | [_, _], _ => rfl
def f__law_near : Fn := ⟨2, 4,
    (.cons (.par [(2, false), (3, false)] (.cons (.call "_law_roll" (.cons (.var 0) (.cons (.con (.int 4)) .nil))) (.cons (.call "_law_any_kind" (.cons (.var 0) .nil)) .nil)))
    (.cons (.ret (.ite (.cmp .eq (.var 2) (.con (.int 3))) (.var 3) (.bin .add (.bin .add (.slice .hi (.var 1) (.cons (.var 2) .nil)) (.slice .both (.var 3) (.cons (.var 2) (.cons (.bin .add (.var 2) (.con (.int 1))) .nil)))) (.slice .lo (.var 1) (.cons (.bin .add (.var 2) (.con (.int 1))) .nil))))) .nil))⟩
def e__law_near : Ent := ⟨"_law_near", defArgs (top 36), defBody (top 36), defScope (top 36), ["_law_dice_here", "_law_kind", "_law_at", "_law_other"], f__law_near⟩
theorem b__law_near : e__law_near.binds := fun _ _ _ _ _ _ us hl => match us, hl with | [_, _], _ => rfl
def f__law_case_l0 : Sms :=
    (.cons (.asg (.name 12) (.comp (.call "_law_told" (.cons (.tup (.cons (.var 13) (.cons (.var 10) (.cons (.var 8) (.cons (.var 9) .nil))))) (.cons (.var 11) .nil))) (.name 13) .val (.cons (.lst (.cons (.con (.str "unheard")) (.cons (.con (.str "heard")) .nil))) .nil) none))
    (.cons (.ite (.or_ (.not_ (.blt .isinst (.cons (.idx (.var 12) (.con (.int 0))) (.cons (.con (.ty "bool")) .nil)))) (.not_ (.blt .isinst (.cons (.idx (.var 12) (.con (.int 1))) (.cons (.con (.ty "bool")) .nil)))))
      (.cons (.ret (.con (.bl false))) .nil)
      (.nil))
    (.cons (.ite (.cmp .ne (.var 12) (.lst (.cons (.call "_law_is_above" (.cons (.var 10) (.cons (.var 11) .nil))) (.cons (.call "_law_is_above" (.cons (.var 11) (.cons (.var 10) .nil))) .nil))))
      (.cons (.ret (.con (.bl false))) .nil)
      (.nil)) .nil)))
def f__law_case_l1 : Sms :=
    (.cons (.ite (.cmp .ne (.call "_law_told" (.cons (.var 6) (.cons (.var 2) .nil))) (.con (.str "operation")))
      (.cons (.ret (.con (.bl false))) .nil)
      (.nil)) .nil)
def f__law_case_l2 : Sms :=
    (.cons (.ite (.cmp .ne (.call "_law_told" (.cons (.bin .add (.tup (.cons (.var 13) .nil)) (.var 14)) (.cons (.var 6) .nil))) (.con (.str "operation")))
      (.cons (.ret (.con (.bl false))) .nil)
      (.nil)) .nil)
def f__law_case : Fn := ⟨1, 17,
    (.cons (.asg (.name 1) (.blt .sorted1 (.cons (.slice .hi (.call "_law_mixed" (.cons (.var 0) (.cons (.lst (.cons (.con (.str "a")) (.cons (.con (.str "ab")) (.cons (.con (.str "b")) (.cons (.con (.str "left")) (.cons (.con (.str "zzzzzzzz")) .nil)))))) .nil))) (.cons (.bin .add (.con (.int 1)) (.call "_law_roll" (.cons (.var 0) (.cons (.con (.int 3)) .nil)))) .nil)) .nil)))
    (.cons (.asg (.name 2) (.blt .tuple1 (.cons (.comp (.tup (.cons (.var 15) (.cons (.call "_law_any_kind" (.cons (.var 0) .nil)) .nil))) (.name 15) .val (.cons (.var 1) .nil) none) .nil)))
    (.cons (.asg (.name 3) (.blt .tuple1 (.cons (.comp (.tup (.cons (.var 15) (.cons (.call "_law_near" (.cons (.var 0) (.cons (.var 16) .nil))) .nil))) (.tup [15, 16]) .val (.cons (.var 2) .nil) none) .nil)))
    (.cons (.asg (.tup [8, 9]) (.tup (.cons (.call "_law_pick" (.cons (.var 0) (.cons (.lst (.cons (.con .non) (.cons (.tup (.cons (.con (.str "a")) (.cons (.con (.str "b")) .nil))) (.cons (.tup (.nil)) (.cons (.con (.int 5)) .nil))))) .nil))) (.cons (.call "_law_pick" (.cons (.var 0) (.cons (.lst (.cons (.con .non) (.cons (.dict (.nil)) (.cons (.tup (.nil)) (.cons (.con (.str "talk")) .nil))))) .nil))) .nil))))
    (.cons (.for_ (.tup [10, 11]) .val (.cons (.tup (.cons (.tup (.cons (.var 2) (.cons (.var 3) .nil))) (.cons (.tup (.cons (.var 3) (.cons (.var 2) .nil))) (.cons (.tup (.cons (.var 2) (.cons (.var 2) .nil))) .nil)))) .nil) f__law_case_l0)
    (.cons (.asg (.name 4) (.bin .add (.blt .tuple1 (.cons (.comp (.tup (.cons (.bin .add (.var 15) (.con (.str "x"))) (.cons (.var 16) .nil))) (.tup [15, 16]) .val (.cons (.slice .hi (.var 2) (.cons (.neg (.con (.int 1))) .nil)) .nil) none) .nil)) (.slice .lo (.var 2) (.cons (.neg (.con (.int 1))) .nil))))
    (.cons (.par [(13, false), (14, false)] (.cons (.call "_law_pick" (.cons (.var 0) (.cons (.lst (.cons (.con (.str "unheard")) (.cons (.con (.str "heard")) .nil))) .nil))) (.cons (.tup (.cons (.var 2) (.cons (.con .non) (.cons (.con .non) .nil)))) .nil)))
    (.cons (.own 5 (.lst (.cons (.con .non) (.cons (.tup (.nil)) (.cons (.var 13) (.cons (.tup (.cons (.var 13) (.cons (.var 2) (.cons (.con .non) .nil)))) (.cons (.tup (.cons (.var 13) (.cons (.var 2) (.cons (.con .non) (.cons (.con .non) (.cons (.con .non) .nil)))))) (.cons (.lst (.cons (.var 13) (.cons (.var 2) (.cons (.con .non) (.cons (.con .non) .nil))))) (.cons (.bin .add (.tup (.cons (.con (.str "both")) .nil)) (.var 14)) .nil)))))))))
    (.cons (.fre 5)
    (.cons (.own 5 (.bin .add (.var 5) (.lst (.cons (.bin .add (.tup (.cons (.con .non) .nil)) (.var 14)) (.cons (.bin .add (.tup (.cons (.tup (.cons (.var 13) .nil)) .nil)) (.var 14)) (.cons (.tup (.cons (.var 13) (.cons (.con .non) (.cons (.con .non) (.cons (.con .non) .nil))))) (.cons (.tup (.cons (.var 13) (.cons (.blt .list1 (.cons (.var 2) .nil)) (.cons (.con .non) (.cons (.con .non) .nil))))) (.cons (.dict (.nil)) .nil))))))))
    (.cons (.fre 5)
    (.cons (.own 5 (.bin .add (.var 5) (.lst (.cons (.tup (.cons (.var 13) (.cons (.idx (.var 2) (.con (.int 0))) (.cons (.con .non) (.cons (.con .non) .nil))))) (.cons (.tup (.cons (.var 13) (.cons (.tup (.nil)) (.cons (.con .non) (.cons (.con .non) .nil))))) (.cons (.tup (.cons (.var 13) (.cons (.bin .add (.var 2) (.var 2)) (.cons (.con .non) (.cons (.con .non) .nil))))) .nil))))))
    (.cons (.app 5 (.tup (.cons (.var 2) (.cons (.var 13) (.cons (.con .non) (.cons (.con .non) .nil))))))
    (.cons (.ite (.cmp .gt (.blt .len (.cons (.var 2) .nil)) (.con (.int 1)))
      (.cons (.app 5 (.tup (.cons (.var 13) (.cons (.rev (.var 2)) (.cons (.con .non) (.cons (.con .non) .nil)))))) .nil)
      (.nil))
    (.cons (.fre 5)
    (.cons (.for_ (.name 6) .val (.cons (.var 5) .nil) f__law_case_l1)
    (.cons (.asg (.name 7) (.lst (.cons (.con .non) (.cons (.tup (.nil)) (.cons (.blt .list1 (.cons (.var 2) .nil)) (.cons (.idx (.var 2) (.con (.int 0))) (.cons (.bin .add (.var 2) (.slice .lo (.var 2) (.cons (.neg (.con (.int 1))) .nil))) (.cons (.con (.str "lot")) (.cons (.dict (.nil)) (.cons (.tup (.cons (.tup (.cons (.idx (.idx (.var 2) (.con (.int 0))) (.con (.int 0))) (.cons (.con .non) .nil))) .nil)) (.cons (.slice .lo (.var 2) (.cons (.con (.int 1)) .nil)) .nil)))))))))))
    (.cons (.ite (.cmp .gt (.blt .len (.cons (.var 2) .nil)) (.con (.int 1)))
      (.cons (.asg (.name 7) (.bin .add (.var 7) (.lst (.cons (.var 4) (.cons (.rev (.var 2)) .nil))))) .nil)
      (.nil))
    (.cons (.for_ (.name 6) .val (.cons (.var 7) .nil) f__law_case_l2)
    (.cons (.ret (.con (.bl true))) .nil))))))))))))))))))))⟩
def e__law_case : Ent := ⟨"_law_case", defArgs (top 37), defBody (top 37), defScope (top 37), ["_law_dice_here", "_law_boxes", "_law_one", "_law_two", "_law_other", "_law_odd", "_law_value", "_law_others", "_law_thing", "_law_paper", "_law_first", "_law_second", "_law_told_here", "_law_word", "_law_right", "_law_box", "_law_kind"], f__law_case⟩
theorem b__law_case : e__law_case.binds := fun _ _ _ _ _ _ us hl => match us, hl with | [_], _ => rfl
def f_law_l0 : Sms :=
    (.cons (.ite (.not_ (.call "_law_case" (.cons (.call "_law_dice" (.cons (.var 0) (.cons (.var 1) .nil))) .nil)))
      (.cons (.ret (.con (.bl false))) .nil)
      (.nil)) .nil)
def f_law : Fn := ⟨1, 2,
    (.cons (.for_ (.name 1) .rng1 (.cons (.blt .max2 (.cons (.con (.int 1)) (.cons (.blt .min2 (.cons (.con (.int 30)) (.cons (.blt .len (.cons (.var 0) .nil)) .nil))) .nil))) .nil) f_law_l0)
    (.cons (.ret (.con (.bl true))) .nil))⟩
def e_law : Ent := ⟨"law", defArgs (top 38), defBody (top 38), defScope (top 38), ["_law_script", "_law_at"], f_law⟩
theorem b_law : e_law.binds := fun _ _ _ _ _ _ us hl => match us, hl with | [_], _ => rfl
def es : List Ent := [e_is_name, e_is_kind, e_require_kind, e_is_as_loose, e_is_free_name, e_are_ascending, e_is_lot, e_boxes_of, e_is_above, e_excludes_in, e_excludes, e__law_dice, e__law_roll, e__law_pick, e__law_mixed, e__law_any_kind, e__law_is_looser, e__law_is_above, e__law_told, e__law_near, e__law_case, e_law]
def cs : List (Str × D) := [("LENDINGS", .tup [.str "source", .str "address", .str "door"]), ("LETTINGS", .tup [.str "any", .str "address", .str "door"]), ("TURNINGS", .tup [.str "never", .str "lent", .str "inner"]), ("LETTERS", .str "abcdefghijklmnopqrstuvwxyz"), ("OUTERMOST", .str "open"), ("MAX_OFFERED", .int 3), ("UNHEARD", .str "unheard"), ("HEARD", .str "heard")]
theorem es_binds : ∀ e ∈ es, e.binds := by
  intro e he
  simp only [es, List.mem_cons, List.not_mem_nil, or_false] at he
  rcases he with rfl | rfl | rfl | rfl | rfl | rfl | rfl | rfl | rfl | rfl | rfl | rfl | rfl | rfl | rfl | rfl | rfl | rfl | rfl | rfl | rfl | rfl
  · exact b_is_name
  · exact b_is_kind
  · exact b_require_kind
  · exact b_is_as_loose
  · exact b_is_free_name
  · exact b_are_ascending
  · exact b_is_lot
  · exact b_boxes_of
  · exact b_is_above
  · exact b_excludes_in
  · exact b_excludes
  · exact b__law_dice
  · exact b__law_roll
  · exact b__law_pick
  · exact b__law_mixed
  · exact b__law_any_kind
  · exact b__law_is_looser
  · exact b__law_is_above
  · exact b__law_told
  · exact b__law_near
  · exact b__law_case
  · exact b_law
def xs : List Str := ["InvalidKind", "InvalidOperation"]
def loose : List Str := ["DoorError", "InvalidKind", "InvalidOperation", "LENDINGS", "LETTINGS", "TURNINGS", "LETTERS", "is_name", "is_kind", "require_kind", "is_as_loose", "OUTERMOST", "is_free_name", "are_ascending", "MAX_OFFERED", "is_lot", "boxes_of", "is_above", "UNHEARD", "HEARD", "excludes_in", "excludes", "_law_dice", "_law_roll", "_law_pick", "_law_mixed", "_law_any_kind", "_law_is_looser", "_law_is_above", "_law_told", "_law_near", "_law_case"]
theorem es_nd : (es.map Ent.f).Nodup := by decide +kernel
theorem es_ps : es.all (fun e => decide (e.b.ps ≠ 1000)) = true := by decide +kernel
theorem es_ok : es.all (Ent.ok (tabT es xs)) = true := by decide +kernel
abbrev R : PySem.W.OpenRow := PySem.W.OpenLaw.row PySem.Challenge.rw_lentdoors_k77_reasons_exclude
abbrev hk : PySem.W.Hook := hookL 4 (faL es xs) (es.map Ent.dd) cs
def ob (s : PySem.W.SharedT) : AlL := obsLG 4 (faL es xs) (es.map Ent.dd) cs (HandSHeadRun.getT s)
theorem ob_eq (s : PySem.W.SharedT) : ob s = hk.obs s.abs := obsLG_eq (HandSHeadRun.getT_eq s)
theorem run (w : World) : HandSHeadRun.RunEq R (PySem.W.view R.prog [38]) hk ob 2000 loose w := by
  intro os
  kernel_rfl
end Lk77


set_option Elab.async false
set_option linter.all false
set_option maxRecDepth 100000
set_option maxHeartbeats 4000000
namespace Lk77
open PySem (Str)
open LD
def letters : Str := "abcdefghijklmnopqrstuvwxyz"
theorem cL : tabC cs "LETTERS" = some (.str letters) := by kernel_rfl
def sg (c : Nat) : D := .str ⟨#[c]⟩
def isL (c : Nat) : Bool := decide (c ∈ letters.cps.toList)
theorem in_sg (c : Nat) : cmpop .in_ (.str ⟨#[c]⟩) (.str letters) = some (isL c) := rfl
theorem notin_sg (c : Nat) : cmpop .notin (.str ⟨#[c]⟩) (.str letters) = some (!isL c) := rfl
/-- what is a name, of texts -/
def isN (z : Str) : Bool := decide (1 ≤ z.length) && (decide (z.length ≤ 8) && z.cps.toList.all isL)
theorem bools_map (f : Nat → Bool) : ∀ l : List Nat, bools (l.map fun c => D.bl (f c)) = some (l.map f)
  | [] => rfl
  | c :: l => by simp [bools, bools_map f l]
theorem leN (n : Nat) : cmpop .le (.int 1) (.int (n : Int)) = some (decide (1 ≤ n)) ∧ cmpop .le (.int (n : Int)) (.int 8) = some (decide (n ≤ 8)) := by
  constructor
  · show some (decide ((1 : Int) ≤ (n : Int))) = _
    congr 1
    exact decide_eq_decide.mpr (by omega)
  · show some (decide ((n : Int) ≤ 8)) = _
    congr 1
    exact decide_eq_decide.mpr (by omega)
theorem name_str {c : Str → List D → Store → Out D} (z : Str) (μ : Store) : runF ⟨tabC cs, c⟩ 0 f_is_name [.str z] μ = .ok (.bl (isN z)) μ := by
  obtain ⟨l1, l2⟩ := leN z.length
  have hc : ev ⟨tabC cs, c⟩ (.comp (.cmp .in_ (.var 1) (.glob "LETTERS")) (.name 1) .val (.cons (.var 0) .nil) none) [.val (.str z), .no] μ = .ok (.lst (z.cps.toList.map fun c => .bl (isL c))) μ := by
    simp only [ev, evs, Out.bind, opt, Env.get, iterD]
    simp only [List.getElem?_cons_zero]
    rw [compLoop_map (g := fun c => D.str ⟨#[c]⟩) (h := fun c => .bl (isL c))]
    · rfl
    · intro x _
      simp [wipeE, Tg.slots, bindT, Env.put, Env.get, opt, Out.bind, ev, cL, in_sg]
  have hb := bools_map isL z.cps.toList
  unfold isN
  by_cases h1 : 1 ≤ z.length <;> by_cases h2 : z.length ≤ 8 <;>
    simp only [h1, h2, decide_true, decide_false] at l1 l2 ⊢ <;>
    simp [runF, f_is_name, exSs, exS, Fl.of, Fl.next, ev, evs, Out.bind, opt, Env.get, blt, tyN, isB, truthy, lenD, l1, l2] <;>
    simp [ev, evs, Out.bind, opt, Env.get] at hc <;> simp [hc, hb]
def Ty (x : D) : Prop := ∃ t, tyN x = some t
def nm : D → Bool
  | .str z => isN z
  | _ => false
theorem name_ok {c : Str → List D → Store → Out D} {x : D} (h : Ty x) (μ : Store) : runF ⟨tabC cs, c⟩ 0 f_is_name [x] μ = .ok (.bl (nm x)) μ := by
  cases x with
  | str z => exact name_str z μ
  | non => simp [runF, f_is_name, exSs, exS, Fl.of, Fl.next, ev, evs, Out.bind, opt, Env.get, blt, tyN, isB, truthy, nm]
  | bl b => simp [runF, f_is_name, exSs, exS, Fl.of, Fl.next, ev, evs, Out.bind, opt, Env.get, blt, tyN, isB, truthy, nm]
  | int b => simp [runF, f_is_name, exSs, exS, Fl.of, Fl.next, ev, evs, Out.bind, opt, Env.get, blt, tyN, isB, truthy, nm]
  | tup b => simp [runF, f_is_name, exSs, exS, Fl.of, Fl.next, ev, evs, Out.bind, opt, Env.get, blt, tyN, isB, truthy, nm]
  | lst b => simp [runF, f_is_name, exSs, exS, Fl.of, Fl.next, ev, evs, Out.bind, opt, Env.get, blt, tyN, isB, truthy, nm]
  | dct b => simp [runF, f_is_name, exSs, exS, Fl.of, Fl.next, ev, evs, Out.bind, opt, Env.get, blt, tyN, isB, truthy, nm]
  | _ => obtain ⟨t, h⟩ := h; cases h
def w1 : Fin 3 → Str := fun i => match i with | 0 => "source" | 1 => "address" | 2 => "door"
def w2 : Fin 3 → Str := fun i => match i with | 0 => "any" | 1 => "address" | 2 => "door"
def w3 : Fin 3 → Str := fun i => match i with | 0 => "never" | 1 => "lent" | 2 => "inner"
def kd (i j k : Fin 3) : D := .tup [.str (w1 i), .str (w2 j), .str (w3 k)]
def L1 : List D := [.str "source", .str "address", .str "door"]
def L2 : List D := [.str "any", .str "address", .str "door"]
def L3 : List D := [.str "never", .str "lent", .str "inner"]
theorem c1 : tabC cs "LENDINGS" = some (.tup L1) := by kernel_rfl
theorem c2 : tabC cs "LETTINGS" = some (.tup L2) := by kernel_rfl
theorem c3 : tabC cs "TURNINGS" = some (.tup L3) := by kernel_rfl
/-- what is_kind answers, where the model of the answer tells it -/
def isKd : D → Option Bool
  | .tup [a, b, c] => match inSeq a L1 with
    | some true => (match inSeq b L2 with
      | some true => inSeq c L3
      | o => o)
    | o => o
  | .tup _ => some false
  | .non => some false
  | .bl _ => some false
  | .int _ => some false
  | .str _ => some false
  | .lst _ => some false
  | .dct _ => some false
  | _ => none
theorem ne3 (n : Nat) : cmpop .ne (.int (n : Int)) (.int 3) = some (decide (n ≠ 3)) := by
  show (eqD (.int (n : Int)) (.int 3)).map (!·) = _
  have e : eqD (.int (n : Int)) (.int 3) = some (decide (n = 3)) := by
    show some (PySem.PyData.eqv (.int (n : Int)) (.int 3)) = _
    have : PySem.PyData.eqv (.int (n : Int)) (.int 3) = ((n : Int) == 3) := rfl
    rw [this]
    congr 1
    by_cases h : n = 3
    · subst h; rfl
    · rw [decide_eq_false h]
      simp only [beq_eq_false_iff_ne]
      omega
  rw [e]
  simp
theorem is_kind_ok {c : Str → List D → Store → Out D} {x : D} {b : Bool} (h : isKd x = some b) (μ : Store) : runF ⟨tabC cs, c⟩ 0 f_is_kind [x] μ = .ok (.bl b) μ := by
  have no : ∀ x : D, (∃ t, tyN x = some t ∧ t ≠ "tuple") → runF ⟨tabC cs, c⟩ 0 f_is_kind [x] μ = .ok (.bl false) μ := fun x ⟨t, ht, hn⟩ => by
    simp [runF, f_is_kind, exSs, exS, ev, evs, Fl.of, Fl.next, Fl.opt, Out.bind, opt, Env.get, testOf, truthy, blt, ht, isB, hn]
  cases x with
  | non => cases h; exact no _ ⟨_, rfl, by decide⟩
  | bl b => cases h; exact no _ ⟨_, rfl, by decide⟩
  | int b => cases h; exact no _ ⟨_, rfl, by decide⟩
  | str b => cases h; exact no _ ⟨_, rfl, by decide⟩
  | lst b => cases h; exact no _ ⟨_, rfl, by decide⟩
  | dct b => cases h; exact no _ ⟨_, rfl, by decide⟩
  | tup xs =>
    by_cases hl : xs.length = 3
    · match xs, hl with
      | [p, q, r], _ =>
        have h : (match inSeq p L1 with
          | some true => (match inSeq q L2 with
            | some true => inSeq r L3
            | o => o)
          | o => o) = some b := h
        have n3 : cmpop .ne (.int 3) (.int 3) = some false := by decide +kernel
        have e1 : ∀ y ys, cmpop .in_ y (.tup ys) = inSeq y ys := fun _ _ => rfl
        simp only [runF, f_is_kind, exSs, exS, ev, evs, Fl.of, Fl.next, Fl.opt, Out.bind, opt, Env.get, Env.put, bindT, putAll, testOf, truthy, blt, tyN, isB, lenD, n3, c1, c2, c3, e1]
        cases q1 : inSeq p L1 with
        | none => rw [q1] at h; cases h
        | some b1 =>
          rw [q1] at h
          cases b1 with
          | false => cases h; simp [exSs, exS, ev, evs, Fl.of, Fl.next, Fl.opt, Out.bind, opt, Env.get, Env.put, bindT, putAll, testOf, truthy, blt, tyN, isB, lenD, n3, c1, c2, c3, e1, q1]
          | true =>
            cases q2 : inSeq q L2 with
            | none => rw [q2] at h; cases h
            | some b2 =>
              rw [q2] at h
              cases b2 with
              | false => cases h; simp [exSs, exS, ev, evs, Fl.of, Fl.next, Fl.opt, Out.bind, opt, Env.get, Env.put, bindT, putAll, testOf, truthy, blt, tyN, isB, lenD, n3, c1, c2, c3, e1, q1, q2]
              | true =>
                have h : inSeq r L3 = some b := h
                simp [exSs, exS, ev, evs, Fl.of, Fl.next, Fl.opt, Out.bind, opt, Env.get, Env.put, bindT, putAll, testOf, truthy, blt, tyN, isB, lenD, n3, c1, c2, c3, e1, q1, q2, h]
    · have e : isKd (.tup xs) = some false := by
        match xs, hl with
        | [], _ => rfl
        | [_], _ => rfl
        | [_, _], _ => rfl
        | _ :: _ :: _ :: _ :: _, _ => rfl
      rw [e] at h
      cases h
      have n3 := ne3 xs.length
      rw [decide_eq_true hl] at n3
      simp [runF, f_is_kind, exSs, exS, ev, evs, Fl.of, Fl.next, Fl.opt, Out.bind, opt, Env.get, testOf, truthy, blt, tyN, isB, lenD, n3]
  | ins _ _ => cases h
  | loc _ => cases h
  | ty _ => cases h
  | glob _ => cases h
  | scr _ => cases h
def lo (i j k i' j' k' : Fin 3) : Bool := !(decide (i' < i) || decide (j' < j)) && (decide (k = k') || decide (k' = 0))
theorem in1 : ∀ i, cmpop .in_ (.str (w1 i)) (.tup L1) = some true := by decide +kernel
theorem in2 : ∀ i, cmpop .in_ (.str (w2 i)) (.tup L2) = some true := by decide +kernel
theorem in3 : ∀ i, cmpop .in_ (.str (w3 i)) (.tup L3) = some true := by decide +kernel
theorem ix1 : ∀ i, meth .tindex (.tup L1) [.str (w1 i)] = some (.int ((i : Nat) : Int)) := fun i => match i with | 0 => by kernel_rfl | 1 => by kernel_rfl | 2 => by kernel_rfl
theorem ix2 : ∀ i, meth .tindex (.tup L2) [.str (w2 i)] = some (.int ((i : Nat) : Int)) := fun i => match i with | 0 => by kernel_rfl | 1 => by kernel_rfl | 2 => by kernel_rfl
theorem eq3 : ∀ i j, cmpop .eq (.str (w3 i)) (.str (w3 j)) = some (decide (i = j)) := by decide +kernel
theorem eqN : ∀ i, cmpop .eq (.str (w3 i)) (.str "never") = some (decide (i = 0)) := by decide +kernel
theorem require_ok {c : Str → List D → Store → Out D} (h : ∀ i j k μ, c "is_kind" [kd i j k] μ = .ok (.bl true) μ) (i j k : Fin 3) (μ : Store) : runF ⟨tabC cs, c⟩ 0 f_require_kind [kd i j k] μ = .ok .non μ := by
  simp [runF, f_require_kind, exSs, exS, ev, evs, Fl.of, Fl.next, Fl.opt, Out.bind, opt, Env.get, testOf, truthy, h]
theorem w_idx (i j k : Fin 3) (μ : Store) : idxD (kd i j k) (.int 0) μ = some (.str (w1 i)) ∧ idxD (kd i j k) (.int 1) μ = some (.str (w2 j)) ∧ idxD (kd i j k) (.int 2) μ = some (.str (w3 k)) := ⟨rfl, rfl, rfl⟩
theorem loose_gen {c : Str → List D → Store → Out D} (h : ∀ i j k μ, c "require_kind" [kd i j k] μ = .ok .non μ) (i j k i' j' k' : Fin 3) (μ : Store) : runF ⟨tabC cs, c⟩ 0 f_is_as_loose [kd i j k, kd i' j' k'] μ = .ok (.bl (lo i j k i' j' k')) μ := by
  obtain ⟨a1, a2, a3⟩ := w_idx i j k μ
  obtain ⟨b1, b2, b3⟩ := w_idx i' j' k' μ
  have g1 : cmpop .gt (.int ((i : Nat) : Int)) (.int ((i' : Nat) : Int)) = some (decide (i' < i)) := by simp [cmpop, Fin.lt_def]
  have g2 : cmpop .gt (.int ((j : Nat) : Int)) (.int ((j' : Nat) : Int)) = some (decide (j' < j)) := by simp [cmpop, Fin.lt_def]
  have e1 := eq3 k k'
  have e2 := eqN k'
  have h1 := h i j k μ
  have h2 := h i' j' k' μ
  have m1 : mthOk .tindex (.tup L1) = true := rfl
  have m2 : mthOk .tindex (.tup L2) = true := rfl
  unfold lo
  generalize kd i j k = x at *
  generalize kd i' j' k' = y at *
  generalize decide (i' < i) = p at *
  generalize decide (j' < j) = r at *
  generalize decide (k = k') = s at *
  generalize decide (k' = 0) = t at *
  cases p <;> cases r <;> cases s <;> cases t <;>
    simp [runF, f_is_as_loose, exSs, exS, ev, evs, Fl.of, Fl.next, Fl.opt, Out.bind, opt, Env.get, testOf, truthy, h1, h2, a1, a2, a3, b1, b2, b3, c1, c2, m1, m2, ix1, ix2, g1, g2, e1, e2]
end Lk77

set_option Elab.async false
set_option linter.all false
set_option maxRecDepth 100000
set_option maxHeartbeats 4000000
namespace Lk77
open PySem (Str)
open LD
abbrev K3 := Fin 3 × Fin 3 × Fin 3
def kk (k : K3) : D := kd k.1 k.2.1 k.2.2
def loK (k k' : K3) : Bool := lo k.1 k.2.1 k.2.2 k'.1 k'.2.1 k'.2.2
abbrev Lot := List (Str × K3)
def rowD (p : Str × K3) : D := .tup [.str p.1, kk p.2]
def lotD (L : Lot) : D := .tup (L.map rowD)
def NM : List Str := ["a", "ab", "b", "left", "zzzzzzzz", "ax", "abx", "bx", "leftx"]
theorem nm_n : NM.all (fun z => isN z && decide (cmpop .ne (.str z) (.str "open") = some true) && PySem.PyData.strOk z) = true := by decide +kernel
theorem cO : tabC cs "OUTERMOST" = some (.str "open") := by kernel_rfl
theorem cM : tabC cs "MAX_OFFERED" = some (.int 3) := by kernel_rfl
theorem cU : tabC cs "UNHEARD" = some (.str "unheard") := by kernel_rfl
theorem cH : tabC cs "HEARD" = some (.str "heard") := by kernel_rfl
theorem free_ok {c : Str → List D → Store → Out D} (hn : ∀ x μ, Ty x → c "is_name" [x] μ = .ok (.bl (nm x)) μ) {z : Str} (hz : z ∈ NM) (μ : Store) : runF ⟨tabC cs, c⟩ 0 f_is_free_name [.str z] μ = .ok (.bl true) μ := by
  have q := List.all_eq_true.mp nm_n z hz
  simp only [Bool.and_eq_true, decide_eq_true_eq] at q
  have h1 := fun μ => hn (.str z) μ ⟨_, rfl⟩
  have h2 : nm (.str z) = true := q.1.1
  rw [h2] at h1
  simp [runF, f_is_free_name, exSs, exS, ev, evs, Fl.of, Fl.next, Out.bind, opt, Env.get, truthy, h1, cO, q.1.2]
/-- strictly ascending -/
def asc (zs : List Str) : Bool := (zs.zip (zs.drop 1)).all fun p => decide (p.1.cps.toList < p.2.cps.toList)
theorem zip_str (xs ys : List Str) : zipD (xs.map D.str) (ys.map D.str) = (xs.zip ys).map fun p => .tup [.str p.1, .str p.2] := by
  unfold zipD
  rw [List.zip_map, List.map_map]
  rfl
theorem cut_one {α : Type} (xs : List α) : cutD xs (some 1) none = xs.drop 1 := by
  unfold cutD
  have h1 : HT.sIx xs.length 0 (some 1) = min 1 xs.length := by
    simp [HT.sIx]
  have h2 : HT.sIx xs.length xs.length none = xs.length := rfl
  rw [h1, h2]
  cases xs with
  | nil => rfl
  | cons x xs =>
    have : min 1 (x :: xs).length = 1 := by simp
    rw [this]
    simp
theorem bools_all {α : Type} (f : α → Bool) : ∀ l : List α, bools (l.map fun c => D.bl (f c)) = some (l.map f)
  | [] => rfl
  | c :: l => by simp [bools, bools_all f l]
theorem asc_ok {G : GT} (zs : List Str) (μ : Store) : runF G 0 f_are_ascending [.lst (zs.map D.str)] μ = .ok (.bl (asc zs)) μ := by
  have hc : ev G (.comp (.cmp .lt (.var 1) (.var 2)) (.tup [1, 2]) .zip (.cons (.var 0) (.cons (.slice .lo (.var 0) (.cons (.con (.int 1)) .nil)) .nil)) none) [.val (.lst (zs.map D.str)), .no, .no] μ = .ok (.lst ((zs.zip (zs.drop 1)).map fun p => .bl (decide (p.1.cps.toList < p.2.cps.toList)))) μ := by
    have hs : sliceD (.lst (zs.map D.str)) (some 1, none) = some (.lst ((zs.drop 1).map D.str)) := by
      show some (D.lst (cutD (zs.map D.str) (some 1) none)) = _
      rw [cut_one, List.map_drop]
    have hit : iterD .zip [.lst (zs.map D.str), .lst ((zs.drop 1).map D.str)] = some ((zs.zip (zs.drop 1)).map fun p => .tup [.str p.1, .str p.2]) := by
      rw [← zip_str]; rfl
    have q1 : evs G (.cons (.var 0) (.cons (.slice .lo (.var 0) (.cons (.con (.int 1)) .nil)) .nil)) [.val (.lst (zs.map D.str)), .no, .no] μ = .ok [.lst (zs.map D.str), .lst ((zs.drop 1).map D.str)] μ := by
      simp [evs, ev, Out.bind, opt, Env.get, part, hs]
    rw [ev, q1, Out.bind_ok, hit]
    dsimp only
    rw [compLoop_map (g := fun p : Str × Str => D.tup [.str p.1, .str p.2]) (h := fun p => .bl (decide (p.1.cps.toList < p.2.cps.toList)))]
    · rfl
    · intro x _
      simp [wipeE, Tg.slots, bindT, putAll, Env.put, Env.get, opt, Out.bind, ev, cmpop]
  have hb := bools_all (fun p : Str × Str => decide (p.1.cps.toList < p.2.cps.toList)) (zs.zip (zs.drop 1))
  refine runF_ret rfl (exSs_ret ?_)
  rw [exS, ev, evs]
  show Fl.of _ (((ev G _ [.val (.lst (zs.map D.str)), .no, .no] μ).bind _).bind _) _ = _
  rw [hc]
  show Fl.of _ (opt (blt .all1 [.lst ((zs.zip (zs.drop 1)).map fun p => .bl (decide (p.1.cps.toList < p.2.cps.toList)))]) μ) _ = _
  have hbl : blt .all1 [.lst ((zs.zip (zs.drop 1)).map fun p => D.bl (decide (p.1.cps.toList < p.2.cps.toList)))] = some (.bl (asc zs)) := by
    show (bools _).map (fun bs => D.bl (bs.all id)) = _
    rw [hb]
    show some (D.bl (List.all (List.map _ _) id)) = _
    rw [List.all_map]
    rfl
  rw [hbl]
  rfl
/-! ### lots -/
inductive Row where
  | pair (z : Str) (k : D) (b : Bool) | txt (z : Str) | tri (a b c : D)
def Row.d : Row → D
  | .pair z k _ => .tup [.str z, k]
  | .txt z => .str z
  | .tri a b c => .tup [a, b, c]
def Row.ok : Row → Prop
  | .pair z k b => z ∈ NM ∧ isKd k = some b
  | _ => True
def Row.isP : Row → Bool
  | .pair _ _ _ => true
  | _ => false
def Row.k : Row → Bool
  | .pair _ _ b => b
  | _ => false
def Row.z : Row → Str
  | .pair z _ _ => z
  | _ => ""
def isLot (rs : List Row) : Bool := decide (1 ≤ rs.length) && decide (rs.length ≤ 3) && rs.all Row.isP && rs.all Row.k && asc (rs.map Row.z)
theorem eq2 (n : Nat) : cmpop .eq (.int (n : Int)) (.int 2) = some (decide (n = 2)) := by
  show some (PySem.PyData.eqv (.int (n : Int)) (.int 2)) = _
  have : PySem.PyData.eqv (.int (n : Int)) (.int 2) = ((n : Int) == 2) := rfl
  rw [this]
  congr 1
  by_cases h : n = 2
  · subst h; rfl
  · rw [decide_eq_false h]
    simp only [beq_eq_false_iff_ne]
    omega
theorem le3 (n : Nat) : cmpop .le (.int 1) (.int (n : Int)) = some (decide (1 ≤ n)) ∧ cmpop .le (.int (n : Int)) (.int 3) = some (decide (n ≤ 3)) := by
  constructor
  · show some (decide ((1 : Int) ≤ (n : Int))) = _
    congr 1
    exact decide_eq_decide.mpr (by omega)
  · show some (decide ((n : Int) ≤ 3)) = _
    congr 1
    exact decide_eq_decide.mpr (by omega)
theorem all1_map {α : Type} (f : α → Bool) (l : List α) : blt .all1 [.lst (l.map fun c => D.bl (f c))] = some (.bl (l.all f)) := by
  show (bools _).map (fun bs => D.bl (bs.all id)) = _
  rw [bools_all]
  show some (D.bl (List.all (List.map f l) id)) = _
  rw [List.all_map]
  rfl
section
variable {c : Str → List D → Store → Out D} (hf : ∀ z ∈ NM, ∀ μ, c "is_free_name" [.str z] μ = .ok (.bl true) μ) (hk : ∀ x b μ, isKd x = some b → c "is_kind" [x] μ = .ok (.bl b) μ) (ha : ∀ zs μ, c "are_ascending" [.lst (zs.map D.str)] μ = .ok (.bl (asc zs)) μ)
include hf hk ha
theorem lot_rows (rs : List Row) (ho : ∀ r ∈ rs, r.ok) (μ : Store) : runF ⟨tabC cs, c⟩ 0 f_is_lot [.tup (rs.map Row.d)] μ = .ok (.bl (isLot rs)) μ := by
  obtain ⟨ρ, hρ⟩ : ∃ ρ : Env, ρ = [.val (.tup (rs.map Row.d)), .no, .no, .no] := ⟨_, rfl⟩
  have A : ev ⟨tabC cs, c⟩ (.comp (.and_ (.blt .isinst (.cons (.var 1) (.cons (.con (.ty "tuple")) .nil))) (.cmp .eq (.blt .len (.cons (.var 1) .nil)) (.con (.int 2)))) (.name 1) .val (.cons (.var 0) .nil) none) [.val (.tup (rs.map Row.d)), .no, .no, .no] μ = .ok (.lst (rs.map fun r => .bl r.isP)) μ := by
    simp only [ev, evs, Out.bind, opt, Env.get, iterD]
    simp only [List.getElem?_cons_zero]
    rw [compLoop_map (g := Row.d) (h := fun r => .bl r.isP)]
    · rfl
    · intro r _
      have e2 := eq2 2
      have e3 := eq2 3
      cases r with
      | pair z k b => simp [Row.d, Row.isP, wipeE, Tg.slots, bindT, Env.put, Env.get, opt, Out.bind, ev, evs, blt, tyN, isB, truthy, lenD] at e2 ⊢; simp [e2]
      | txt z => simp [Row.d, Row.isP, wipeE, Tg.slots, bindT, Env.put, Env.get, opt, Out.bind, ev, evs, blt, tyN, isB, truthy, lenD]
      | tri p q s => simp [Row.d, Row.isP, wipeE, Tg.slots, bindT, Env.put, Env.get, opt, Out.bind, ev, evs, blt, tyN, isB, truthy, lenD] at e3 ⊢; simp [e3]
  have B : rs.all Row.isP = true → ev ⟨tabC cs, c⟩ (.comp (.and_ (.call "is_free_name" (.cons (.var 2) .nil)) (.call "is_kind" (.cons (.var 3) .nil))) (.tup [2, 3]) .val (.cons (.var 0) .nil) none) [.val (.tup (rs.map Row.d)), .no, .no, .no] μ = .ok (.lst (rs.map fun r => .bl r.k)) μ := fun hp => by
    simp only [ev, evs, Out.bind, opt, Env.get, iterD]
    simp only [List.getElem?_cons_zero]
    rw [compLoop_map (g := Row.d) (h := fun r => .bl r.k)]
    · rfl
    · intro r hr
      have hrp := List.all_eq_true.mp hp r hr
      have hro := ho r hr
      cases r with
      | pair z k b =>
        have h1 := fun μ => hf z hro.1 μ
        have h2 := fun μ => hk k b μ hro.2
        simp [Row.d, Row.k, wipeE, Tg.slots, bindT, putAll, Env.put, Env.get, opt, Out.bind, ev, evs, truthy, h1, h2]
      | txt z => exact absurd hrp Bool.false_ne_true
      | tri p q s => exact absurd hrp Bool.false_ne_true
  have C : rs.all Row.isP = true → ev ⟨tabC cs, c⟩ (.comp (.idx (.var 1) (.con (.int 0))) (.name 1) .val (.cons (.var 0) .nil) none) [.val (.tup (rs.map Row.d)), .no, .no, .no] μ = .ok (.lst ((rs.map Row.z).map D.str)) μ := fun hp => by
    simp only [ev, evs, Out.bind, opt, Env.get, iterD]
    simp only [List.getElem?_cons_zero]
    rw [compLoop_map (g := Row.d) (h := fun r => .str r.z)]
    · rw [List.map_map]; rfl
    · intro r hr
      have hrp := List.all_eq_true.mp hp r hr
      cases r with
      | pair z k b =>
        have e0 : ∀ μ, idxD (.tup [.str z, k]) (.int 0) μ = some (.str z) := fun _ => rfl
        simp [Row.d, Row.z, wipeE, Tg.slots, bindT, Env.put, Env.get, opt, Out.bind, ev, evs, e0]
      | txt z => exact absurd hrp Bool.false_ne_true
      | tri p q s => exact absurd hrp Bool.false_ne_true
  obtain ⟨l1, l2⟩ := le3 rs.length
  have hl : lenD (.tup (rs.map Row.d)) = some rs.length := by show some (rs.map Row.d).length = _; rw [List.length_map]
  have aA := all1_map Row.isP rs
  have aB := all1_map Row.k rs
  have hasc := fun μ => ha (rs.map Row.z) μ
  unfold isLot
  by_cases h1 : 1 ≤ rs.length
  · by_cases h2 : rs.length ≤ 3
    · simp only [h1, h2, decide_true, Bool.true_and] at l1 l2 ⊢
      have s1 : exS ⟨tabC cs, c⟩ 0 (.ite (.or_ (.not_ (.blt .isinst (.cons (.var 0) (.cons (.con (.ty "tuple")) .nil)))) (.not_ (.chain .le .le (.con (.int 1)) (.blt .len (.cons (.var 0) .nil)) (.glob "MAX_OFFERED")))) (.cons (.ret (.con (.bl false))) .nil) .nil) [.val (.tup (rs.map Row.d)), .no, .no, .no] μ = .nx [.val (.tup (rs.map Row.d)), .no, .no, .no] μ := by
        simp [exS, exSs, ev, evs, Fl.of, Fl.next, Out.bind, opt, Env.get, testOf, truthy, blt, tyN, isB, hl, l1, l2, cM]
      cases hP : rs.all Row.isP with
      | false =>
        rw [hP] at aA
        have s2 : exS ⟨tabC cs, c⟩ 0 (.ite (.not_ (.blt .all1 (.cons (.comp (.and_ (.blt .isinst (.cons (.var 1) (.cons (.con (.ty "tuple")) .nil))) (.cmp .eq (.blt .len (.cons (.var 1) .nil)) (.con (.int 2)))) (.name 1) .val (.cons (.var 0) .nil) none) .nil))) (.cons (.ret (.con (.bl false))) .nil) .nil) [.val (.tup (rs.map Row.d)), .no, .no, .no] μ = .ret (.bl false) μ := by
          rw [exS, ev, ev, evs, A]
          simp [evs, Out.bind, opt, aA, testOf, truthy, Fl.of, exSs, exS, ev, Fl.next]
        exact runF_ret rfl ((exSs_nx s1).trans (exSs_ret s2))
      | true =>
        rw [hP] at aA
        have s2 : exS ⟨tabC cs, c⟩ 0 (.ite (.not_ (.blt .all1 (.cons (.comp (.and_ (.blt .isinst (.cons (.var 1) (.cons (.con (.ty "tuple")) .nil))) (.cmp .eq (.blt .len (.cons (.var 1) .nil)) (.con (.int 2)))) (.name 1) .val (.cons (.var 0) .nil) none) .nil))) (.cons (.ret (.con (.bl false))) .nil) .nil) [.val (.tup (rs.map Row.d)), .no, .no, .no] μ = .nx [.val (.tup (rs.map Row.d)), .no, .no, .no] μ := by
          rw [exS, ev, ev, evs, A]
          simp [evs, Out.bind, opt, aA, testOf, truthy, Fl.of, exSs, exS, ev, Fl.next]
        cases hK : rs.all Row.k with
        | false =>
          rw [hK] at aB
          have s3 : exS ⟨tabC cs, c⟩ 0 (.ite (.not_ (.blt .all1 (.cons (.comp (.and_ (.call "is_free_name" (.cons (.var 2) .nil)) (.call "is_kind" (.cons (.var 3) .nil))) (.tup [2, 3]) .val (.cons (.var 0) .nil) none) .nil))) (.cons (.ret (.con (.bl false))) .nil) .nil) [.val (.tup (rs.map Row.d)), .no, .no, .no] μ = .ret (.bl false) μ := by
            rw [exS, ev, ev, evs, B hP]
            simp [evs, Out.bind, opt, aB, testOf, truthy, Fl.of, exSs, exS, ev, Fl.next]
          exact runF_ret rfl ((exSs_nx s1).trans ((exSs_nx s2).trans (exSs_ret s3)))
        | true =>
          rw [hK] at aB
          have s3 : exS ⟨tabC cs, c⟩ 0 (.ite (.not_ (.blt .all1 (.cons (.comp (.and_ (.call "is_free_name" (.cons (.var 2) .nil)) (.call "is_kind" (.cons (.var 3) .nil))) (.tup [2, 3]) .val (.cons (.var 0) .nil) none) .nil))) (.cons (.ret (.con (.bl false))) .nil) .nil) [.val (.tup (rs.map Row.d)), .no, .no, .no] μ = .nx [.val (.tup (rs.map Row.d)), .no, .no, .no] μ := by
            rw [exS, ev, ev, evs, B hP]
            simp [evs, Out.bind, opt, aB, testOf, truthy, Fl.of, exSs, exS, ev, Fl.next]
          have s4 : exS ⟨tabC cs, c⟩ 0 (.ret (.call "are_ascending" (.cons (.comp (.idx (.var 1) (.con (.int 0))) (.name 1) .val (.cons (.var 0) .nil) none) .nil))) [.val (.tup (rs.map Row.d)), .no, .no, .no] μ = .ret (.bl (asc (rs.map Row.z))) μ := by
            rw [exS, ev, evs, C hP]
            have hasc' := hasc
            simp only [List.map_map] at hasc'
            simp [evs, Out.bind, opt, Fl.of, hasc']
          exact runF_ret rfl ((exSs_nx s1).trans ((exSs_nx s2).trans ((exSs_nx s3).trans (exSs_ret s4))))
    · simp only [h1, h2, decide_true, decide_false, Bool.true_and, Bool.false_and] at l1 l2 ⊢
      refine runF_ret rfl (exSs_ret ?_)
      simp [exS, exSs, ev, evs, Fl.of, Fl.next, Out.bind, opt, Env.get, testOf, truthy, blt, tyN, isB, hl, l1, l2, cM]
  · simp only [h1, decide_false, Bool.false_and] at l1 ⊢
    refine runF_ret rfl (exSs_ret ?_)
    simp [exS, exSs, ev, evs, Fl.of, Fl.next, Out.bind, opt, Env.get, testOf, truthy, blt, tyN, isB, hl, l1]
omit hf hk ha in
theorem lot_non {x : D} {t : String} (h : tyN x = some t) (hn : t ≠ "tuple") (μ : Store) : runF ⟨tabC cs, c⟩ 0 f_is_lot [x] μ = .ok (.bl false) μ := by
  have hb : isB t "tuple" = some false := by
    unfold isB
    simp [hn]
  refine runF_ret rfl (exSs_ret ?_)
  simp [exS, exSs, ev, evs, Fl.of, Fl.next, Out.bind, opt, Env.get, testOf, truthy, blt, h, hb]
end
end Lk77

set_option Elab.async false
set_option linter.all false
set_option maxRecDepth 100000
set_option maxHeartbeats 4000000
namespace Lk77
open PySem (Str)
open LD
theorem toPs_str : ∀ a : List Str, toPs (a.map D.str) = some (a.map PySem.PyData.str)
  | [] => rfl
  | z :: a => by
    rw [List.map_cons]
    unfold toPs
    rw [toPs_str a]
    rfl
theorem lay_str : ∀ {a : List Str}, (∀ z ∈ a, PySem.PyData.strOk z = true) → PySem.PyData.canLayAll0 (a.map PySem.PyData.str) = true ∧ PySem.PyData.depthAll (a.map PySem.PyData.str) = 0
  | [], _ => ⟨rfl, rfl⟩
  | z :: a, h => by
    obtain ⟨h1, h2⟩ := lay_str (a := a) fun y hy => h y (List.mem_cons_of_mem _ hy)
    constructor
    · show (PySem.PyData.strOk z && PySem.PyData.canLayAll0 (a.map PySem.PyData.str)) = true
      rw [h z (List.mem_cons_self ..), h1]; rfl
    · show max 0 (PySem.PyData.depthAll (a.map PySem.PyData.str)) = 0
      rw [h2]; rfl
theorem eqv_strs : ∀ a b : List Str, PySem.PyData.eqv (.list (a.map PySem.PyData.str)) (.list (b.map PySem.PyData.str)) = decide (a = b)
  | [], [] => by simp; rfl
  | [], _ :: _ => by simp; rfl
  | _ :: _, [] => by simp; rfl
  | x :: a, y :: b => by
    have ih := eqv_strs a b
    have e : PySem.PyData.eqv (.list ((x :: a).map PySem.PyData.str)) (.list ((y :: b).map PySem.PyData.str)) = (PySem.PyData.eqv (.str x) (.str y) && PySem.PyData.eqv (.list (a.map PySem.PyData.str)) (.list (b.map PySem.PyData.str))) := rfl
    have e2 : PySem.PyData.eqv (.str x) (.str y) = (x == y) := rfl
    rw [e, ih, e2]
    by_cases h : x = y
    · subst h; simp
    · simp [h]
theorem ne_strs {a b : List Str} (ha : ∀ z ∈ a, PySem.PyData.strOk z = true) (hb : ∀ z ∈ b, PySem.PyData.strOk z = true) : cmpop .ne (.lst (a.map D.str)) (.lst (b.map D.str)) = some (!decide (a = b)) := by
  obtain ⟨a1, a2⟩ := lay_str ha
  obtain ⟨b1, b2⟩ := lay_str hb
  have e : eqD (.lst (a.map D.str)) (.lst (b.map D.str)) = some (decide (a = b)) := by
    unfold eqD
    have t1 : toP (.lst (a.map D.str)) = some (.list (a.map PySem.PyData.str)) := by unfold toP; rw [toPs_str]; rfl
    have t2 : toP (.lst (b.map D.str)) = some (.list (b.map PySem.PyData.str)) := by unfold toP; rw [toPs_str]; rfl
    have s1 : PySem.SeqAt.shaped (.list (a.map PySem.PyData.str)) = true := by
      show (PySem.PyData.canLayAll0 (a.map PySem.PyData.str) && decide (PySem.PyData.depthAll (a.map PySem.PyData.str) + 1 ≤ 64)) = true
      rw [a1, a2]; rfl
    have s2 : PySem.SeqAt.shaped (.list (b.map PySem.PyData.str)) = true := by
      show (PySem.PyData.canLayAll0 (b.map PySem.PyData.str) && decide (PySem.PyData.depthAll (b.map PySem.PyData.str) + 1 ≤ 64)) = true
      rw [b1, b2]; rfl
    rw [t1, t2]
    simp only [s1, s2, Bool.and_self, if_true, eqv_strs]
  have z : cmpop .ne (.lst (a.map D.str)) (.lst (b.map D.str)) = neD (.lst (a.map D.str)) (.lst (b.map D.str)) := rfl
  rw [z]
  unfold neD
  rw [e]
def names (L : Lot) : List Str := L.map (·.1)
theorem boxes_ok {G : GT} (L : Lot) (μ : Store) : runF G 0 f_boxes_of [lotD L] μ = .ok (.lst ((names L).map D.str)) μ := by
  have hc : ev G (.comp (.var 1) (.tup [1, 2]) .val (.cons (.var 0) .nil) none) [.val (lotD L), .no, .no] μ = .ok (.lst ((names L).map D.str)) μ := by
    have q1 : evs G (.cons (.var 0) .nil) [.val (lotD L), .no, .no] μ = .ok [lotD L] μ := by simp [evs, ev, Out.bind, opt, Env.get]
    have hit : iterD .val [lotD L] = some (L.map rowD) := rfl
    rw [ev, q1, Out.bind_ok, hit]
    dsimp only
    rw [compLoop_map (g := rowD) (h := fun p => .str p.1)]
    · unfold names; rw [List.map_map]; rfl
    · intro x _
      simp [rowD, wipeE, Tg.slots, bindT, putAll, Env.put, Env.get, opt, Out.bind, ev]
  refine runF_ret rfl (exSs_ret ?_)
  have h2 : ev G (.comp (.var 1) (.tup [1, 2]) .val (.cons (.var 0) .nil) none) ([lotD L].map Slot.val ++ List.replicate (f_boxes_of.n - f_boxes_of.ps) Slot.no) μ = .ok (.lst ((names L).map D.str)) μ := hc
  rw [exS, h2]
  rfl
def ab (L M : Lot) : Bool := (L.zip M).all fun p => loK p.1.2 p.2.2
theorem zip_rows (L M : Lot) : zipD (L.map rowD) (M.map rowD) = (L.zip M).map fun p => .tup [rowD p.1, rowD p.2] := by
  unfold zipD
  rw [List.zip_map, List.map_map]
  rfl
theorem above_ok {G : GT} (hl : ∀ k k' μ, G.call "is_as_loose" [kk k, kk k'] μ = .ok (.bl (loK k k')) μ) (L M : Lot) (μ : Store) : runF G 0 f_is_above [lotD L, lotD M] μ = .ok (.bl (ab L M)) μ := by
  have hc : ev G (.comp (.call "is_as_loose" (.cons (.idx (.var 2) (.con (.int 1))) (.cons (.idx (.var 3) (.con (.int 1))) .nil))) (.tup [2, 3]) .zip (.cons (.var 0) (.cons (.var 1) .nil)) none) [.val (lotD L), .val (lotD M), .no, .no] μ = .ok (.lst ((L.zip M).map fun p => .bl (loK p.1.2 p.2.2))) μ := by
    have q1 : evs G (.cons (.var 0) (.cons (.var 1) .nil)) [.val (lotD L), .val (lotD M), .no, .no] μ = .ok [lotD L, lotD M] μ := by simp [evs, ev, Out.bind, opt, Env.get]
    have hit : iterD .zip [lotD L, lotD M] = some ((L.zip M).map fun p => .tup [rowD p.1, rowD p.2]) := by
      rw [← zip_rows]; rfl
    rw [ev, q1, Out.bind_ok, hit]
    dsimp only
    rw [compLoop_map (g := fun p : (Str × K3) × (Str × K3) => D.tup [rowD p.1, rowD p.2]) (h := fun p => .bl (loK p.1.2 p.2.2))]
    · rfl
    · intro x _
      have e1 : ∀ (p : Str × K3) μ, idxD (rowD p) (.int 1) μ = some (kk p.2) := fun _ _ => rfl
      have e2 := fun μ => hl x.1.2 x.2.2 μ
      simp [wipeE, Tg.slots, bindT, putAll, Env.put, Env.get, opt, Out.bind, ev, evs, e1, e2]
  have hb := all1_map (fun p : (Str × K3) × (Str × K3) => loK p.1.2 p.2.2) (L.zip M)
  refine runF_ret rfl (exSs_ret ?_)
  show exS G 0 _ [.val (lotD L), .val (lotD M), .no, .no] μ = _
  rw [exS, ev, evs, hc]
  simp [evs, Out.bind, opt, Fl.of, hb]
  rfl
/-! ### excludes -/
def EX : D := .glob "InvalidOperation"
def Wd2 (w : Str) : Prop := w = "unheard" ∨ w = "heard"
theorem ex_eq : ∀ w, Wd2 w → cmpop .eq (.str w) (.str "unheard") = some (decide (w = "unheard")) ∧ cmpop .notin (.str w) (.tup [.str "unheard", .str "heard"]) = some false := by
  rintro w (rfl | rfl) <;> decide +kernel
theorem in_ok {G : GT} {L M : Lot} {w : Str} {t p : D} (hG : G.con "UNHEARD" = some (.str "unheard")) (ha : ∀ L M μ, G.call "is_above" [lotD L, lotD M] μ = .ok (.bl (ab L M)) μ) (hw : Wd2 w) (μ : Store) :
    runF G 0 f_excludes_in [.tup [.str w, lotD L, t, p], lotD M] μ = .ok (.bl (if w = "unheard" then ab L M else ab M L)) μ := by
  have e := (ex_eq w hw).1
  have i0 : ∀ μ, idxD (.tup [.str w, lotD L, t, p]) (.int 0) μ = some (.str w) := fun _ => rfl
  have i1 : ∀ μ, idxD (.tup [.str w, lotD L, t, p]) (.int 1) μ = some (lotD L) := fun _ => rfl
  have h1 := fun μ => ha L M μ
  have h2 := fun μ => ha M L μ
  generalize lotD L = x at *
  generalize lotD M = y at *
  by_cases q : w = "unheard"
  · rw [decide_eq_true q] at e
    rw [if_pos q]
    simp [runF, f_excludes_in, exSs, exS, ev, evs, Fl.of, Fl.next, Out.bind, opt, Env.get, truthy, hG, i0, i1, e, h1, h2]
  · rw [decide_eq_false q] at e
    rw [if_neg q]
    simp [runF, f_excludes_in, exSs, exS, ev, evs, Fl.of, Fl.next, Out.bind, opt, Env.get, truthy, hG, i0, i1, e, h1, h2]
section
variable {G : GT} (hU : G.con "UNHEARD" = some (.str "unheard")) (hH : G.con "HEARD" = some (.str "heard"))
theorem ne4 (n : Nat) : cmpop .ne (.int (n : Int)) (.int 4) = some (decide (n ≠ 4)) := by
  have e : eqD (.int (n : Int)) (.int 4) = some (decide (n = 4)) := by
    show some (PySem.PyData.eqv (.int (n : Int)) (.int 4)) = _
    have : PySem.PyData.eqv (.int (n : Int)) (.int 4) = ((n : Int) == 4) := rfl
    rw [this]
    congr 1
    by_cases h : n = 4
    · subst h; rfl
    · rw [decide_eq_false h]
      simp only [beq_eq_false_iff_ne]
      omega
  have z : cmpop .ne (.int (n : Int)) (.int 4) = neD (.int (n : Int)) (.int 4) := rfl
  rw [z]
  unfold neD
  rw [e]
  simp
theorem x1 {r y : D} {t : String} (h : tyN r = some t) (hn : t ≠ "tuple") (μ : Store) : runF G 0 f_excludes [r, y] μ = .exc EX [] μ := by
  have hb : isB t "tuple" = some false := by
    unfold isB
    simp [hn]
  simp [runF, f_excludes, exSs, exS, ev, evs, Fl.of, Fl.next, Out.bind, opt, Env.get, testOf, truthy, blt, h, hb, EX]
theorem x2 {xs : List D} {y : D} (h : xs.length ≠ 4) (μ : Store) : runF G 0 f_excludes [.tup xs, y] μ = .exc EX [] μ := by
  have n4 := ne4 xs.length
  rw [decide_eq_true h] at n4
  simp [runF, f_excludes, exSs, exS, ev, evs, Fl.of, Fl.next, Out.bind, opt, Env.get, testOf, truthy, blt, tyN, isB, lenD, n4, EX]
theorem x3 {a b c d y : D} {t : String} (h : tyN a = some t) (hn : t ≠ "str") (μ : Store) : runF G 0 f_excludes [.tup [a, b, c, d], y] μ = .exc EX [] μ := by
  have hb : isB t "str" = some false := by
    unfold isB
    simp [hn]
  have n4 : cmpop .ne (.int 4) (.int 4) = some false := ne4 4
  have i0 : ∀ μ, idxD (.tup [a, b, c, d]) (.int 0) μ = some a := fun _ => rfl
  simp [runF, f_excludes, exSs, exS, ev, evs, Fl.of, Fl.next, Out.bind, opt, Env.get, testOf, truthy, blt, show ∀ xs, tyN (.tup xs) = some "tuple" from fun _ => rfl, show isB "tuple" "tuple" = some true from rfl, lenD, n4, i0, h, hb, EX]
include hU hH
theorem x4 {w : Str} {b c d y : D} (h : cmpop .notin (.str w) (.tup [.str "unheard", .str "heard"]) = some true) (μ : Store) : runF G 0 f_excludes [.tup [.str w, b, c, d], y] μ = .exc EX [] μ := by
  have n4 : cmpop .ne (.int 4) (.int 4) = some false := ne4 4
  have i0 : ∀ μ, idxD (.tup [.str w, b, c, d]) (.int 0) μ = some (.str w) := fun _ => rfl
  simp [runF, f_excludes, exSs, exS, ev, evs, Fl.of, Fl.next, Out.bind, opt, Env.get, testOf, truthy, blt, tyN, isB, lenD, n4, i0, h, hU, hH, LINE, EX]
theorem x5 {w : Str} {b c d y : D} (hw : Wd2 w) (hb : ∀ μ, G.call "is_lot" [b] μ = .ok (.bl false) μ) (μ : Store) : runF G 0 f_excludes [.tup [.str w, b, c, d], y] μ = .exc EX [] μ := by
  have n4 : cmpop .ne (.int 4) (.int 4) = some false := ne4 4
  have i0 : ∀ μ, idxD (.tup [.str w, b, c, d]) (.int 0) μ = some (.str w) := fun _ => rfl
  have i1 : ∀ μ, idxD (.tup [.str w, b, c, d]) (.int 1) μ = some b := fun _ => rfl
  have h := (ex_eq w hw).2
  simp [runF, f_excludes, exSs, exS, ev, evs, Fl.of, Fl.next, Out.bind, opt, Env.get, testOf, truthy, blt, tyN, isB, lenD, n4, i0, i1, h, hU, hH, hb, LINE, EX]
theorem x6 {w : Str} {b c d y : D} (hw : Wd2 w) (hb : ∀ μ, G.call "is_lot" [b] μ = .ok (.bl true) μ) (hy : ∀ μ, G.call "is_lot" [y] μ = .ok (.bl false) μ) (μ : Store) : runF G 0 f_excludes [.tup [.str w, b, c, d], y] μ = .exc EX [] μ := by
  have n4 : cmpop .ne (.int 4) (.int 4) = some false := ne4 4
  have i0 : ∀ μ, idxD (.tup [.str w, b, c, d]) (.int 0) μ = some (.str w) := fun _ => rfl
  have i1 : ∀ μ, idxD (.tup [.str w, b, c, d]) (.int 1) μ = some b := fun _ => rfl
  have h := (ex_eq w hw).2
  simp [runF, f_excludes, exSs, exS, ev, evs, Fl.of, Fl.next, Out.bind, opt, Env.get, testOf, truthy, blt, tyN, isB, lenD, n4, i0, i1, h, hU, hH, hb, hy, LINE, EX]
theorem x7 {w : Str} {b c d y : D} {u v : D} (hw : Wd2 w) (hb : ∀ μ, G.call "is_lot" [b] μ = .ok (.bl true) μ) (hy : ∀ μ, G.call "is_lot" [y] μ = .ok (.bl true) μ) (h1 : ∀ μ, G.call "boxes_of" [b] μ = .ok u μ) (h2 : ∀ μ, G.call "boxes_of" [y] μ = .ok v μ) (hn : cmpop .ne u v = some true) (μ : Store) :
    runF G 0 f_excludes [.tup [.str w, b, c, d], y] μ = .exc EX [] μ := by
  have n4 : cmpop .ne (.int 4) (.int 4) = some false := ne4 4
  have i0 : ∀ μ, idxD (.tup [.str w, b, c, d]) (.int 0) μ = some (.str w) := fun _ => rfl
  have i1 : ∀ μ, idxD (.tup [.str w, b, c, d]) (.int 1) μ = some b := fun _ => rfl
  have h := (ex_eq w hw).2
  simp [runF, f_excludes, exSs, exS, ev, evs, Fl.of, Fl.next, Out.bind, opt, Env.get, testOf, truthy, blt, tyN, isB, lenD, n4, i0, i1, h, hU, hH, hb, hy, h1, h2, hn, LINE, EX]
theorem x8 {w : Str} {b c d y : D} {u v : D} {r : Bool} (hw : Wd2 w) (hb : ∀ μ, G.call "is_lot" [b] μ = .ok (.bl true) μ) (hy : ∀ μ, G.call "is_lot" [y] μ = .ok (.bl true) μ) (h1 : ∀ μ, G.call "boxes_of" [b] μ = .ok u μ) (h2 : ∀ μ, G.call "boxes_of" [y] μ = .ok v μ) (hn : cmpop .ne u v = some false)
    (hr : ∀ μ, G.call "excludes_in" [.tup [.str w, b, c, d], y] μ = .ok (.bl r) μ) (μ : Store) : runF G 0 f_excludes [.tup [.str w, b, c, d], y] μ = .ok (.bl r) μ := by
  have n4 : cmpop .ne (.int 4) (.int 4) = some false := ne4 4
  have i0 : ∀ μ, idxD (.tup [.str w, b, c, d]) (.int 0) μ = some (.str w) := fun _ => rfl
  have i1 : ∀ μ, idxD (.tup [.str w, b, c, d]) (.int 1) μ = some b := fun _ => rfl
  have h := (ex_eq w hw).2
  simp [runF, f_excludes, exSs, exS, ev, evs, Fl.of, Fl.next, Out.bind, opt, Env.get, testOf, truthy, blt, tyN, isB, lenD, n4, i0, i1, h, hU, hH, hb, hy, h1, h2, hn, hr, LINE]
end
theorem told_exc {G : GT} {r y : D} {μ : Store} (h : G.call "excludes" [r, y] μ = .exc EX [] μ) : runF G 0 f__law_told [r, y] μ = .ok (.str "operation") μ := by
  simp [runF, f__law_told, exSs, exS, ev, evs, Fl.of, Fl.next, Out.bind, opt, Env.get, h, EX]
theorem told_ok {G : GT} {r y d : D} {μ : Store} (h : G.call "excludes" [r, y] μ = .ok d μ) : runF G 0 f__law_told [r, y] μ = .ok d μ := by
  simp [runF, f__law_told, exSs, exS, ev, evs, Fl.of, Fl.next, Out.bind, opt, Env.get, h]
end Lk77

set_option Elab.async false
set_option linter.all false
set_option maxRecDepth 100000
set_option maxHeartbeats 4000000
namespace Lk77
open PySem (Str)
open LD
theorem lx1 : ∀ i, meth .lindex (.lst L1) [.str (w1 i)] = some (.int ((i : Nat) : Int)) := fun i => match i with | 0 => by kernel_rfl | 1 => by kernel_rfl | 2 => by kernel_rfl
theorem lx2 : ∀ i, meth .lindex (.lst L2) [.str (w2 i)] = some (.int ((i : Nat) : Int)) := fun i => match i with | 0 => by kernel_rfl | 1 => by kernel_rfl | 2 => by kernel_rfl
theorem inN : ∀ k k', cmpop .in_ (.str (w3 k')) (.tup [.str "never", .str (w3 k)]) = some (decide (k = k') || decide (k' = 0)) := by decide +kernel
theorem looser_gen {G : GT} (i j k i' j' k' : Fin 3) (μ : Store) : runF G 0 f__law_is_looser [kd i j k, kd i' j' k'] μ = .ok (.bl (lo i j k i' j' k')) μ := by
  obtain ⟨a1, a2, a3⟩ := w_idx i j k μ
  obtain ⟨b1, b2, b3⟩ := w_idx i' j' k' μ
  have g1 : cmpop .gt (.int ((i : Nat) : Int)) (.int ((i' : Nat) : Int)) = some (decide (i' < i)) := by simp [cmpop, Fin.lt_def]
  have g2 : cmpop .gt (.int ((j : Nat) : Int)) (.int ((j' : Nat) : Int)) = some (decide (j' < j)) := by simp [cmpop, Fin.lt_def]
  have e1 := inN k k'
  have m1 : mthOk .lindex (.lst L1) = true := rfl
  have m2 : mthOk .lindex (.lst L2) = true := rfl
  have x1 := lx1 i
  have x2 := lx1 i'
  have x3 := lx2 j
  have x4 := lx2 j'
  have q1 : exS G 0 (.par [(2, false), (3, false)] (.cons (.lst (.cons (.con (.str "source")) (.cons (.con (.str "address")) (.cons (.con (.str "door")) .nil)))) (.cons (.lst (.cons (.con (.str "any")) (.cons (.con (.str "address")) (.cons (.con (.str "door")) .nil)))) .nil))) [.val (kd i j k), .val (kd i' j' k'), .no, .no] μ = .nx [.val (kd i j k), .val (kd i' j' k'), .val (.lst L1), .val (.lst L2)] μ := by
    simp [exS, ev, evs, Fl.of, Fl.opt, Out.bind, opt, putMix, Env.put, LINE, L1, L2]
  refine runF_ret rfl ?_
  unfold f__law_is_looser
  refine (exSs_nx q1).trans ?_
  unfold lo
  generalize kd i j k = x at *
  generalize kd i' j' k' = y at *
  generalize D.lst L1 = z1 at *
  generalize D.lst L2 = z2 at *
  generalize decide (i' < i) = p at *
  generalize decide (j' < j) = r at *
  generalize decide (k = k') = s at *
  generalize decide (k' = 0) = t at *
  cases p <;> cases r <;> cases s <;> cases t <;>
    simp [exSs, exS, ev, evs, Fl.of, Fl.next, Fl.opt, Out.bind, opt, Env.get, testOf, truthy, a1, a2, a3, b1, b2, b3, m1, m2, x1, x2, x3, x4, g1, g2, e1, LINE]
theorem looser_ok {G : GT} (k k' : K3) (μ : Store) : runF G 0 f__law_is_looser [kk k, kk k'] μ = .ok (.bl (loK k k')) μ := looser_gen ..
theorem kloose_ok {c : Str → List D → Store → Out D} (h : ∀ i j k μ, c "require_kind" [kd i j k] μ = .ok .non μ) (k k' : K3) (μ : Store) : runF ⟨tabC cs, c⟩ 0 f_is_as_loose [kk k, kk k'] μ = .ok (.bl (loK k k')) μ := loose_gen h ..
/-! ### drawn kinds -/
theorem mem3 {a b c x : D} (h : x ∈ [a, b, c]) : x = a ∨ x = b ∨ x = c := by simpa using h
theorem w1_of {x : D} (h : x ∈ L1) : ∃ i, x = .str (w1 i) := by
  rcases mem3 h with rfl | rfl | rfl
  · exact ⟨0, rfl⟩
  · exact ⟨1, rfl⟩
  · exact ⟨2, rfl⟩
theorem w2_of {x : D} (h : x ∈ L2) : ∃ i, x = .str (w2 i) := by
  rcases mem3 h with rfl | rfl | rfl
  · exact ⟨0, rfl⟩
  · exact ⟨1, rfl⟩
  · exact ⟨2, rfl⟩
theorem w3_of {x : D} (h : x ∈ L3) : ∃ i, x = .str (w3 i) := by
  rcases mem3 h with rfl | rfl | rfl
  · exact ⟨0, rfl⟩
  · exact ⟨1, rfl⟩
  · exact ⟨2, rfl⟩
def KindOk (r : List D → Store → Out D) : Prop := ∀ (l : Nat) (μ : Store), Dice l μ → ∃ (k : K3) (μ' : Store), r [.loc l] μ = .ok (kk k) μ' ∧ Dice l μ'
theorem any_ok {G : GT} (hp : PickOk (G.call "_law_pick")) : KindOk (runF G 0 f__law_any_kind) := by
  intro l μ hd
  obtain ⟨x1, s1, m1, e1, d1, _⟩ := hp l μ L1 hd (by decide) (by decide)
  obtain ⟨x2, s2, m2, e2, d2, _⟩ := hp l _ L2 d1 (by decide) (by decide)
  obtain ⟨x3, s3, m3, e3, d3, _⟩ := hp l _ L3 d2 (by decide) (by decide)
  obtain ⟨i, rfl⟩ := w1_of m1
  obtain ⟨j, rfl⟩ := w2_of m2
  obtain ⟨k, rfl⟩ := w3_of m3
  refine ⟨(i, j, k), s3, ?_, d3⟩
  unfold L1 at e1
  unfold L2 at e2
  unfold L3 at e3
  simp [runF, f__law_any_kind, exSs, exS, ev, evs, Fl.of, Fl.next, Fl.opt, Out.bind, opt, Env.get, Env.put, putMix, e1, e2, e3, LINE, kk, kd]
def NearOk (r : List D → Store → Out D) : Prop := ∀ (l : Nat) (μ : Store) (k : K3), Dice l μ → ∃ (k' : K3) (μ' : Store), r [.loc l, kk k] μ = .ok (kk k') μ' ∧ Dice l μ'
theorem cut_at (a b c a' b' c' : D) :
    (binop .add (.tup []) (.tup [a']) = some (.tup [a']) ∧ binop .add (.tup [a']) (.tup [b, c]) = some (.tup [a', b, c])) ∧ (binop .add (.tup [a]) (.tup [b']) = some (.tup [a, b']) ∧ binop .add (.tup [a, b']) (.tup [c]) = some (.tup [a, b', c])) ∧
      (binop .add (.tup [a, b]) (.tup [c']) = some (.tup [a, b, c']) ∧ binop .add (.tup [a, b, c']) (.tup []) = some (.tup [a, b, c'])) := ⟨⟨rfl, rfl⟩, ⟨rfl, rfl⟩, ⟨rfl, rfl⟩⟩
theorem sl_at (a b c : D) :
    (sliceD (.tup [a, b, c]) (none, some 0) = some (.tup []) ∧ sliceD (.tup [a, b, c]) (some 0, some 1) = some (.tup [a]) ∧ sliceD (.tup [a, b, c]) (some 1, none) = some (.tup [b, c])) ∧
    (sliceD (.tup [a, b, c]) (none, some 1) = some (.tup [a]) ∧ sliceD (.tup [a, b, c]) (some 1, some 2) = some (.tup [b]) ∧ sliceD (.tup [a, b, c]) (some 2, none) = some (.tup [c])) ∧
    (sliceD (.tup [a, b, c]) (none, some 2) = some (.tup [a, b]) ∧ sliceD (.tup [a, b, c]) (some 2, some 3) = some (.tup [c]) ∧ sliceD (.tup [a, b, c]) (some 3, none) = some (.tup [])) := ⟨⟨rfl, rfl, rfl⟩, ⟨rfl, rfl, rfl⟩, ⟨rfl, rfl, rfl⟩⟩
theorem eq3c : cmpop .eq (.int 0) (.int 3) = some false ∧ cmpop .eq (.int 1) (.int 3) = some false ∧ cmpop .eq (.int 2) (.int 3) = some false ∧ cmpop .eq (.int 3) (.int 3) = some true := by decide +kernel
theorem near_ok {G : GT} (hr : RollOk (G.call "_law_roll")) (hk : KindOk (G.call "_law_any_kind")) : NearOk (runF G 0 f__law_near) := by
  rintro l μ ⟨i, j, k⟩ hd
  obtain ⟨n, μ1, hn, e0, d1, _⟩ := hr l μ 4 hd (by decide) (by decide)
  obtain ⟨⟨i', j', k'⟩, μ2, e1, d2⟩ := hk l μ1 d1
  have hn : n < 4 := by omega
  obtain ⟨q0, q1, q2, q3⟩ := eq3c
  unfold kk at e1 ⊢
  dsimp only at e1 ⊢
  unfold kd at e1 ⊢
  obtain ⟨⟨s1, s2, s3⟩, ⟨s4, s5, s6⟩, ⟨s7, s8, s9⟩⟩ := sl_at (.str (w1 i)) (.str (w2 j)) (.str (w3 k))
  obtain ⟨⟨t1, t2, t3⟩, ⟨t4, t5, t6⟩, ⟨t7, t8, t9⟩⟩ := sl_at (.str (w1 i')) (.str (w2 j')) (.str (w3 k'))
  obtain ⟨⟨b1, b2⟩, ⟨b3, b4⟩, ⟨b5, b6⟩⟩ := cut_at (.str (w1 i)) (.str (w2 j)) (.str (w3 k)) (.str (w1 i')) (.str (w2 j')) (.str (w3 k'))
  have a1 : binop .add (.int 0) (.int 1) = some (.int 1) := rfl
  have a2 : binop .add (.int 1) (.int 1) = some (.int 2) := rfl
  have a3 : binop .add (.int 2) (.int 1) = some (.int 3) := rfl
  match n, hn, e0 with
  | 0, _, e0 =>
    refine ⟨(i', j, k), μ2, ?_, d2⟩
    simp [runF, f__law_near, exSs, exS, ev, evs, Fl.of, Fl.next, Fl.opt, Out.bind, opt, Env.get, Env.put, putMix, truthy, part, e0, e1, q0, s1, s2, s3, t1, t2, t3, b1, b2, a1]
  | 1, _, e0 =>
    refine ⟨(i, j', k), μ2, ?_, d2⟩
    simp [runF, f__law_near, exSs, exS, ev, evs, Fl.of, Fl.next, Fl.opt, Out.bind, opt, Env.get, Env.put, putMix, truthy, part, e0, e1, q1, s4, s5, s6, t4, t5, t6, b3, b4, a2]
  | 2, _, e0 =>
    refine ⟨(i, j, k'), μ2, ?_, d2⟩
    simp [runF, f__law_near, exSs, exS, ev, evs, Fl.of, Fl.next, Fl.opt, Out.bind, opt, Env.get, Env.put, putMix, truthy, part, e0, e1, q2, s7, s8, s9, t7, t8, t9, b5, b6, a3]
  | 3, _, e0 =>
    refine ⟨(i', j', k'), μ2, ?_, d2⟩
    simp [runF, f__law_near, exSs, exS, ev, evs, Fl.of, Fl.next, Fl.opt, Out.bind, opt, Env.get, Env.put, putMix, truthy, e0, e1, q3]
/-! ### drawn without putting back -/
theorem erase_perm {α : Type} : ∀ (xs : List α) (k : Nat) (y : α), xs[k]? = some y → (y :: xs.eraseIdx k).Perm xs
  | [], _, _, h => by simp at h
  | x :: xs, 0, y, h => by
    have : x = y := by simpa using h
    subst this
    exact List.Perm.refl _
  | x :: xs, k + 1, y, h => by
    have h : xs[k]? = some y := by simpa using h
    have ih := erase_perm xs k y h
    show (y :: x :: xs.eraseIdx k).Perm (x :: xs)
    exact (List.Perm.swap x y _).trans (List.Perm.cons x ih)
theorem mix_loop {f : D → Store → Out (Option D)} {l q : Nat} (hq : l ≠ q)
    (hf : ∀ x μ (xs : List D), Dice l μ → μ[q]? = some (.lst xs) → 1 ≤ xs.length → xs.length ≤ 100 → ∃ (k : Nat) (y : D) (μ' : Store), xs[k]? = some y ∧ f x μ = .ok (some y) μ' ∧ Dice l μ' ∧ μ'[q]? = some (.lst (xs.eraseIdx k))) :
    ∀ (ts : List D) (xs acc : List D) (μ : Store), Dice l μ → μ[q]? = some (.lst xs) → ts.length ≤ xs.length → xs.length ≤ 100 → ∃ (ys zs : List D) (μ' : Store), ys.length = ts.length ∧ (ys ++ zs).Perm xs ∧ compLoop f ts acc μ = .ok (acc ++ ys) μ' ∧ Dice l μ'
  | [], xs, acc, μ, hd, hx, _, _ => ⟨[], xs, μ, rfl, List.Perm.refl _, by simp [compLoop], hd⟩
  | t :: ts, xs, acc, μ, hd, hx, hl, h1 => by
    have hl' : ts.length + 1 ≤ xs.length := hl
    obtain ⟨k, y, μ1, hk, e1, d1, x1⟩ := hf t μ xs hd hx (by omega) h1
    have hk' : k < xs.length := (List.getElem?_eq_some_iff.mp hk).1
    have hlen : (xs.eraseIdx k).length = xs.length - 1 := List.length_eraseIdx_of_lt hk'
    obtain ⟨ys, zs, μ2, h2, h3, e2, d2⟩ := mix_loop hq hf ts (xs.eraseIdx k) (acc ++ [y]) μ1 d1 x1 (by omega) (by omega)
    refine ⟨y :: ys, zs, μ2, by simp [h2], ?_, ?_, d2⟩
    · exact (List.Perm.cons y h3).trans (erase_perm xs k y hk)
    · rw [compLoop, e1]
      show compLoop f ts (acc ++ [y]) μ1 = _
      rw [e2, List.append_assoc]
      rfl
def MixOk (r : List D → Store → Out D) : Prop := ∀ (l : Nat) (μ : Store) (xs : List D), Dice l μ → xs.length ≤ 100 → ∃ (ys : List D) (μ' : Store), ys.Perm xs ∧ r [.loc l, .lst xs] μ = .ok (.lst ys) μ' ∧ Dice l μ'
theorem rng_it (j : Int) (h0 : 0 ≤ j) (h : j < LINE) : iterD .rng1 [.int j] = some (rangeL 0 j) := by
  show (if -(2 ^ 62) ≤ j ∧ j < LINE then some (rangeL 0 j) else none) = _
  rw [if_pos ⟨by omega, h⟩]
theorem mixed_ok {G : GT} (hr : RollOk (G.call "_law_roll")) : MixOk (runF G 0 f__law_mixed) := by
  intro l μ xs hd hz
  have hl : l < μ.length := by
    obtain ⟨a, b, c, e⟩ := hd
    exact (List.getElem?_eq_some_iff.mp e).1
  obtain ⟨q, hq⟩ : ∃ q : Nat, q = μ.length := ⟨_, rfl⟩
  have hlq : l ≠ q := by omega
  have d0 : Dice l (μ ++ [.lst xs]) := by
    obtain ⟨a, b, c, e⟩ := hd
    exact ⟨a, b, c, by rw [List.getElem?_append_left hl]; exact e⟩
  have x0 : (μ ++ [SO.lst xs])[q]? = some (.lst xs) := by rw [hq]; simp
  obtain ⟨jj, hj⟩ : ∃ jj : Int, jj = (xs.length : Int) := ⟨_, rfl⟩
  have hL : (1000 : Int) < (LINE : Int) := by decide
  have hit := rng_it jj (by omega) (by omega)
  obtain ⟨ys, zs, μ', h1, h2, e1, d1⟩ := mix_loop (l := l) (q := q) hlq (f := fun x μ => match bindT (wipeE [.val (.loc l), .val (.lst xs), .val (.loc q), .no] (Tg.name 3).slots) (.name 3) x with
      | some ρ' => (ev G (.popl (.var 2) (.call "_law_roll" (.cons (.var 0) (.cons (.llen (.var 2)) .nil)))) ρ' μ).bind fun y μ => .ok (some y) μ
      | none => .bad) (fun x μ ws hd hx h1 h2 => by
    obtain ⟨k, μ', hk, ek, dk, ck⟩ := hr l μ ws.length hd (by omega) (by omega)
    have hk : k < ws.length := by omega
    obtain ⟨so, rfl⟩ := ck
    have hx' : (μ.set l so)[q]? = some (.lst ws) := by rw [List.getElem?_set_ne hlq]; exact hx
    have hql : q < (μ.set l so).length := (List.getElem?_eq_some_iff.mp hx').1
    refine ⟨k, ws[k], (μ.set l so).set q (.lst (ws.eraseIdx k)), List.getElem?_eq_getElem hk, ?_, ?_, ?_⟩
    · have hp : popIx ws.length (k : Int) = some k := by
        unfold popIx
        rw [if_pos ⟨by omega, by omega, by omega⟩]
        rfl
      simp [wipeE, Tg.slots, bindT, Env.put, Env.get, opt, Out.bind, ev, evs, hx, ek, popD, hx', hp, hk]
    · obtain ⟨a, b, c, e⟩ := dk
      exact ⟨a, b, c, by rw [List.getElem?_set_ne (Ne.symm hlq)]; exact e⟩
    · rw [List.getElem?_set_self hql]) (rangeL 0 jj) xs [] _ d0 x0 (by unfold rangeL; rw [List.length_map, List.length_range]; omega) hz
  have hlen : ys.length = xs.length := by rw [h1]; unfold rangeL; rw [List.length_map, List.length_range]; omega
  have hz0 : zs = [] := by
    have := h2.length_eq
    rw [List.length_append] at this
    exact List.eq_nil_of_length_eq_zero (by omega)
  subst hz0
  rw [List.append_nil] at h2
  refine ⟨ys, μ', h2, ?_, d1⟩
  have s1 : exS G 0 (.asg (.name 2) (.newc (.var 1))) [.val (.loc l), .val (.lst xs), .no, .no] μ = .nx [.val (.loc l), .val (.lst xs), .val (.loc q), .no] (μ ++ [.lst xs]) := by
    simp [exS, ev, Fl.of, Fl.opt, Out.bind, opt, Env.get, Env.put, bindT, hq]
  have hc : ev G (.comp (.popl (.var 2) (.call "_law_roll" (.cons (.var 0) (.cons (.llen (.var 2)) .nil)))) (.name 3) .rng1 (.cons (.blt .len (.cons (.var 1) .nil)) .nil) none) [.val (.loc l), .val (.lst xs), .val (.loc q), .no] (μ ++ [.lst xs]) = .ok (.lst ys) μ' := by
    have q1 : evs G (.cons (.blt .len (.cons (.var 1) .nil)) .nil) [.val (.loc l), .val (.lst xs), .val (.loc q), .no] (μ ++ [.lst xs]) = .ok [.int jj] (μ ++ [.lst xs]) := by
      simp [evs, ev, Out.bind, opt, Env.get, blt, lenD, hj]
    rw [ev, q1, Out.bind_ok, hit]
    exact congrArg (fun o : Out (List D) => o.bind fun ys μ => Out.ok (D.lst ys) μ) e1
  refine runF_ret rfl ?_
  unfold f__law_mixed
  refine (exSs_nx s1).trans (exSs_ret ?_)
  rw [exS, hc]
  rfl
end Lk77

set_option Elab.async false
set_option linter.all false
set_option maxRecDepth 100000
set_option maxHeartbeats 4000000
namespace Lk77
open PySem (Str)
open LD
/-! ### _law_is_above -/
theorem toPs_int {α : Type} (f : α → Int) : ∀ a : List α, toPs (a.map fun i => D.int (f i)) = some (a.map fun i => PySem.PyData.int (f i))
  | [] => rfl
  | z :: a => by
    rw [List.map_cons]
    unfold toPs
    rw [toPs_int f a]
    rfl
theorem lay_int {α : Type} (f : α → Int) : ∀ a : List α, PySem.PyData.canLayAll0 (a.map fun i => PySem.PyData.int (f i)) = true ∧ PySem.PyData.depthAll (a.map fun i => PySem.PyData.int (f i)) = 0
  | [] => ⟨rfl, rfl⟩
  | z :: a => by
    obtain ⟨h1, h2⟩ := lay_int f a
    constructor
    · show (true && PySem.PyData.canLayAll0 (a.map fun i => PySem.PyData.int (f i))) = true
      rw [h1]; rfl
    · show max 0 (PySem.PyData.depthAll (a.map fun i => PySem.PyData.int (f i))) = 0
      rw [h2]; rfl
theorem eq_nil_int {α : Type} (f : α → Int) (a : List α) : cmpop .eq (.lst (a.map fun i => D.int (f i))) (.lst []) = some a.isEmpty := by
  obtain ⟨a1, a2⟩ := lay_int f a
  show eqD _ _ = _
  unfold eqD
  have t1 : toP (.lst (a.map fun i => D.int (f i))) = some (.list (a.map fun i => PySem.PyData.int (f i))) := by unfold toP; rw [toPs_int]; rfl
  have t2 : toP (.lst []) = some (.list []) := rfl
  have s1 : PySem.SeqAt.shaped (.list (a.map fun i => PySem.PyData.int (f i))) = true := by
    show (PySem.PyData.canLayAll0 (a.map fun i => PySem.PyData.int (f i)) && decide (PySem.PyData.depthAll (a.map fun i => PySem.PyData.int (f i)) + 1 ≤ 64)) = true
    rw [a1, a2]; rfl
  have s2 : PySem.SeqAt.shaped (.list []) = true := rfl
  rw [t1, t2]
  simp only [s1, s2, Bool.and_self, if_true]
  cases a <;> rfl
def pz (L M : Lot) (i : Nat) : Bool := match L[i]?, M[i]? with
  | some p, some q => loK p.2 q.2
  | _, _ => true
theorem pz_all : ∀ {L M : Lot}, L.length = M.length → (List.range L.length).all (pz L M) = ab L M
  | [], M, _ => by simp [ab]
  | p :: L, [], h => by simp at h
  | p :: L, q :: M, h => by
    have ih := pz_all (L := L) (M := M) (by simpa using h)
    have e1 : pz (p :: L) (q :: M) 0 = loK p.2 q.2 := rfl
    have e2 : ∀ i, pz (p :: L) (q :: M) (i + 1) = pz L M i := fun i => by simp [pz]
    rw [List.length_cons, List.range_succ_eq_map, List.all_cons, e1, List.all_map]
    have e3 : (pz (p :: L) (q :: M) ∘ Nat.succ) = pz L M := funext e2
    rw [e3, ih]
    rfl
theorem filter_empty {α : Type} (f : α → Bool) : ∀ l : List α, (l.filter fun i => !f i).isEmpty = l.all f
  | [] => rfl
  | x :: l => by
    have ih := filter_empty f l
    cases h : f x <;> simp [h, ih]
theorem lawabove_ok {G : GT} (hl : ∀ k k' μ, G.call "_law_is_looser" [kk k, kk k'] μ = .ok (.bl (loK k k')) μ) {L M : Lot} (he : L.length = M.length) (hz : L.length ≤ 100) (μ : Store) : runF G 0 f__law_is_above [lotD L, lotD M] μ = .ok (.bl (ab L M)) μ := by
  have hL : (1000 : Int) < (LINE : Int) := by decide
  have hc : ev G (.comp (.var 2) (.name 2) .rng1 (.cons (.blt .len (.cons (.var 0) .nil)) .nil) (some (.not_ (.call "_law_is_looser" (.cons (.idx (.idx (.var 0) (.var 2)) (.con (.int 1))) (.cons (.idx (.idx (.var 1) (.var 2)) (.con (.int 1))) .nil)))))) [.val (lotD L), .val (lotD M), .no] μ = .ok (.lst (((List.range L.length).filter fun i => !pz L M i).map fun i : Nat => .int (0 + (i : Nat)))) μ := by
    obtain ⟨jj, hj⟩ : ∃ jj : Int, jj = (L.length : Int) := ⟨_, rfl⟩
    have hit := rng_it jj (by omega) (by omega)
    have q1 : evs G (.cons (.blt .len (.cons (.var 0) .nil)) .nil) [.val (lotD L), .val (lotD M), .no] μ = .ok [.int jj] μ := by
      have e : lenD (lotD L) = some L.length := by show some (L.map rowD).length = _; rw [List.length_map]
      simp [evs, ev, Out.bind, opt, Env.get, blt, e, hj]
    have er : rangeL 0 jj = (List.range L.length).map fun i : Nat => D.int (0 + (i : Nat)) := by
      unfold rangeL
      have : (jj - 0).toNat = L.length := by omega
      rw [this]
    rw [ev, q1, Out.bind_ok, hit, er]
    dsimp only
    rw [compLoop_filter (g := fun i : Nat => D.int (0 + (i : Nat))) (h := fun i : Nat => D.int (0 + (i : Nat))) (p := fun i => !pz L M i)]
    · rfl
    · intro i hi
      have hi : i < L.length := List.mem_range.mp hi
      have hi2 : i < M.length := by omega
      have a1 : ∀ μ, idxD (lotD L) (.int (0 + (i : Nat))) μ = some (rowD L[i]) := fun μ => by
        show L2.atI (L.map rowD) (0 + (i : Nat)) = _
        unfold L2.atI L2.ixN
        rw [List.length_map, if_pos (by omega), if_pos (by omega)]
        simp [hi]
      have a2 : ∀ μ, idxD (lotD M) (.int (0 + (i : Nat))) μ = some (rowD M[i]) := fun μ => by
        show L2.atI (M.map rowD) (0 + (i : Nat)) = _
        unfold L2.atI L2.ixN
        rw [List.length_map, if_pos (by omega), if_pos (by omega)]
        simp [hi2]
      have b1 : ∀ (p : Str × K3) μ, idxD (rowD p) (.int 1) μ = some (kk p.2) := fun _ _ => rfl
      have hp : pz L M i = loK L[i].2 M[i].2 := by
        unfold pz
        rw [List.getElem?_eq_getElem hi, List.getElem?_eq_getElem hi2]
      have h1 := fun μ => hl L[i].2 M[i].2 μ
      rw [hp]
      generalize lotD L = X at *
      generalize lotD M = Y at *
      cases q : loK L[i].2 M[i].2 <;> rw [q] at h1 <;>
        simp only [Int.zero_add] at a1 a2 <;>
        simp [wipeE, Tg.slots, bindT, Env.put, Env.get, opt, Out.bind, ev, evs, testOf, truthy, a1, a2, b1, h1]
  have hb := eq_nil_int (fun i : Nat => 0 + (i : Int)) ((List.range L.length).filter fun i => !pz L M i)
  rw [filter_empty, pz_all he] at hb
  refine runF_ret rfl (exSs_ret ?_)
  show exS G 0 _ [.val (lotD L), .val (lotD M), .no] μ = _
  have h0 : ev G (.lst .nil) [.val (lotD L), .val (lotD M), .no] μ = .ok (.lst []) μ := by simp [ev, evs, Out.bind, LINE]
  rw [exS, ev, hc, Out.bind_ok, h0, Out.bind_ok, hb]
  rfl
/-! ### drawn lots -/
theorem kinds_loop {f : D → Store → Out (Option D)} {l : Nat} (hf : ∀ (z : Str) μ, Dice l μ → ∃ (k : K3) (μ' : Store), f (.str z) μ = .ok (some (rowD (z, k))) μ' ∧ Dice l μ') : ∀ (bs : List Str) (acc : List D) (μ : Store), Dice l μ → ∃ (L : Lot) (μ' : Store), names L = bs ∧ compLoop f (bs.map D.str) acc μ = .ok (acc ++ L.map rowD) μ' ∧ Dice l μ'
  | [], acc, μ, hd => ⟨[], μ, rfl, by simp [compLoop], hd⟩
  | z :: bs, acc, μ, hd => by
    obtain ⟨k, μ1, e1, d1⟩ := hf z μ hd
    obtain ⟨L, μ2, h2, e2, d2⟩ := kinds_loop hf bs (acc ++ [rowD (z, k)]) μ1 d1
    refine ⟨(z, k) :: L, μ2, by simp [names] at h2 ⊢; exact h2, ?_, d2⟩
    rw [List.map_cons, compLoop, e1]
    show compLoop f (bs.map D.str) (acc ++ [rowD (z, k)]) μ1 = _
    rw [e2, List.append_assoc]
    rfl
theorem near_loop {f : D → Store → Out (Option D)} {l : Nat} (hf : ∀ (p : Str × K3) μ, Dice l μ → ∃ (k : K3) (μ' : Store), f (rowD p) μ = .ok (some (rowD (p.1, k))) μ' ∧ Dice l μ') : ∀ (L : Lot) (acc : List D) (μ : Store), Dice l μ → ∃ (M : Lot) (μ' : Store), names M = names L ∧ compLoop f (L.map rowD) acc μ = .ok (acc ++ M.map rowD) μ' ∧ Dice l μ'
  | [], acc, μ, hd => ⟨[], μ, rfl, by simp [compLoop], hd⟩
  | p :: L, acc, μ, hd => by
    obtain ⟨k, μ1, e1, d1⟩ := hf p μ hd
    obtain ⟨M, μ2, h2, e2, d2⟩ := near_loop hf L (acc ++ [rowD (p.1, k)]) μ1 d1
    refine ⟨(p.1, k) :: M, μ2, by simp [names] at h2 ⊢; exact h2, ?_, d2⟩
    rw [List.map_cons, compLoop, e1]
    show compLoop f (L.map rowD) (acc ++ [rowD (p.1, k)]) μ1 = _
    rw [e2, List.append_assoc]
    rfl
/-! ### drawn names -/
def five : List Str := ["a", "ab", "b", "left", "zzzzzzzz"]
theorem five_ok : five.all (fun z => decide (z ∈ NM)) = true ∧ five.Nodup ∧ five.length = 5 ∧ (five.all fun z => decide (z = "zzzzzzzz") || decide (z ++ "x" ∈ NM)) = true ∧ (five.all fun z => decide (z.cps.toList < ("zzzzzzzz" : Str).cps.toList) || decide (z = "zzzzzzzz")) = true ∧ (five.all fun z => decide (z.length ≤ 8)) = true := by decide +kernel
theorem perm_strs {ys : List D} {zs : List Str} (h : ys.Perm (zs.map D.str)) : ∃ ws : List Str, ys = ws.map D.str ∧ ws.Perm zs := by
  have un : ∀ y ∈ ys, ∃ z, y = .str z := fun y hy => by
    obtain ⟨z, _, e⟩ := List.mem_map.mp (h.mem_iff.mp hy)
    exact ⟨z, e.symm⟩
  obtain ⟨u, hu⟩ : ∃ u : D → Str, u = fun d => match d with | .str z => z | _ => "" := ⟨_, rfl⟩
  have e : ys = (ys.map u).map D.str := by
    rw [List.map_map]
    have : ∀ l : List D, (∀ y ∈ l, ∃ z, y = .str z) → l = l.map (D.str ∘ u) := by
      intro l
      induction l with
      | nil => intro _; rfl
      | cons y l ih =>
        intro hl
        obtain ⟨z, rfl⟩ := hl y (List.mem_cons_self ..)
        have := ih fun y hy => hl y (List.mem_cons_of_mem _ hy)
        rw [List.map_cons, ← this]
        rw [hu]; rfl
    exact this ys un
  refine ⟨ys.map u, e, ?_⟩
  have h2 := h.map u
  rw [List.map_map] at h2
  have e2 : (u ∘ D.str) = id := by rw [hu]; rfl
  rw [e2, List.map_id] at h2
  exact h2
theorem strsD_map : ∀ zs : List Str, strsD (zs.map D.str) = some zs
  | [] => rfl
  | z :: zs => by simp [strsD, strsD_map zs]
theorem asc_cons (x y : Str) (r : List Str) : asc (x :: y :: r) = (decide (x.cps.toList < y.cps.toList) && asc (y :: r)) := rfl
theorem ris_asc : ∀ {l : List Str}, Ris l → l.Nodup → asc l = true
  | [], _, _ => rfl
  | [_], _, _ => rfl
  | x :: y :: r, h, nd => by
    have h1 := List.pairwise_cons.mp h
    have n1 := List.nodup_cons.mp nd
    rw [asc_cons, ris_asc h1.2 n1.2, Bool.and_true]
    refine decide_eq_true ?_
    have q : ¬ sl y x := h1.1 y (List.mem_cons_self ..)
    by_cases z : x.cps.toList < y.cps.toList
    · exact z
    · exact absurd (sl_anti z q) (fun e => n1.1 (by rw [e]; exact List.mem_cons_self ..))
theorem cut_hi {α : Type} (xs : List α) (j : Nat) : cutD xs none (some (j : Int)) = xs.take j := by
  have h1 : HT.sIx xs.length 0 none = 0 := rfl
  have h2 : HT.sIx xs.length xs.length (some (j : Int)) = min j xs.length := by
    simp [HT.sIx]
    intro h
    omega
  unfold cutD
  rw [h1, h2, List.drop_zero, Nat.sub_zero]
  rcases Nat.le_total j xs.length with h | h
  · rw [Nat.min_eq_left h]
  · rw [Nat.min_eq_right h, List.take_of_length_le (Nat.le_refl _), List.take_of_length_le h]
def Val (L : Lot) : Prop := 1 ≤ L.length ∧ L.length ≤ 3 ∧ (∀ z ∈ names L, z ∈ five) ∧ asc (names L) = true
theorem drawn_names {zs : List Str} (h : zs.Perm five) {k : Nat} (hk : k < 3) : 1 ≤ (sortS (zs.take (1 + k))).length ∧ (sortS (zs.take (1 + k))).length ≤ 3 ∧ (∀ z ∈ sortS (zs.take (1 + k)), z ∈ five) ∧ asc (sortS (zs.take (1 + k))) = true ∧ (zs.take (1 + k)).length < 64 := by
  obtain ⟨_, f2, f3, _⟩ := five_ok
  have hp := sort_perm (zs.take (1 + k))
  have hl : zs.length = 5 := by rw [h.length_eq, f3]
  have ht : (zs.take (1 + k)).length = 1 + k := by rw [List.length_take]; omega
  have nd : (zs.take (1 + k)).Nodup := List.Sublist.nodup (List.take_sublist _ _) (h.nodup_iff.mpr f2)
  refine ⟨by rw [hp.length_eq]; omega, by rw [hp.length_eq]; omega, fun z hz => ?_, ris_asc (sort_ris _) (hp.nodup_iff.mpr nd), by omega⟩
  exact h.mem_iff.mp (List.mem_of_mem_take (hp.mem_iff.mp hz))
end Lk77

set_option Elab.async false
set_option linter.all false
set_option maxRecDepth 100000
set_option maxHeartbeats 4000000
namespace Lk77
open PySem (Str)
open LD
abbrev OP (μ : Store) : Out D := .ok (.str "operation") μ
def NoLot (b : D) : Prop := (∃ t, tyN b = some t ∧ t ≠ "tuple") ∨ ∃ rs : List Row, b = .tup (rs.map Row.d) ∧ (∀ r ∈ rs, r.ok) ∧ isLot rs = false
structure Told (c : List D → Store → Out D) : Prop where
  t1 : ∀ r y t μ, tyN r = some t → t ≠ "tuple" → c [r, y] μ = OP μ
  t2 : ∀ xs y μ, xs.length ≠ 4 → c [.tup xs, y] μ = OP μ
  t3 : ∀ a b d e y t μ, tyN a = some t → t ≠ "str" → c [.tup [a, b, d, e], y] μ = OP μ
  t4 : ∀ b d e y μ, c [.tup [.str "both", b, d, e], y] μ = OP μ
  t5 : ∀ w b d e y μ, Wd2 w → NoLot b → c [.tup [.str w, b, d, e], y] μ = OP μ
  t6 : ∀ w L d e y μ, Wd2 w → Val L → NoLot y → c [.tup [.str w, lotD L, d, e], y] μ = OP μ
  t7 : ∀ w L M d e μ, Wd2 w → Val L → (∀ z ∈ names M, z ∈ NM) → names L ≠ names M → c [.tup [.str w, lotD L, d, e], lotD M] μ = OP μ
  t8 : ∀ w L M d e μ, Wd2 w → Val L → Val M → names L = names M → c [.tup [.str w, lotD L, d, e], lotD M] μ = .ok (.bl (if w = "unheard" then ab L M else ab M L)) μ
theorem kd_kind3 : ∀ i j k : Fin 3, isKd (kd i j k) = some true := by decide +kernel
theorem kd_kind (k : K3) : isKd (kk k) = some true := kd_kind3 ..
def rowsOf (M : Lot) : List Row := M.map fun p => .pair p.1 (kk p.2) true
theorem rows_d (M : Lot) : (rowsOf M).map Row.d = M.map rowD := by
  unfold rowsOf
  rw [List.map_map]
  rfl
theorem rows_ok {M : Lot} (h : ∀ z ∈ names M, z ∈ NM) : ∀ r ∈ rowsOf M, r.ok := fun r hr => by
  obtain ⟨p, hp, rfl⟩ := List.mem_map.mp hr
  exact ⟨h _ (List.mem_map.mpr ⟨p, hp, rfl⟩), kd_kind _⟩
theorem rows_lot (M : Lot) : isLot (rowsOf M) = (decide (1 ≤ M.length) && decide (M.length ≤ 3) && asc (names M)) := by
  unfold isLot rowsOf names
  simp only [List.length_map, List.map_map, List.all_map]
  have e1 : (Row.isP ∘ fun p : Str × K3 => Row.pair p.1 (kk p.2) true) = fun _ => true := rfl
  have e2 : (Row.k ∘ fun p : Str × K3 => Row.pair p.1 (kk p.2) true) = fun _ => true := rfl
  have e3 : (Row.z ∘ fun p : Str × K3 => Row.pair p.1 (kk p.2) true) = fun p => p.1 := rfl
  have e4 : (M.all fun _ => true) = true := by simp
  rw [e1, e2, e3, e4, Bool.and_true, Bool.and_true]
theorem five_nm {z : Str} (h : z ∈ five) : z ∈ NM := of_decide_eq_true (List.all_eq_true.mp five_ok.1 z h)
theorem nm_ok {z : Str} (h : z ∈ NM) : PySem.PyData.strOk z = true := by
  have q := List.all_eq_true.mp nm_n z h
  simp only [Bool.and_eq_true] at q
  exact q.2
section
variable {c : Str → List D → Store → Out D}
theorem told_all (hl1 : ∀ rs : List Row, (∀ r ∈ rs, r.ok) → ∀ μ, c "is_lot" [.tup (rs.map Row.d)] μ = .ok (.bl (isLot rs)) μ) (hl2 : ∀ x t μ, tyN x = some t → t ≠ "tuple" → c "is_lot" [x] μ = .ok (.bl false) μ)
    (hb : ∀ L μ, c "boxes_of" [lotD L] μ = .ok (.lst ((names L).map D.str)) μ)
    (hi : ∀ L M w t p μ, Wd2 w → c "excludes_in" [.tup [.str w, lotD L, t, p], lotD M] μ = .ok (.bl (if w = "unheard" then ab L M else ab M L)) μ)
    {e : List D → Store → Out D} (he : e = runF ⟨tabC cs, c⟩ 0 f_excludes) {c' : Str → List D → Store → Out D} (hc : c' "excludes" = e) : Told (runF ⟨tabC cs, c'⟩ 0 f__law_told) := by
  have hU : (⟨tabC cs, c⟩ : GT).con "UNHEARD" = some (.str "unheard") := cU
  have hH : (⟨tabC cs, c⟩ : GT).con "HEARD" = some (.str "heard") := cH
  have lotV : ∀ {L : Lot}, Val L → ∀ μ, c "is_lot" [lotD L] μ = .ok (.bl true) μ := fun {L} v μ => by
    have h := hl1 (rowsOf L) (rows_ok fun z hz => five_nm (v.2.2.1 z hz)) μ
    rw [rows_d, rows_lot, decide_eq_true v.1, decide_eq_true v.2.1, v.2.2.2] at h
    exact h
  have no : ∀ {b : D}, NoLot b → ∀ μ, c "is_lot" [b] μ = .ok (.bl false) μ := fun {b} h μ => by
    rcases h with ⟨t, h1, h2⟩ | ⟨rs, rfl, h1, h2⟩
    · exact hl2 _ _ _ h1 h2
    · rw [hl1 rs h1, h2]
  subst he
  have exc : ∀ {r y : D}, (∀ μ, runF ⟨tabC cs, c⟩ 0 f_excludes [r, y] μ = .exc EX [] μ) → ∀ μ, runF ⟨tabC cs, c'⟩ 0 f__law_told [r, y] μ = OP μ := fun h μ => told_exc (by show c' "excludes" _ _ = _; rw [hc]; exact h μ)
  refine ⟨fun r y t μ h1 h2 => exc (fun μ => x1 h1 h2 μ) μ, fun xs y μ h => exc (fun μ => x2 h μ) μ, fun a b d e y t μ h1 h2 => exc (fun μ => x3 h1 h2 μ) μ, fun b d e y μ => exc (fun μ => x4 hU hH (by decide +kernel) μ) μ,
    fun w b d e y μ hw h => exc (fun μ => x5 hU hH hw (no h) μ) μ, fun w L d e y μ hw v h => exc (fun μ => x6 hU hH hw (lotV v) (no h) μ) μ, fun w L M d e μ hw v hM hne => ?_, fun w L M d e μ hw v v' heq => ?_⟩
  · have h := hl1 (rowsOf M) (rows_ok hM)
    rw [rows_d] at h
    cases q : isLot (rowsOf M) with
    | false =>
      rw [q] at h
      exact exc (fun μ => x6 hU hH hw (lotV v) h μ) μ
    | true =>
      rw [q] at h
      have ne := ne_strs (a := names L) (b := names M) (fun z hz => nm_ok (five_nm (v.2.2.1 z hz))) fun z hz => nm_ok (hM z hz)
      rw [decide_eq_false hne] at ne
      exact exc (fun μ => x7 hU hH hw (lotV v) h (hb L) (hb M) ne μ) μ
  · have ne := ne_strs (a := names L) (b := names M) (fun z hz => nm_ok (five_nm (v.2.2.1 z hz))) fun z hz => nm_ok (five_nm (v'.2.2.1 z hz))
    rw [decide_eq_true heq] at ne
    refine told_ok ?_
    show c' "excludes" _ _ = _
    rw [hc]
    exact x8 hU hH hw (lotV v) (lotV v') (hb L) (hb M) ne (fun μ => hi L M w d e μ hw) μ
end
/-! ### the wrong values -/
theorem nl_tri (p : Str × K3) : NoLot (rowD p) := .inr ⟨[.txt p.1, .tri (.str (w1 p.2.1)) (.str (w2 p.2.2.1)) (.str (w3 p.2.2.2))], rfl, fun r hr => by
  simp only [List.mem_cons, List.not_mem_nil, or_false] at hr
  rcases hr with rfl | rfl <;> trivial, rfl⟩
theorem nl_nil : NoLot (.tup []) := .inr ⟨[], rfl, fun r hr => (List.not_mem_nil hr).elim, rfl⟩
theorem nl_ty {b : D} (t : String) (h : tyN b = some t) (h2 : t ≠ "tuple") : NoLot b := .inl ⟨t, h, h2⟩
theorem nl_lot {M : Lot} (hM : ∀ z ∈ names M, z ∈ NM) (h : (decide (1 ≤ M.length) && decide (M.length ≤ 3) && asc (names M)) = false) : NoLot (lotD M) :=
  .inr ⟨rowsOf M, by rw [rows_d]; rfl, rows_ok hM, by rw [rows_lot]; exact h⟩
theorem nl_none {z : Str} (h : z ∈ NM) : NoLot (.tup [.tup [.str z, .non]]) := .inr ⟨[.pair z .non false], rfl, fun r hr => by
  simp only [List.mem_cons, List.not_mem_nil, or_false] at hr
  subst hr
  exact ⟨h, rfl⟩, rfl⟩
theorem slt_ne {x y : Str} (h : x.cps.toList < y.cps.toList) : ¬ y.cps.toList < x.cps.toList := fun h' => List.lt_irrefl _ (List.lt_trans h h')
theorem nm_lot {L : Lot} (v : Val L) : ∀ z ∈ names L, z ∈ NM := fun z hz => five_nm (v.2.2.1 z hz)
/-- one + one, one + one[-1:], one[::-1] are no lots -/
theorem nl_twice {L : Lot} (v : Val L) : NoLot (lotD (L ++ L)) ∧ NoLot (lotD (L ++ L.drop (L.length - 1))) ∧ (1 < L.length → NoLot (lotD L.reverse)) := by
  have hN := nm_lot v
  have m1 : ∀ z ∈ names (L ++ L), z ∈ NM := fun z hz => by
    unfold names at hz hN
    rw [List.map_append] at hz
    rcases List.mem_append.mp hz with h | h <;> exact hN z h
  have m2 : ∀ z ∈ names (L ++ L.drop (L.length - 1)), z ∈ NM := fun z hz => by
    unfold names at hz hN
    rw [List.map_append] at hz
    rcases List.mem_append.mp hz with h | h
    · exact hN z h
    · rw [List.map_drop] at h
      exact hN z (List.mem_of_mem_drop h)
  have m3 : ∀ z ∈ names L.reverse, z ∈ NM := fun z hz => by
    unfold names at hz hN
    rw [List.map_reverse] at hz
    exact hN z (List.mem_reverse.mp hz)
  obtain ⟨h1, h2, h3, h4⟩ := v
  match L, h1, h2, h4, m1, m2, m3 with
  | [p], _, _, _, m1, m2, _ =>
    have e : asc [p.1, p.1] = false := by
      rw [asc_cons]
      rw [decide_eq_false (List.lt_irrefl _)]; rfl
    exact ⟨nl_lot m1 (by show (true && true && asc [p.1, p.1]) = false; rw [e]; rfl), nl_lot m2 (by show (true && true && asc [p.1, p.1]) = false; rw [e]; rfl), fun h => absurd h (by simp)⟩
  | [p, q], _, _, h4, m1, m2, m3 =>
    have h4 : asc [p.1, q.1] = true := h4
    rw [asc_cons, Bool.and_eq_true] at h4
    have a := of_decide_eq_true h4.1
    refine ⟨nl_lot m1 rfl, nl_lot m2 ?_, fun _ => nl_lot m3 ?_⟩
    · show (true && true && asc [p.1, q.1, q.1]) = false
      rw [asc_cons, asc_cons, decide_eq_false (List.lt_irrefl q.1.cps.toList), Bool.false_and, Bool.and_false, Bool.and_false]
    · show (true && true && asc [q.1, p.1]) = false
      rw [asc_cons, decide_eq_false (slt_ne a)]; rfl
  | [p, q, r], _, _, h4, m1, m2, m3 =>
    have h4 : asc [p.1, q.1, r.1] = true := h4
    rw [asc_cons, asc_cons, Bool.and_eq_true, Bool.and_eq_true] at h4
    have a := of_decide_eq_true h4.2.1
    refine ⟨nl_lot m1 rfl, nl_lot m2 rfl, fun _ => nl_lot m3 ?_⟩
    show (true && true && asc [r.1, q.1, p.1]) = false
    rw [asc_cons, decide_eq_false (slt_ne a)]; rfl
/-- the lot with other boxes -/
def other (L : Lot) : Lot := (L.take (L.length - 1)).map (fun p : Str × K3 => (p.1 ++ ("x" : Str), p.2)) ++ L.drop (L.length - 1)
theorem x_ne (z : Str) : z ++ "x" ≠ z := fun e => by
  have h : (z ++ "x").cps.toList = z.cps.toList := by rw [e]
  have e2 : (z ++ "x").cps = z.cps ++ (Str.ofString "x").cps := rfl
  rw [e2, Array.toList_append] at h
  have := congrArg List.length h
  rw [List.length_append] at this
  have h1 : ((Str.ofString "x").cps.toList).length = 1 := by decide +kernel
  omega
theorem below_z {x y : Str} (hx : x ∈ five) (hy : y ∈ five) (h : x.cps.toList < y.cps.toList) : x ++ "x" ∈ NM := by
  obtain ⟨_, _, _, f4, f5, _⟩ := five_ok
  have q := List.all_eq_true.mp f4 x hx
  rw [Bool.or_eq_true] at q
  rcases q with q | q
  · have e := of_decide_eq_true q
    subst e
    have q := List.all_eq_true.mp f5 y hy
    rw [Bool.or_eq_true] at q
    rcases q with q | q
    · exact absurd h (slt_ne (of_decide_eq_true q))
    · have e := of_decide_eq_true q
      subst e
      exact absurd h (List.lt_irrefl _)
  · exact of_decide_eq_true q
theorem other_ok {L : Lot} (v : Val L) (hl : 1 < L.length) : (∀ z ∈ names (other L), z ∈ NM) ∧ names L ≠ names (other L) ∧ (∀ p ∈ L.take (L.length - 1), p.1.length ≤ 8) := by
  have hN := nm_lot v
  obtain ⟨h1, h2, h3, h4⟩ := v
  have h8 : ∀ p ∈ L.take (L.length - 1), p.1.length ≤ 8 := fun p hp => by
    have hp := List.mem_of_mem_take hp
    exact of_decide_eq_true (List.all_eq_true.mp five_ok.2.2.2.2.2 p.1 (h3 _ (List.mem_map.mpr ⟨p, hp, rfl⟩)))
  refine ⟨?_, ?_, h8⟩
  · match L, h1, h2, h4, h3, hN, hl with
    | [p], _, _, _, _, _, hl => exact absurd hl (by simp)
    | [p, q], _, _, h4, h3, hN, _ =>
      have h4 : asc [p.1, q.1] = true := h4
      rw [asc_cons, Bool.and_eq_true] at h4
      intro z hz
      have hz : z ∈ [p.1 ++ "x", q.1] := hz
      simp only [List.mem_cons, List.not_mem_nil, or_false] at hz
      rcases hz with rfl | rfl
      · exact below_z (h3 p.1 (by simp [names])) (h3 q.1 (by simp [names])) (of_decide_eq_true h4.1)
      · exact hN q.1 (by simp [names])
    | [p, q, r], _, _, h4, h3, hN, _ =>
      have h4 : asc [p.1, q.1, r.1] = true := h4
      rw [asc_cons, asc_cons, Bool.and_eq_true, Bool.and_eq_true] at h4
      intro z hz
      have hz : z ∈ [p.1 ++ "x", q.1 ++ "x", r.1] := hz
      simp only [List.mem_cons, List.not_mem_nil, or_false] at hz
      rcases hz with rfl | rfl | rfl
      · exact below_z (h3 p.1 (by simp [names])) (h3 q.1 (by simp [names])) (of_decide_eq_true h4.1)
      · exact below_z (h3 q.1 (by simp [names])) (h3 r.1 (by simp [names])) (of_decide_eq_true h4.2.1)
      · exact hN r.1 (by simp [names])
  · match L, h1, h2, hl with
    | [p], _, _, hl => exact absurd hl (by simp)
    | [p, q], _, _, _ =>
      intro e
      have e : [p.1, q.1] = [p.1 ++ "x", q.1] := e
      injection e with e1 _
      exact x_ne _ e1.symm
    | [p, q, r], _, _, _ =>
      intro e
      have e : [p.1, q.1, r.1] = [p.1 ++ "x", q.1 ++ "x", r.1] := e
      injection e with e1 _
      exact x_ne _ e1.symm
end Lk77

set_option Elab.async false
set_option linter.all false
set_option maxRecDepth 100000
set_option maxHeartbeats 8000000
namespace Lk77
open PySem (Str)
open LD
abbrev E17 (l : Nat) (b o t s4 s5 s6 s7 s8 s9 s10 s11 s12 s13 s14 : Slot) : Env := [.val (.loc l), b, o, t, s4, s5, s6, s7, s8, s9, s10, s11, s12, s13, s14, .no, .no]
theorem ne_bl2 : ∀ a b : Bool, cmpop .ne (.lst [.bl a, .bl b]) (.lst [.bl a, .bl b]) = some false := by decide +kernel
theorem isb_bool : isB "bool" "bool" = some true := by decide +kernel
theorem turn {G : GT} (ht : Told (G.call "_law_told")) (ha : ∀ {L M : Lot}, L.length = M.length → L.length ≤ 100 → ∀ μ, G.call "_law_is_above" [lotD L, lotD M] μ = .ok (.bl (ab L M)) μ) {A B : Lot} (vA : Val A) (vB : Val B) (hn : names A = names B)
    (l : Nat) (b o t s4 s5 s6 s7 : Slot) (x8 x9 : D) (s12 s13 s14 : Slot) (μ : Store) :
    exSs G 0 f__law_case_l0 (E17 l b o t s4 s5 s6 s7 (.val x8) (.val x9) (.val (lotD A)) (.val (lotD B)) s12 s13 s14) μ = .nx (E17 l b o t s4 s5 s6 s7 (.val x8) (.val x9) (.val (lotD A)) (.val (lotD B)) (.val (.lst [.bl (ab A B), .bl (ab B A)])) s13 s14) μ := by
  have h1 := fun μ => ht.t8 "unheard" A B x8 x9 μ (.inl rfl) vA vB hn
  have h2 := fun μ => ht.t8 "heard" A B x8 x9 μ (.inr rfl) vA vB hn
  simp only [if_true] at h1
  rw [show (if ("heard" : Str) = "unheard" then ab A B else ab B A) = ab B A from if_neg (by decide +kernel)] at h2
  have hlen : A.length = B.length := by
    have := congrArg List.length hn
    unfold names at this
    simpa using this
  have h3 := fun μ => ha hlen (by have := vA.2.1; omega) μ
  have h4 := fun μ => ha hlen.symm (by have := vB.2.1; omega) μ
  have h5 := ne_bl2 (ab A B) (ab B A)
  generalize lotD A = X at *
  generalize lotD B = Y at *
  generalize ab A B = p at *
  generalize ab B A = q at *
  have i0 : ∀ μ, idxD (.lst [.bl p, .bl q]) (.int 0) μ = some (.bl p) := fun _ => rfl
  have i1 : ∀ μ, idxD (.lst [.bl p, .bl q]) (.int 1) μ = some (.bl q) := fun _ => rfl
  have s1 : exS G 0 (.asg (.name 12) (.comp (.call "_law_told" (.cons (.tup (.cons (.var 13) (.cons (.var 10) (.cons (.var 8) (.cons (.var 9) .nil))))) (.cons (.var 11) .nil))) (.name 13) .val (.cons (.lst (.cons (.con (.str "unheard")) (.cons (.con (.str "heard")) .nil))) .nil) none)) (E17 l b o t s4 s5 s6 s7 (.val x8) (.val x9) (.val X) (.val Y) s12 s13 s14) μ = .nx (E17 l b o t s4 s5 s6 s7 (.val x8) (.val x9) (.val X) (.val Y) (.val (.lst [.bl p, .bl q])) s13 s14) μ := by
    simp [exS, ev, evs, Fl.of, Fl.opt, Out.bind, opt, Env.get, Env.put, bindT, iterD, compLoop, wipeE, Tg.slots, LINE, h1, h2]
  unfold f__law_case_l0
  refine (exSs_nx s1).trans ?_
  simp [exSs, exS, ev, evs, Fl.of, Fl.next, Out.bind, opt, Env.get, testOf, truthy, blt, tyN, isb_bool, i0, i1, h3, h4, h5, LINE]
theorem ne_op : cmpop .ne (.str "operation") (.str "operation") = some false := by decide +kernel
theorem loop1 {G : GT} {one : D} : ∀ (xs : List D), (∀ v ∈ xs, ∀ μ, G.call "_law_told" [v, one] μ = OP μ) → ∀ (l : Nat) (b t s4 s5 s6 s7 s8 s9 s10 s11 s12 s13 s14 : Slot) (μ : Store), ∃ s6', forLoop (.name 6) (exSs G 0 f__law_case_l1) xs (E17 l b (.val one) t s4 s5 s6 s7 s8 s9 s10 s11 s12 s13 s14) μ = .nx (E17 l b (.val one) t s4 s5 s6' s7 s8 s9 s10 s11 s12 s13 s14) μ
  | [], _, l, b, t, s4, s5, s6, s7, s8, s9, s10, s11, s12, s13, s14, μ => ⟨s6, rfl⟩
  | v :: xs, h, l, b, t, s4, s5, s6, s7, s8, s9, s10, s11, s12, s13, s14, μ => by
    obtain ⟨s6', ih⟩ := loop1 xs (fun v hv => h v (List.mem_cons_of_mem _ hv)) l b t s4 s5 (.val v) s7 s8 s9 s10 s11 s12 s13 s14 μ
    have h0 := h v (List.mem_cons_self ..)
    refine ⟨s6', ?_⟩
    unfold forLoop
    generalize forLoop (.name 6) (exSs G 0 f__law_case_l1) xs = F at ih ⊢
    have e := ne_op
    simp [f__law_case_l1, exSs, exS, ev, evs, Fl.of, Fl.next, Fl.opt, Out.bind, opt, Env.get, Env.put, bindT, testOf, truthy, h0, e, ih]
theorem loop2 {G : GT} {one : D} {w : Str} : ∀ (xs : List D), (∀ v ∈ xs, ∀ μ, G.call "_law_told" [.tup [.str w, one, .non, .non], v] μ = OP μ) → ∀ (l : Nat) (b o t s4 s5 s6 s7 s8 s9 s10 s11 s12 : Slot) (μ : Store), ∃ s6', forLoop (.name 6) (exSs G 0 f__law_case_l2) xs (E17 l b o t s4 s5 s6 s7 s8 s9 s10 s11 s12 (.val (.str w)) (.val (.tup [one, .non, .non]))) μ = .nx (E17 l b o t s4 s5 s6' s7 s8 s9 s10 s11 s12 (.val (.str w)) (.val (.tup [one, .non, .non]))) μ
  | [], _, l, b, o, t, s4, s5, s6, s7, s8, s9, s10, s11, s12, μ => ⟨s6, rfl⟩
  | v :: xs, h, l, b, o, t, s4, s5, s6, s7, s8, s9, s10, s11, s12, μ => by
    obtain ⟨s6', ih⟩ := loop2 xs (fun v hv => h v (List.mem_cons_of_mem _ hv)) l b o t s4 s5 (.val v) s7 s8 s9 s10 s11 s12 μ
    have h0 := h v (List.mem_cons_self ..)
    refine ⟨s6', ?_⟩
    unfold forLoop
    generalize forLoop (.name 6) (exSs G 0 f__law_case_l2) xs = F at ih ⊢
    have e := ne_op
    have ea : binop .add (.tup [.str w]) (.tup [one, .non, .non]) = some (.tup [.str w, one, .non, .non]) := rfl
    simp [f__law_case_l2, exSs, exS, ev, evs, Fl.of, Fl.next, Fl.opt, Out.bind, opt, Env.get, Env.put, bindT, testOf, truthy, LINE, ea, h0, e, ih]
/-! ### slices of lots -/
theorem cut_m1 {α : Type} (xs : List α) : cutD xs none (some (-1)) = xs.take (xs.length - 1) := by
  have h1 : HT.sIx xs.length 0 none = 0 := rfl
  have h2 : HT.sIx xs.length xs.length (some (-1)) = xs.length - 1 := by
    simp [HT.sIx]
    omega
  unfold cutD
  rw [h1, h2, List.drop_zero, Nat.sub_zero]
theorem cut_l1 {α : Type} (xs : List α) : cutD xs (some (-1)) none = xs.drop (xs.length - 1) := by
  have h1 : HT.sIx xs.length 0 (some (-1)) = xs.length - 1 := by
    simp [HT.sIx]
    omega
  have h2 : HT.sIx xs.length xs.length none = xs.length := rfl
  unfold cutD
  rw [h1, h2]
  exact List.take_of_length_le (by rw [List.length_drop]; omega)
theorem ini_lot (L : Lot) : sliceD (lotD L) (none, some (-1)) = some (lotD (L.take (L.length - 1))) := by
  show some (D.tup (cutD (L.map rowD) none (some (-1)))) = _
  rw [cut_m1, List.length_map, ← List.map_take]
  rfl
theorem last_lot (L : Lot) : sliceD (lotD L) (some (-1), none) = some (lotD (L.drop (L.length - 1))) := by
  show some (D.tup (cutD (L.map rowD) (some (-1)) none)) = _
  rw [cut_l1, List.length_map, ← List.map_drop]
  rfl
theorem rest_lot (L : Lot) : sliceD (lotD L) (some 1, none) = some (lotD (L.drop 1)) := by
  show some (D.tup (cutD (L.map rowD) (some 1) none)) = _
  rw [cut_one, ← List.map_drop]
  rfl
theorem add_lot (L M : Lot) (h : L.length + M.length ≤ 1000) : binop .add (lotD L) (lotD M) = some (lotD (L ++ M)) := by
  show (if (L.map rowD).length + (M.map rowD).length ≤ LINE then some (D.tup (L.map rowD ++ M.map rowD)) else none) = _
  rw [List.length_map, List.length_map, if_pos (by have : (1000 : Nat) ≤ LINE := by decide
                                                   omega), ← List.map_append]
  rfl
end Lk77

set_option Elab.async false
set_option linter.all false
set_option maxRecDepth 100000
set_option maxHeartbeats 8000000
namespace Lk77
open PySem (Str)
open LD
def oddL (w : Str) (L : Lot) (r0 : D) : List D := [.non, .tup [], .str w, .tup [.str w, lotD L, .non], .tup [.str w, lotD L, .non, .non, .non], .lst [.str w, lotD L, .non, .non], .tup [.str "both", lotD L, .non, .non],
  .tup [.non, lotD L, .non, .non], .tup [.tup [.str w], lotD L, .non, .non], .tup [.str w, .non, .non, .non], .tup [.str w, .lst (L.map rowD), .non, .non], .dct [],
  .tup [.str w, r0, .non, .non], .tup [.str w, .tup [], .non, .non], .tup [.str w, lotD (L ++ L), .non, .non], .tup [lotD L, .str w, .non, .non]]
theorem odd_told {c : List D → Store → Out D} (ht : Told c) {w : Str} (hw : Wd2 w) {L : Lot} (v : Val L) {r0 : D} (h0 : NoLot r0) : ∀ x ∈ oddL w L r0, ∀ μ, c [x, lotD L] μ = OP μ := by
  intro x hx μ
  obtain ⟨n1, n2, n3⟩ := nl_twice v
  simp only [oddL, List.mem_cons, List.not_mem_nil, or_false] at hx
  rcases hx with rfl | rfl | rfl | rfl | rfl | rfl | rfl | rfl | rfl | rfl | rfl | rfl | rfl | rfl | rfl | rfl
  · exact ht.t1 _ _ "NoneType" μ rfl (by decide)
  · exact ht.t2 _ _ μ (by decide)
  · exact ht.t1 _ _ "str" μ rfl (by decide)
  · exact ht.t2 _ _ μ (by simp)
  · exact ht.t2 _ _ μ (by simp)
  · exact ht.t1 _ _ "list" μ rfl (by decide)
  · exact ht.t4 _ _ _ _ μ
  · exact ht.t3 _ _ _ _ _ "NoneType" μ rfl (by decide)
  · exact ht.t3 _ _ _ _ _ "tuple" μ rfl (by decide)
  · exact ht.t5 _ _ _ _ _ μ hw (nl_ty "NoneType" rfl (by decide))
  · exact ht.t5 _ _ _ _ _ μ hw (nl_ty "list" rfl (by decide))
  · exact ht.t1 _ _ "dict" μ rfl (by decide)
  · exact ht.t5 _ _ _ _ _ μ hw h0
  · exact ht.t5 _ _ _ _ _ μ hw nl_nil
  · exact ht.t5 _ _ _ _ _ μ hw n1
  · exact ht.t3 _ _ _ _ _ "tuple" μ rfl (by decide)
theorem odd_rev {c : List D → Store → Out D} (ht : Told c) {w : Str} (hw : Wd2 w) {L : Lot} (v : Val L) (hl : 1 < L.length) : ∀ μ, c [.tup [.str w, lotD L.reverse, .non, .non], lotD L] μ = OP μ := fun μ => by
  obtain ⟨n1, n2, n3⟩ := nl_twice v
  exact ht.t5 _ _ _ _ _ μ hw (n3 hl)
def othL (L : Lot) (z0 : Str) (r0 : D) : List D := [.non, .tup [], .lst (L.map rowD), r0, lotD (L ++ L.drop (L.length - 1)), .str "lot", .dct [], .tup [.tup [.str z0, .non]], lotD (L.drop 1)]
theorem oth_told {c : List D → Store → Out D} (ht : Told c) {w : Str} (hw : Wd2 w) {L : Lot} (v : Val L) {r0 : D} (h0 : NoLot r0) {z0 : Str} (hz : z0 ∈ NM) : ∀ x ∈ othL L z0 r0, ∀ μ, c [.tup [.str w, lotD L, .non, .non], x] μ = OP μ := by
  intro x hx μ
  obtain ⟨n1, n2, n3⟩ := nl_twice v
  simp only [othL, List.mem_cons, List.not_mem_nil, or_false] at hx
  rcases hx with rfl | rfl | rfl | rfl | rfl | rfl | rfl | rfl | rfl
  · exact ht.t6 _ _ _ _ _ μ hw v (nl_ty "NoneType" rfl (by decide))
  · exact ht.t6 _ _ _ _ _ μ hw v nl_nil
  · exact ht.t6 _ _ _ _ _ μ hw v (nl_ty "list" rfl (by decide))
  · exact ht.t6 _ _ _ _ _ μ hw v h0
  · exact ht.t6 _ _ _ _ _ μ hw v n2
  · exact ht.t6 _ _ _ _ _ μ hw v (nl_ty "str" rfl (by decide))
  · exact ht.t6 _ _ _ _ _ μ hw v (nl_ty "dict" rfl (by decide))
  · exact ht.t6 _ _ _ _ _ μ hw v (nl_none hz)
  · refine ht.t7 _ _ _ _ _ μ hw v (fun z hz => ?_) fun e => ?_
    · unfold names at hz
      rw [List.map_drop] at hz
      exact nm_lot v z (List.mem_of_mem_drop hz)
    · have := congrArg List.length e
      unfold names at this
      rw [List.length_map, List.length_map, List.length_drop] at this
      have := v.1
      omega
theorem oth_more {c : List D → Store → Out D} (ht : Told c) {w : Str} (hw : Wd2 w) {L : Lot} (v : Val L) (hl : 1 < L.length) : ∀ x ∈ [lotD (other L), lotD L.reverse], ∀ μ, c [.tup [.str w, lotD L, .non, .non], x] μ = OP μ := by
  intro x hx μ
  obtain ⟨n1, n2, n3⟩ := nl_twice v
  obtain ⟨o1, o2, _⟩ := other_ok v hl
  simp only [List.mem_cons, List.not_mem_nil, or_false] at hx
  rcases hx with rfl | rfl
  · exact ht.t7 _ _ _ _ _ μ hw v o1 o2
  · exact ht.t6 _ _ _ _ _ μ hw v (n3 hl)
theorem dict0 : dictD [] = some [] := by kernel_rfl
/-- box + "x" of all boxes but the last -/
theorem other_comp {G : GT} {L : Lot} (v : Val L) (l : Nat) (b t s4 s5 s6 s7 s8 s9 s10 s11 s12 s13 s14 : Slot) (μ : Store) :
    ev G (.comp (.tup (.cons (.bin .add (.var 15) (.con (.str "x"))) (.cons (.var 16) .nil))) (.tup [15, 16]) .val (.cons (.slice .hi (.var 2) (.cons (.neg (.con (.int 1))) .nil)) .nil) none) (E17 l b (.val (lotD L)) t s4 s5 s6 s7 s8 s9 s10 s11 s12 s13 s14) μ = .ok (.lst (((L.take (L.length - 1)).map fun p : Str × K3 => (p.1 ++ ("x" : Str), p.2)).map rowD)) μ := by
  have q1 : evs G (.cons (.slice .hi (.var 2) (.cons (.neg (.con (.int 1))) .nil)) .nil) (E17 l b (.val (lotD L)) t s4 s5 s6 s7 s8 s9 s10 s11 s12 s13 s14) μ = .ok [lotD (L.take (L.length - 1))] μ := by
    have e := ini_lot L
    generalize lotD L = X at *
    generalize lotD (L.take (L.length - 1)) = Y at *
    simp [evs, ev, Out.bind, opt, Env.get, part, e]
  have hit : iterD .val [lotD (L.take (L.length - 1))] = some ((L.take (L.length - 1)).map rowD) := rfl
  rw [ev, q1, Out.bind_ok, hit]
  dsimp only
  rw [compLoop_map (g := rowD) (h := fun p : Str × K3 => rowD (p.1 ++ ("x" : Str), p.2))]
  · rw [List.map_map]; rfl
  · intro p hp
    have h8 : p.1.length ≤ 8 := of_decide_eq_true (List.all_eq_true.mp five_ok.2.2.2.2.2 p.1 (v.2.2.1 _ (List.mem_map.mpr ⟨p, List.mem_of_mem_take hp, rfl⟩)))
    have hx : ("x" : Str).length = 1 := by decide +kernel
    have hb : binop .add (.str p.1) (.str "x") = some (.str (p.1 ++ "x")) := by
      show (if p.1.length + ("x" : Str).length ≤ LINE then some (D.str (p.1 ++ "x")) else none) = _
      rw [if_pos (by have : (1000 : Nat) ≤ LINE := by decide
                     omega)]
    have hk : ∀ q : Str × K3, rowD q = .tup [.str q.1, kk q.2] := fun _ => rfl
    rw [hk, hk]
    generalize kk p.2 = K at *
    simp [wipeE, Tg.slots, bindT, putAll, Env.put, Env.get, opt, Out.bind, ev, evs, hb, LINE]
end Lk77

set_option Elab.async false
set_option linter.all false
set_option maxRecDepth 100000
set_option maxHeartbeats 16000000
namespace Lk77
open PySem (Str)
open LD
theorem gt1 (n : Nat) : cmpop .gt (.int (n : Int)) (.int 1) = some (decide (1 < n)) := by
  show some (decide ((1 : Int) < (n : Int))) = _
  congr 1
  exact decide_eq_decide.mpr (by omega)
theorem rev_lot (L : Lot) : D.tup (L.map rowD).reverse = lotD L.reverse := by
  rw [← List.map_reverse]; rfl
theorem case_ok {G : GT} (hmix : MixOk (G.call "_law_mixed")) (hr : RollOk (G.call "_law_roll")) (hk : KindOk (G.call "_law_any_kind")) (hnr : NearOk (G.call "_law_near")) (hp : PickOk (G.call "_law_pick")) (ht : Told (G.call "_law_told"))
    (ha : ∀ {L M : Lot}, L.length = M.length → L.length ≤ 100 → ∀ μ, G.call "_law_is_above" [lotD L, lotD M] μ = .ok (.bl (ab L M)) μ) (l : Nat) (μ : Store) (hd : Dice l μ) : ∃ μ', runF G 0 f__law_case [.loc l] μ = .ok (.bl true) μ' := by
  obtain ⟨ys, μ1, hy, e1, d1⟩ := hmix l μ (five.map D.str) hd (by simp [five])
  obtain ⟨zs, rfl, hz⟩ := perm_strs hy
  obtain ⟨k, μ2, hk3, e2, d2, _⟩ := hr l μ1 3 d1 (by decide) (by decide)
  have hk3 : k < 3 := by omega
  obtain ⟨b1, b2, b3, b4, b5⟩ := drawn_names hz hk3
  -- the lots
  obtain ⟨L, μ3, hL, e3, d3⟩ := kinds_loop (l := l) (f := fun x μ => match bindT (wipeE (E17 l (.val (.lst ((sortS (zs.take (1 + k))).map D.str))) .no .no .no .no .no .no .no .no .no .no .no .no .no) (Tg.name 15).slots) (.name 15) x with
      | some ρ' => (ev G (.tup (.cons (.var 15) (.cons (.call "_law_any_kind" (.cons (.var 0) .nil)) .nil))) ρ' μ).bind fun y μ => .ok (some y) μ
      | none => .bad) (fun z μ hd => by
    obtain ⟨kq, μ', e, d⟩ := hk l μ hd
    refine ⟨kq, μ', ?_, d⟩
    have hrw : rowD (z, kq) = .tup [.str z, kk kq] := rfl
    rw [hrw]
    generalize kk kq = K at *
    generalize sortS (zs.take (1 + k)) = bs at *
    simp [wipeE, Tg.slots, bindT, Env.put, Env.get, opt, Out.bind, ev, evs, LINE, e]) (sortS (zs.take (1 + k))) [] μ2 d2
  rw [List.nil_append] at e3
  obtain ⟨M, μ4, hM, e4, d4⟩ := near_loop (l := l) (f := fun x μ => match bindT (wipeE (E17 l (.val (.lst ((sortS (zs.take (1 + k))).map D.str))) (.val (lotD L)) .no .no .no .no .no .no .no .no .no .no .no .no) (Tg.tup [15, 16]).slots) (.tup [15, 16]) x with
      | some ρ' => (ev G (.tup (.cons (.var 15) (.cons (.call "_law_near" (.cons (.var 0) (.cons (.var 16) .nil))) .nil))) ρ' μ).bind fun y μ => .ok (some y) μ
      | none => .bad) (fun p μ hd => by
    obtain ⟨kq, μ', e, d⟩ := hnr l μ p.2 hd
    refine ⟨kq, μ', ?_, d⟩
    have hrw : ∀ q : Str × K3, rowD q = .tup [.str q.1, kk q.2] := fun _ => rfl
    rw [hrw, hrw]
    dsimp only
    generalize kk kq = K at *
    generalize kk p.2 = K2 at *
    generalize lotD L = X at *
    generalize sortS (zs.take (1 + k)) = bs at *
    simp [wipeE, Tg.slots, bindT, putAll, Env.put, Env.get, opt, Out.bind, ev, evs, LINE, e]) L [] μ3 d3
  rw [List.nil_append] at e4
  obtain ⟨x8, μ5, _, e5, d5, _⟩ := hp l μ4 [.non, .tup [.str "a", .str "b"], .tup [], .int 5] d4 (by decide) (by decide)
  obtain ⟨x9, μ6, _, e6, d6, _⟩ := hp l μ5 [.non, .dct [], .tup [], .str "talk"] d5 (by decide) (by decide)
  obtain ⟨wd, μ7, mw, e7, d7, _⟩ := hp l μ6 [.str "unheard", .str "heard"] d6 (by decide) (by decide)
  obtain ⟨w, rfl, hw⟩ : ∃ w : Str, wd = .str w ∧ Wd2 w := by
    simp only [List.mem_cons, List.not_mem_nil, or_false] at mw
    rcases mw with rfl | rfl
    · exact ⟨_, rfl, .inl rfl⟩
    · exact ⟨_, rfl, .inr rfl⟩
  have hlL : L.length = (sortS (zs.take (1 + k))).length := by rw [← hL]; simp [names]
  have vL : Val L := ⟨by omega, by omega, fun z hz => by rw [hL] at hz; exact b3 z hz, by rw [hL]; exact b4⟩
  have hlM : M.length = L.length := by
    have := congrArg List.length hM
    simpa [names] using this
  have vM : Val M := ⟨by have := vL.1; omega, by have := vL.2.1; omega, fun z hz => by rw [hM] at hz; exact vL.2.2.1 z hz, by rw [hM]; exact vL.2.2.2⟩
  obtain ⟨p0, L0, rfl⟩ : ∃ p0 L0, L = p0 :: L0 := by
    cases L with
    | nil => exact absurd vL.1 (by simp)
    | cons p0 L0 => exact ⟨p0, L0, rfl⟩
  have hz0 : p0.1 ∈ NM := nm_lot vL p0.1 (by simp [names])
  have nl0 := nl_tri p0
  refine ⟨μ7, runF_ret rfl ?_⟩
  show exSs G 0 f__law_case.body (E17 l .no .no .no .no .no .no .no .no .no .no .no .no .no .no) μ = _
  unfold f__law_case
  dsimp only
  -- boxes
  refine (exSs_nx (ρ' := E17 l (.val (.lst ((sortS (zs.take (1 + k))).map D.str))) .no .no .no .no .no .no .no .no .no .no .no .no .no) (μ' := μ2) ?_).trans ?_
  · have hs : sliceD (.lst (zs.map D.str)) (none, some (1 + (k : Int))) = some (.lst ((zs.take (1 + k)).map D.str)) := by
      show some (D.lst (cutD (zs.map D.str) none (some (1 + (k : Int))))) = _
      have : (1 + (k : Int)) = ((1 + k : Nat) : Int) := by omega
      rw [this, cut_hi, List.map_take]
    have hb : blt .sorted1 [.lst ((zs.take (1 + k)).map D.str)] = some (.lst ((sortS (zs.take (1 + k))).map D.str)) := by
      show (match strsD ((zs.take (1 + k)).map D.str) with
        | some ys => if ys.length < 64 then some (D.lst ((sortS ys).map D.str)) else none
        | none => none) = _
      rw [strsD_map]
      exact if_pos b5
    unfold five at e1
    generalize zs.map D.str = A1 at *
    generalize (zs.take (1 + k)).map D.str = A2 at *
    generalize (sortS (zs.take (1 + k))).map D.str = A3 at *
    simp at e1
    simp [exS, ev, evs, Fl.of, Fl.opt, Out.bind, opt, Env.get, Env.put, bindT, binop, part, LINE, e1, e2, hs, hb]
  -- one
  refine (exSs_nx (ρ' := E17 l (.val (.lst ((sortS (zs.take (1 + k))).map D.str))) (.val (lotD (p0 :: L0))) .no .no .no .no .no .no .no .no .no .no .no .no) (μ' := μ3) ?_).trans ?_
  · have hc : ev G (.comp (.tup (.cons (.var 15) (.cons (.call "_law_any_kind" (.cons (.var 0) .nil)) .nil))) (.name 15) .val (.cons (.var 1) .nil) none) (E17 l (.val (.lst ((sortS (zs.take (1 + k))).map D.str))) .no .no .no .no .no .no .no .no .no .no .no .no .no) μ2 = .ok (.lst ((p0 :: L0).map rowD)) μ3 := by
      have q1 : evs G (.cons (.var 1) .nil) (E17 l (.val (.lst ((sortS (zs.take (1 + k))).map D.str))) .no .no .no .no .no .no .no .no .no .no .no .no .no) μ2 = .ok [.lst ((sortS (zs.take (1 + k))).map D.str)] μ2 := rfl
      rw [ev, q1, Out.bind_ok]
      exact congrArg (fun o : Out (List D) => o.bind fun ys μ => Out.ok (D.lst ys) μ) e3
    rw [exS, ev, evs, hc]
    rfl
  -- two
  refine (exSs_nx (ρ' := E17 l (.val (.lst ((sortS (zs.take (1 + k))).map D.str))) (.val (lotD (p0 :: L0))) (.val (lotD M)) .no .no .no .no .no .no .no .no .no .no .no) (μ' := μ4) ?_).trans ?_
  · have hc : ev G (.comp (.tup (.cons (.var 15) (.cons (.call "_law_near" (.cons (.var 0) (.cons (.var 16) .nil))) .nil))) (.tup [15, 16]) .val (.cons (.var 2) .nil) none) (E17 l (.val (.lst ((sortS (zs.take (1 + k))).map D.str))) (.val (lotD (p0 :: L0))) .no .no .no .no .no .no .no .no .no .no .no .no) μ3 = .ok (.lst (M.map rowD)) μ4 := by
      have q1 : evs G (.cons (.var 2) .nil) (E17 l (.val (.lst ((sortS (zs.take (1 + k))).map D.str))) (.val (lotD (p0 :: L0))) .no .no .no .no .no .no .no .no .no .no .no .no) μ3 = .ok [lotD (p0 :: L0)] μ3 := rfl
      rw [ev, q1, Out.bind_ok]
      exact congrArg (fun o : Out (List D) => o.bind fun ys μ => Out.ok (D.lst ys) μ) e4
    rw [exS, ev, evs, hc]
    rfl
  generalize (sortS (zs.take (1 + k))).map D.str = BX at *
  -- thing, paper
  refine (exSs_nx (ρ' := E17 l (.val (.lst BX)) (.val (lotD (p0 :: L0))) (.val (lotD M)) .no .no .no .no (.val x8) (.val x9) .no .no .no .no .no) (μ' := μ6) ?_).trans ?_
  · generalize lotD (p0 :: L0) = X at *
    generalize lotD M = Y at *
    simp [exS, ev, evs, Fl.of, Fl.opt, Out.bind, opt, Env.get, Env.put, bindT, putAll, LINE, dict0, e5, e6]
  -- the three pairs
  refine (exSs_nx (ρ' := E17 l (.val (.lst BX)) (.val (lotD (p0 :: L0))) (.val (lotD M)) .no .no .no .no (.val x8) (.val x9) (.val (lotD (p0 :: L0))) (.val (lotD (p0 :: L0))) (.val (.lst [.bl (ab (p0 :: L0) (p0 :: L0)), .bl (ab (p0 :: L0) (p0 :: L0))])) .no .no) (μ' := μ6) ?_).trans ?_
  · have t1 := turn ht ha vL vM hM.symm l (.val (.lst BX)) (.val (lotD (p0 :: L0))) (.val (lotD M)) .no .no .no .no x8 x9 .no .no .no μ6
    have t2 := turn ht ha vM vL hM l (.val (.lst BX)) (.val (lotD (p0 :: L0))) (.val (lotD M)) .no .no .no .no x8 x9 (.val (.lst [.bl (ab (p0 :: L0) M), .bl (ab M (p0 :: L0))])) .no .no μ6
    have t3 := turn ht ha vL vL rfl l (.val (.lst BX)) (.val (lotD (p0 :: L0))) (.val (lotD M)) .no .no .no .no x8 x9 (.val (.lst [.bl (ab M (p0 :: L0)), .bl (ab (p0 :: L0) M)])) .no .no μ6
    have q1 : evs G (.cons (.tup (.cons (.tup (.cons (.var 2) (.cons (.var 3) .nil))) (.cons (.tup (.cons (.var 3) (.cons (.var 2) .nil))) (.cons (.tup (.cons (.var 2) (.cons (.var 2) .nil))) .nil)))) .nil) (E17 l (.val (.lst BX)) (.val (lotD (p0 :: L0))) (.val (lotD M)) .no .no .no .no (.val x8) (.val x9) .no .no .no .no .no) μ6 = .ok [.tup [.tup [lotD (p0 :: L0), lotD M], .tup [lotD M, lotD (p0 :: L0)], .tup [lotD (p0 :: L0), lotD (p0 :: L0)]]] μ6 := by
      generalize lotD (p0 :: L0) = X at *
      generalize lotD M = Y at *
      simp [evs, ev, Out.bind, opt, Env.get, LINE]
    rw [exS, q1]
    generalize lotD (p0 :: L0) = X at *
    generalize lotD M = Y at *
    generalize exSs G 0 f__law_case_l0 = F at *
    simp [Fl.of, iterD, forLoop, bindT, putAll, Env.put, t1, t2, t3]
  -- the lot with other boxes
  refine (exSs_nx (ρ' := E17 l (.val (.lst BX)) (.val (lotD (p0 :: L0))) (.val (lotD M)) (.val (lotD (other (p0 :: L0)))) .no .no .no (.val x8) (.val x9) (.val (lotD (p0 :: L0))) (.val (lotD (p0 :: L0))) (.val (.lst [.bl (ab (p0 :: L0) (p0 :: L0)), .bl (ab (p0 :: L0) (p0 :: L0))])) .no .no) (μ' := μ6) ?_).trans ?_
  · have hc := other_comp (G := G) vL l (.val (.lst BX)) (.val (lotD M)) .no .no .no .no (.val x8) (.val x9) (.val (lotD (p0 :: L0))) (.val (lotD (p0 :: L0))) (.val (.lst [.bl (ab (p0 :: L0) (p0 :: L0)), .bl (ab (p0 :: L0) (p0 :: L0))])) .no .no μ6
    have hl := last_lot (p0 :: L0)
    have hadd : binop .add (lotD (((p0 :: L0).take ((p0 :: L0).length - 1)).map fun p : Str × K3 => (p.1 ++ ("x" : Str), p.2))) (lotD ((p0 :: L0).drop ((p0 :: L0).length - 1))) = some (lotD (other (p0 :: L0))) :=
      add_lot _ _ (by rw [List.length_map, List.length_take, List.length_drop]; have := vL.2.1; omega)
    have ht1 : ∀ K : Lot, blt .tuple1 [.lst (K.map rowD)] = some (lotD K) := fun _ => rfl
    rw [exS, ev, ev, evs, hc]
    simp only [evs, Out.bind_ok]
    rw [ht1]
    generalize lotD (p0 :: L0) = X at *
    generalize lotD M = Y at *
    generalize lotD (other (p0 :: L0)) = Z at *
    generalize lotD (((p0 :: L0).take ((p0 :: L0).length - 1)).map fun p : Str × K3 => (p.1 ++ ("x" : Str), p.2)) = Z1 at *
    generalize lotD ((p0 :: L0).drop ((p0 :: L0).length - 1)) = Z2 at *
    simp [exS, ev, evs, Fl.of, Fl.opt, Out.bind, opt, Env.get, Env.put, bindT, part, hl, hadd]
  generalize hS12 : (Slot.val (.lst [.bl (ab (p0 :: L0) (p0 :: L0)), .bl (ab (p0 :: L0) (p0 :: L0))])) = S12
  -- word, right
  refine (exSs_nx (ρ' := E17 l (.val (.lst BX)) (.val (lotD (p0 :: L0))) (.val (lotD M)) (.val (lotD (other (p0 :: L0)))) .no .no .no (.val x8) (.val x9) (.val (lotD (p0 :: L0))) (.val (lotD (p0 :: L0))) S12 (.val (.str w)) (.val (.tup [lotD (p0 :: L0), .non, .non]))) (μ' := μ7) ?_).trans ?_
  · generalize lotD (p0 :: L0) = X at *
    generalize lotD M = Y at *
    simp [exS, ev, evs, Fl.of, Fl.opt, Out.bind, opt, Env.get, Env.put, putMix, LINE, e7]
  -- facts of the first lot
  have i0 : ∀ μ, idxD (lotD (p0 :: L0)) (.int 0) μ = some (rowD p0) := fun _ => by
    show L2.atI ((p0 :: L0).map rowD) 0 = _
    unfold L2.atI L2.ixN
    simp
  have i00 : ∀ μ, idxD (rowD p0) (.int 0) μ = some (.str p0.1) := fun _ => rfl
  have ls : blt .list1 [lotD (p0 :: L0)] = some (.lst ((p0 :: L0).map rowD)) := rfl
  have dbl := add_lot (p0 :: L0) (p0 :: L0) (by have := vL.2.1; omega)
  have dla := add_lot (p0 :: L0) ((p0 :: L0).drop ((p0 :: L0).length - 1)) (by rw [List.length_drop]; have := vL.2.1; omega)
  have lastL := last_lot (p0 :: L0)
  have restL := rest_lot (p0 :: L0)
  have lenL : lenD (lotD (p0 :: L0)) = some (p0 :: L0).length := by show some ((p0 :: L0).map rowD).length = _; rw [List.length_map]
  have g1 := gt1 (p0 :: L0).length
  have told1 := odd_told ht hw vL nl0
  have told1r := odd_rev ht hw vL
  have told2 := oth_told ht hw vL nl0 hz0
  have told2m := oth_more ht hw vL
  have rv := rev_lot (p0 :: L0)
  have lotX : lotD (p0 :: L0) = .tup ((p0 :: L0).map rowD) := rfl
  unfold oddL at told1
  unfold othL at told2
  obtain ⟨A1, hA1⟩ : ∃ A : List D, A = [.non, .tup [], .str w, .tup [.str w, lotD (p0 :: L0), .non], .tup [.str w, lotD (p0 :: L0), .non, .non, .non], .lst [.str w, lotD (p0 :: L0), .non, .non], .tup [.str "both", lotD (p0 :: L0), .non, .non]] := ⟨_, rfl⟩
  obtain ⟨A2, hA2⟩ : ∃ A : List D, A = [.tup [.non, lotD (p0 :: L0), .non, .non], .tup [.tup [.str w], lotD (p0 :: L0), .non, .non], .tup [.str w, .non, .non, .non], .tup [.str w, .lst ((p0 :: L0).map rowD), .non, .non], .dct []] := ⟨_, rfl⟩
  obtain ⟨A3, hA3⟩ : ∃ A : List D, A = [.tup [.str w, rowD p0, .non, .non], .tup [.str w, .tup [], .non, .non], .tup [.str w, lotD ((p0 :: L0) ++ (p0 :: L0)), .non, .non]] := ⟨_, rfl⟩
  have ad1 : binop .add (.lst A1) (.lst A2) = some (.lst (A1 ++ A2)) := by rw [hA1, hA2]; rfl
  have ad2 : binop .add (.lst (A1 ++ A2)) (.lst A3) = some (.lst (A1 ++ A2 ++ A3)) := by rw [hA1, hA2, hA3]; rfl
  have le1 : (A1 ++ A2 ++ A3).length < LINE := by rw [hA1, hA2, hA3]; simp [LINE]
  have le2 : (A1 ++ A2 ++ A3 ++ [D.tup [lotD (p0 :: L0), .str w, .non, .non]]).length < LINE := by rw [hA1, hA2, hA3]; simp [LINE]
  have r1 : ∀ q, binop .add (.tup [q]) (.tup [lotD (p0 :: L0), .non, .non]) = some (.tup [q, lotD (p0 :: L0), .non, .non]) := fun _ => rfl
  refine (exSs_nx (ρ' := E17 l (.val (.lst BX)) (.val (lotD (p0 :: L0))) (.val (lotD M)) (.val (lotD (other (p0 :: L0)))) (.own A1) .no .no (.val x8) (.val x9) (.val (lotD (p0 :: L0))) (.val (lotD (p0 :: L0))) S12 (.val (.str w)) (.val (.tup [lotD (p0 :: L0), .non, .non]))) (μ' := μ7) ?_).trans ?_
  · clear told1 told1r told2 told2m lotX rv; rw [hA1]; clear ad1 ad2 le1 le2 hA1 hA2 hA3
    generalize lotD M = Y at *
    generalize lotD (other (p0 :: L0)) = Z at *
    generalize lotD ((p0 :: L0) ++ (p0 :: L0)) = W2 at *
    generalize (p0 :: L0).map rowD = RS at *
    generalize lotD (p0 :: L0) = X at *
    simp [exS, exSs, ev, evs, Fl.of, Fl.next, Fl.opt, Out.bind, opt, Env.get, Env.put, bindT, testOf, truthy, part, dict0, LINE, r1]
  refine (exSs_nx (ρ' := E17 l (.val (.lst BX)) (.val (lotD (p0 :: L0))) (.val (lotD M)) (.val (lotD (other (p0 :: L0)))) (.val (.lst A1)) .no .no (.val x8) (.val x9) (.val (lotD (p0 :: L0))) (.val (lotD (p0 :: L0))) S12 (.val (.str w)) (.val (.tup [lotD (p0 :: L0), .non, .non]))) (μ' := μ7) ?_).trans ?_
  · rfl
  refine (exSs_nx (ρ' := E17 l (.val (.lst BX)) (.val (lotD (p0 :: L0))) (.val (lotD M)) (.val (lotD (other (p0 :: L0)))) (.own (A1 ++ A2)) .no .no (.val x8) (.val x9) (.val (lotD (p0 :: L0))) (.val (lotD (p0 :: L0))) S12 (.val (.str w)) (.val (.tup [lotD (p0 :: L0), .non, .non]))) (μ' := μ7) ?_).trans ?_
  · clear told1 told1r told2 told2m lotX rv; have ad1' := ad1; clear ad1 ad2 le1 le2 hA1 hA3; rw [hA2] at ad1'; rw [hA2]
    clear hA2; generalize lotD M = Y at *
    generalize lotD (other (p0 :: L0)) = Z at *
    generalize lotD ((p0 :: L0) ++ (p0 :: L0)) = W2 at *
    generalize (p0 :: L0).map rowD = RS at *
    generalize lotD (p0 :: L0) = X at *
    simp [exS, exSs, ev, evs, Fl.of, Fl.next, Fl.opt, Out.bind, opt, Env.get, Env.put, bindT, testOf, truthy, part, dict0, LINE, r1, ls, ad1']
  refine (exSs_nx (ρ' := E17 l (.val (.lst BX)) (.val (lotD (p0 :: L0))) (.val (lotD M)) (.val (lotD (other (p0 :: L0)))) (.val (.lst (A1 ++ A2))) .no .no (.val x8) (.val x9) (.val (lotD (p0 :: L0))) (.val (lotD (p0 :: L0))) S12 (.val (.str w)) (.val (.tup [lotD (p0 :: L0), .non, .non]))) (μ' := μ7) ?_).trans ?_
  · rfl
  refine (exSs_nx (ρ' := E17 l (.val (.lst BX)) (.val (lotD (p0 :: L0))) (.val (lotD M)) (.val (lotD (other (p0 :: L0)))) (.own (A1 ++ A2 ++ A3)) .no .no (.val x8) (.val x9) (.val (lotD (p0 :: L0))) (.val (lotD (p0 :: L0))) S12 (.val (.str w)) (.val (.tup [lotD (p0 :: L0), .non, .non]))) (μ' := μ7) ?_).trans ?_
  · clear told1 told1r told2 told2m lotX rv; have ad2' := ad2; clear ad1 ad2 le1 le2 hA1 hA2; rw [hA3] at ad2'; rw [hA3]
    clear hA3; generalize A1 ++ A2 = A12 at *; generalize lotD M = Y at *
    generalize lotD (other (p0 :: L0)) = Z at *
    generalize lotD ((p0 :: L0) ++ (p0 :: L0)) = W2 at *
    generalize (p0 :: L0).map rowD = RS at *
    generalize lotD (p0 :: L0) = X at *
    simp [exS, exSs, ev, evs, Fl.of, Fl.next, Fl.opt, Out.bind, opt, Env.get, Env.put, bindT, testOf, truthy, part, dict0, LINE, i0, dbl, ad2']
  refine (exSs_nx (ρ' := E17 l (.val (.lst BX)) (.val (lotD (p0 :: L0))) (.val (lotD M)) (.val (lotD (other (p0 :: L0)))) (.own (A1 ++ A2 ++ A3 ++ [.tup [lotD (p0 :: L0), .str w, .non, .non]])) .no .no (.val x8) (.val x9) (.val (lotD (p0 :: L0))) (.val (lotD (p0 :: L0))) S12 (.val (.str w)) (.val (.tup [lotD (p0 :: L0), .non, .non]))) (μ' := μ7) ?_).trans ?_
  · clear told1 told1r told2 told2m lotX rv; clear ad1 ad2 le2 hA1 hA2 hA3; generalize A1 ++ A2 ++ A3 = A123 at *; generalize lotD M = Y at *
    generalize lotD (other (p0 :: L0)) = Z at *
    generalize lotD ((p0 :: L0) ++ (p0 :: L0)) = W2 at *
    generalize (p0 :: L0).map rowD = RS at *
    generalize lotD (p0 :: L0) = X at *
    unfold LINE at le1; simp [exS, exSs, ev, evs, Fl.of, Fl.next, Fl.opt, Out.bind, opt, Env.get, Env.put, bindT, testOf, truthy, part, dict0, LINE, le1]
  by_cases hl1 : 1 < (p0 :: L0).length
  · rw [decide_eq_true hl1] at g1
    have told1r := told1r hl1
    have told2m := told2m hl1
    refine (exSs_nx (ρ' := E17 l (.val (.lst BX)) (.val (lotD (p0 :: L0))) (.val (lotD M)) (.val (lotD (other (p0 :: L0)))) (.own (A1 ++ A2 ++ A3 ++ [D.tup [lotD (p0 :: L0), .str w, .non, .non]] ++ [D.tup [.str w, .tup ((p0 :: L0).map rowD).reverse, .non, .non]])) .no .no (.val x8) (.val x9) (.val (lotD (p0 :: L0))) (.val (lotD (p0 :: L0))) S12 (.val (.str w)) (.val (.tup [lotD (p0 :: L0), .non, .non]))) (μ' := μ7) ?_).trans ?_
    · have lx := lotX; clear told1 told1r told2 told2m lotX rv hA1 hA2 hA3 ad1 ad2 le1
      simp only [lx] at *
      generalize lotD M = Y at *
      generalize lotD (other (p0 :: L0)) = Z at *
      generalize (p0 :: L0).map rowD = RS at *
      generalize (p0 :: L0).length = n at *
      generalize A1 ++ A2 ++ A3 = A at *
      unfold LINE at le2
      simp at le2
      simp [exS, exSs, ev, evs, Fl.of, Fl.next, Fl.opt, Out.bind, opt, Env.get, Env.put, bindT, testOf, truthy, part, dict0, blt, LINE, lenL, g1, le2]
    refine (exSs_nx (ρ' := E17 l (.val (.lst BX)) (.val (lotD (p0 :: L0))) (.val (lotD M)) (.val (lotD (other (p0 :: L0)))) (.val (.lst (A1 ++ A2 ++ A3 ++ [D.tup [lotD (p0 :: L0), .str w, .non, .non]] ++ [D.tup [.str w, .tup ((p0 :: L0).map rowD).reverse, .non, .non]]))) .no .no (.val x8) (.val x9) (.val (lotD (p0 :: L0))) (.val (lotD (p0 :: L0))) S12 (.val (.str w)) (.val (.tup [lotD (p0 :: L0), .non, .non]))) (μ' := μ7) ?_).trans ?_
    · rfl
    have m0 : ∀ v ∈ A1 ++ A2 ++ A3 ++ [D.tup [lotD (p0 :: L0), .str w, .non, .non]], ∀ μ, G.call "_law_told" [v, lotD (p0 :: L0)] μ = OP μ := by rw [hA1, hA2, hA3]; exact told1
    have m1 : ∀ v ∈ (A1 ++ A2 ++ A3 ++ [D.tup [lotD (p0 :: L0), .str w, .non, .non]] ++ [D.tup [.str w, .tup ((p0 :: L0).map rowD).reverse, .non, .non]]), ∀ μ, G.call "_law_told" [v, lotD (p0 :: L0)] μ = OP μ := fun v hv => by
      rcases List.mem_append.mp hv with hv | hv
      · exact m0 v hv
      · have e : v = D.tup [.str w, .tup ((p0 :: L0).map rowD).reverse, .non, .non] := by simpa using hv
        rw [e, rv]
        exact told1r
    obtain ⟨s6', hloop⟩ := loop1 (G := G) (A1 ++ A2 ++ A3 ++ [D.tup [lotD (p0 :: L0), .str w, .non, .non]] ++ [D.tup [.str w, .tup ((p0 :: L0).map rowD).reverse, .non, .non]]) m1 l (.val (.lst BX)) (.val (lotD M)) (.val (lotD (other (p0 :: L0)))) (.val (.lst (A1 ++ A2 ++ A3 ++ [D.tup [lotD (p0 :: L0), .str w, .non, .non]] ++ [D.tup [.str w, .tup ((p0 :: L0).map rowD).reverse, .non, .non]]))) .no .no (.val x8) (.val x9) (.val (lotD (p0 :: L0))) (.val (lotD (p0 :: L0))) S12 (.val (.str w)) (.val (.tup [lotD (p0 :: L0), .non, .non])) μ7
    refine (exSs_nx (ρ' := E17 l (.val (.lst BX)) (.val (lotD (p0 :: L0))) (.val (lotD M)) (.val (lotD (other (p0 :: L0)))) (.val (.lst (A1 ++ A2 ++ A3 ++ [D.tup [lotD (p0 :: L0), .str w, .non, .non]] ++ [D.tup [.str w, .tup ((p0 :: L0).map rowD).reverse, .non, .non]]))) s6' .no (.val x8) (.val x9) (.val (lotD (p0 :: L0))) (.val (lotD (p0 :: L0))) S12 (.val (.str w)) (.val (.tup [lotD (p0 :: L0), .non, .non]))) (μ' := μ7) ?_).trans ?_
    · have q1 : evs G (.cons (.var 5) .nil) (E17 l (.val (.lst BX)) (.val (lotD (p0 :: L0))) (.val (lotD M)) (.val (lotD (other (p0 :: L0)))) (.val (.lst (A1 ++ A2 ++ A3 ++ [D.tup [lotD (p0 :: L0), .str w, .non, .non]] ++ [D.tup [.str w, .tup ((p0 :: L0).map rowD).reverse, .non, .non]]))) .no .no (.val x8) (.val x9) (.val (lotD (p0 :: L0))) (.val (lotD (p0 :: L0))) S12 (.val (.str w)) (.val (.tup [lotD (p0 :: L0), .non, .non]))) μ7 = .ok [.lst (A1 ++ A2 ++ A3 ++ [D.tup [lotD (p0 :: L0), .str w, .non, .non]] ++ [D.tup [.str w, .tup ((p0 :: L0).map rowD).reverse, .non, .non]])] μ7 := rfl
      rw [exS, q1]
      exact hloop
    generalize (A1 ++ A2 ++ A3 ++ [D.tup [lotD (p0 :: L0), .str w, .non, .non]] ++ [D.tup [.str w, .tup ((p0 :: L0).map rowD).reverse, .non, .non]]) = AA at *
    refine (exSs_nx (ρ' := E17 l (.val (.lst BX)) (.val (lotD (p0 :: L0))) (.val (lotD M)) (.val (lotD (other (p0 :: L0)))) (.val (.lst AA)) s6' (.val (.lst [.non, .tup [], .lst ((p0 :: L0).map rowD), rowD p0, lotD ((p0 :: L0) ++ (p0 :: L0).drop ((p0 :: L0).length - 1)), .str "lot", .dct [], .tup [.tup [.str p0.1, .non]], lotD ((p0 :: L0).drop 1)])) (.val x8) (.val x9) (.val (lotD (p0 :: L0))) (.val (lotD (p0 :: L0))) S12 (.val (.str w)) (.val (.tup [lotD (p0 :: L0), .non, .non]))) (μ' := μ7) ?_).trans ?_
    · clear told1 told1r told2 told2m lotX rv m0 m1 hloop; generalize lotD M = Y at *
      generalize lotD (other (p0 :: L0)) = Z at *
      generalize lotD ((p0 :: L0) ++ (p0 :: L0).drop ((p0 :: L0).length - 1)) = W3 at *
      generalize lotD ((p0 :: L0).drop ((p0 :: L0).length - 1)) = W4 at *
      generalize lotD ((p0 :: L0).drop 1) = W5 at *
      generalize (p0 :: L0).map rowD = RS at *
      generalize lotD (p0 :: L0) = X at *
      simp [exS, exSs, ev, evs, Fl.of, Fl.next, Fl.opt, Out.bind, opt, Env.get, Env.put, bindT, testOf, truthy, part, dict0, LINE, ls, i0, lastL, dla, i00, restL]
    obtain ⟨B1, hB1⟩ : ∃ B : List D, B = [.non, .tup [], .lst ((p0 :: L0).map rowD), rowD p0, lotD ((p0 :: L0) ++ (p0 :: L0).drop ((p0 :: L0).length - 1)), .str "lot", .dct [], .tup [.tup [.str p0.1, .non]], lotD ((p0 :: L0).drop 1)] := ⟨_, rfl⟩
    rw [← hB1] at told2 ⊢
    have ad3 : ∀ a b, binop .add (.lst B1) (.lst [a, b]) = some (.lst (B1 ++ [a, b])) := by rw [hB1]; exact fun _ _ => rfl
    refine (exSs_nx (ρ' := E17 l (.val (.lst BX)) (.val (lotD (p0 :: L0))) (.val (lotD M)) (.val (lotD (other (p0 :: L0)))) (.val (.lst AA)) s6' (.val (.lst (B1 ++ [lotD (other (p0 :: L0)), .tup ((p0 :: L0).map rowD).reverse]))) (.val x8) (.val x9) (.val (lotD (p0 :: L0))) (.val (lotD (p0 :: L0))) S12 (.val (.str w)) (.val (.tup [lotD (p0 :: L0), .non, .non]))) (μ' := μ7) ?_).trans ?_
    · have lx := lotX; clear told1 told1r told2 told2m lotX rv hB1 m0 m1 hloop dbl dla lastL restL ls i0
      simp only [lx] at *
      generalize lotD M = Y at *
      generalize lotD (other (p0 :: L0)) = Z at *
      generalize (p0 :: L0).map rowD = RS at *
      generalize (p0 :: L0).length = n at *
      simp [exS, exSs, ev, evs, Fl.of, Fl.next, Fl.opt, Out.bind, opt, Env.get, Env.put, bindT, testOf, truthy, part, dict0, blt, LINE, lenL, g1, ad3]
    have m2 : ∀ v ∈ (B1 ++ [lotD (other (p0 :: L0)), .tup ((p0 :: L0).map rowD).reverse]), ∀ μ, G.call "_law_told" [.tup [.str w, lotD (p0 :: L0), .non, .non], v] μ = OP μ := fun v hv => by
      rcases List.mem_append.mp hv with hv | hv
      · exact told2 v hv
      · rw [rv] at hv
        exact told2m v hv
    obtain ⟨s6'', hloop2⟩ := loop2 (G := G) (w := w) (B1 ++ [lotD (other (p0 :: L0)), .tup ((p0 :: L0).map rowD).reverse]) m2 l (.val (.lst BX)) (.val (lotD (p0 :: L0))) (.val (lotD M)) (.val (lotD (other (p0 :: L0)))) (.val (.lst AA)) s6' (.val (.lst (B1 ++ [lotD (other (p0 :: L0)), .tup ((p0 :: L0).map rowD).reverse]))) (.val x8) (.val x9) (.val (lotD (p0 :: L0))) (.val (lotD (p0 :: L0))) S12 μ7
    refine (exSs_nx (ρ' := E17 l (.val (.lst BX)) (.val (lotD (p0 :: L0))) (.val (lotD M)) (.val (lotD (other (p0 :: L0)))) (.val (.lst AA)) s6'' (.val (.lst (B1 ++ [lotD (other (p0 :: L0)), .tup ((p0 :: L0).map rowD).reverse]))) (.val x8) (.val x9) (.val (lotD (p0 :: L0))) (.val (lotD (p0 :: L0))) S12 (.val (.str w)) (.val (.tup [lotD (p0 :: L0), .non, .non]))) (μ' := μ7) ?_).trans ?_
    · have q1 : evs G (.cons (.var 7) .nil) (E17 l (.val (.lst BX)) (.val (lotD (p0 :: L0))) (.val (lotD M)) (.val (lotD (other (p0 :: L0)))) (.val (.lst AA)) s6' (.val (.lst (B1 ++ [lotD (other (p0 :: L0)), .tup ((p0 :: L0).map rowD).reverse]))) (.val x8) (.val x9) (.val (lotD (p0 :: L0))) (.val (lotD (p0 :: L0))) S12 (.val (.str w)) (.val (.tup [lotD (p0 :: L0), .non, .non]))) μ7 = .ok [.lst (B1 ++ [lotD (other (p0 :: L0)), .tup ((p0 :: L0).map rowD).reverse])] μ7 := rfl
      rw [exS, q1]
      exact hloop2
    rfl
  · rw [decide_eq_false hl1] at g1
    refine (exSs_nx (ρ' := E17 l (.val (.lst BX)) (.val (lotD (p0 :: L0))) (.val (lotD M)) (.val (lotD (other (p0 :: L0)))) (.own (A1 ++ A2 ++ A3 ++ [D.tup [lotD (p0 :: L0), .str w, .non, .non]])) .no .no (.val x8) (.val x9) (.val (lotD (p0 :: L0))) (.val (lotD (p0 :: L0))) S12 (.val (.str w)) (.val (.tup [lotD (p0 :: L0), .non, .non]))) (μ' := μ7) ?_).trans ?_
    · clear told1 told1r told2 told2m lotX rv hA1 hA2 hA3 ad1 ad2 le1; generalize lotD M = Y at *
      generalize lotD (other (p0 :: L0)) = Z at *
      generalize (p0 :: L0).length = n at *
      generalize lotD (p0 :: L0) = X at *
      generalize A1 ++ A2 ++ A3 = A at *
      simp [exS, exSs, ev, evs, Fl.of, Fl.next, Fl.opt, Out.bind, opt, Env.get, Env.put, bindT, testOf, truthy, part, dict0, blt, LINE, lenL, g1]
    refine (exSs_nx (ρ' := E17 l (.val (.lst BX)) (.val (lotD (p0 :: L0))) (.val (lotD M)) (.val (lotD (other (p0 :: L0)))) (.val (.lst (A1 ++ A2 ++ A3 ++ [D.tup [lotD (p0 :: L0), .str w, .non, .non]]))) .no .no (.val x8) (.val x9) (.val (lotD (p0 :: L0))) (.val (lotD (p0 :: L0))) S12 (.val (.str w)) (.val (.tup [lotD (p0 :: L0), .non, .non]))) (μ' := μ7) ?_).trans ?_
    · rfl
    have m0 : ∀ v ∈ A1 ++ A2 ++ A3 ++ [D.tup [lotD (p0 :: L0), .str w, .non, .non]], ∀ μ, G.call "_law_told" [v, lotD (p0 :: L0)] μ = OP μ := by rw [hA1, hA2, hA3]; exact told1
    have m1 := m0
    obtain ⟨s6', hloop⟩ := loop1 (G := G) (A1 ++ A2 ++ A3 ++ [D.tup [lotD (p0 :: L0), .str w, .non, .non]]) m1 l (.val (.lst BX)) (.val (lotD M)) (.val (lotD (other (p0 :: L0)))) (.val (.lst (A1 ++ A2 ++ A3 ++ [D.tup [lotD (p0 :: L0), .str w, .non, .non]]))) .no .no (.val x8) (.val x9) (.val (lotD (p0 :: L0))) (.val (lotD (p0 :: L0))) S12 (.val (.str w)) (.val (.tup [lotD (p0 :: L0), .non, .non])) μ7
    refine (exSs_nx (ρ' := E17 l (.val (.lst BX)) (.val (lotD (p0 :: L0))) (.val (lotD M)) (.val (lotD (other (p0 :: L0)))) (.val (.lst (A1 ++ A2 ++ A3 ++ [D.tup [lotD (p0 :: L0), .str w, .non, .non]]))) s6' .no (.val x8) (.val x9) (.val (lotD (p0 :: L0))) (.val (lotD (p0 :: L0))) S12 (.val (.str w)) (.val (.tup [lotD (p0 :: L0), .non, .non]))) (μ' := μ7) ?_).trans ?_
    · have q1 : evs G (.cons (.var 5) .nil) (E17 l (.val (.lst BX)) (.val (lotD (p0 :: L0))) (.val (lotD M)) (.val (lotD (other (p0 :: L0)))) (.val (.lst (A1 ++ A2 ++ A3 ++ [D.tup [lotD (p0 :: L0), .str w, .non, .non]]))) .no .no (.val x8) (.val x9) (.val (lotD (p0 :: L0))) (.val (lotD (p0 :: L0))) S12 (.val (.str w)) (.val (.tup [lotD (p0 :: L0), .non, .non]))) μ7 = .ok [.lst (A1 ++ A2 ++ A3 ++ [D.tup [lotD (p0 :: L0), .str w, .non, .non]])] μ7 := rfl
      rw [exS, q1]
      exact hloop
    generalize (A1 ++ A2 ++ A3 ++ [D.tup [lotD (p0 :: L0), .str w, .non, .non]]) = AA at *
    refine (exSs_nx (ρ' := E17 l (.val (.lst BX)) (.val (lotD (p0 :: L0))) (.val (lotD M)) (.val (lotD (other (p0 :: L0)))) (.val (.lst AA)) s6' (.val (.lst [.non, .tup [], .lst ((p0 :: L0).map rowD), rowD p0, lotD ((p0 :: L0) ++ (p0 :: L0).drop ((p0 :: L0).length - 1)), .str "lot", .dct [], .tup [.tup [.str p0.1, .non]], lotD ((p0 :: L0).drop 1)])) (.val x8) (.val x9) (.val (lotD (p0 :: L0))) (.val (lotD (p0 :: L0))) S12 (.val (.str w)) (.val (.tup [lotD (p0 :: L0), .non, .non]))) (μ' := μ7) ?_).trans ?_
    · clear told1 told1r told2 told2m lotX rv m0 m1 hloop; generalize lotD M = Y at *
      generalize lotD (other (p0 :: L0)) = Z at *
      generalize lotD ((p0 :: L0) ++ (p0 :: L0).drop ((p0 :: L0).length - 1)) = W3 at *
      generalize lotD ((p0 :: L0).drop ((p0 :: L0).length - 1)) = W4 at *
      generalize lotD ((p0 :: L0).drop 1) = W5 at *
      generalize (p0 :: L0).map rowD = RS at *
      generalize lotD (p0 :: L0) = X at *
      simp [exS, exSs, ev, evs, Fl.of, Fl.next, Fl.opt, Out.bind, opt, Env.get, Env.put, bindT, testOf, truthy, part, dict0, LINE, ls, i0, lastL, dla, i00, restL]
    obtain ⟨B1, hB1⟩ : ∃ B : List D, B = [.non, .tup [], .lst ((p0 :: L0).map rowD), rowD p0, lotD ((p0 :: L0) ++ (p0 :: L0).drop ((p0 :: L0).length - 1)), .str "lot", .dct [], .tup [.tup [.str p0.1, .non]], lotD ((p0 :: L0).drop 1)] := ⟨_, rfl⟩
    rw [← hB1] at told2 ⊢
    refine (exSs_nx (ρ' := E17 l (.val (.lst BX)) (.val (lotD (p0 :: L0))) (.val (lotD M)) (.val (lotD (other (p0 :: L0)))) (.val (.lst AA)) s6' (.val (.lst B1)) (.val x8) (.val x9) (.val (lotD (p0 :: L0))) (.val (lotD (p0 :: L0))) S12 (.val (.str w)) (.val (.tup [lotD (p0 :: L0), .non, .non]))) (μ' := μ7) ?_).trans ?_
    · clear told1 told1r told2 told2m lotX rv hB1 m0 m1 hloop
      generalize lotD M = Y at *
      generalize lotD (other (p0 :: L0)) = Z at *
      generalize (p0 :: L0).length = n at *
      generalize lotD (p0 :: L0) = X at *
      simp [exS, exSs, ev, evs, Fl.of, Fl.next, Fl.opt, Out.bind, opt, Env.get, Env.put, bindT, testOf, truthy, part, dict0, blt, LINE, lenL, g1]
    have m2 := told2
    obtain ⟨s6'', hloop2⟩ := loop2 (G := G) (w := w) B1 m2 l (.val (.lst BX)) (.val (lotD (p0 :: L0))) (.val (lotD M)) (.val (lotD (other (p0 :: L0)))) (.val (.lst AA)) s6' (.val (.lst B1)) (.val x8) (.val x9) (.val (lotD (p0 :: L0))) (.val (lotD (p0 :: L0))) S12 μ7
    refine (exSs_nx (ρ' := E17 l (.val (.lst BX)) (.val (lotD (p0 :: L0))) (.val (lotD M)) (.val (lotD (other (p0 :: L0)))) (.val (.lst AA)) s6'' (.val (.lst B1)) (.val x8) (.val x9) (.val (lotD (p0 :: L0))) (.val (lotD (p0 :: L0))) S12 (.val (.str w)) (.val (.tup [lotD (p0 :: L0), .non, .non]))) (μ' := μ7) ?_).trans ?_
    · have q1 : evs G (.cons (.var 7) .nil) (E17 l (.val (.lst BX)) (.val (lotD (p0 :: L0))) (.val (lotD M)) (.val (lotD (other (p0 :: L0)))) (.val (.lst AA)) s6' (.val (.lst B1)) (.val x8) (.val x9) (.val (lotD (p0 :: L0))) (.val (lotD (p0 :: L0))) S12 (.val (.str w)) (.val (.tup [lotD (p0 :: L0), .non, .non]))) μ7 = .ok [.lst B1] μ7 := rfl
      rw [exS, q1]
      exact hloop2
    rfl
end Lk77

set_option Elab.async false
set_option linter.all false
set_option maxRecDepth 100000
set_option maxHeartbeats 4000000
namespace Lk77
open PySem (Str)
open LD
def fuel : Nat := 0
abbrev cl (d : Nat) : Str → List D → Store → Out D := callD (tabC cs) (tabF es) 0 d
theorem at_ {f : Str} {b : Fn} (h : tabF es f = some b) (d : Nat) : cl (d + 1) f = runF ⟨tabC cs, cl d⟩ 0 b := by
  funext ds μ
  exact callD_succ h ds μ
theorem g_dice (d : Nat) : DiceOk (cl (d + 1) "_law_dice") := by rw [at_ (b := f__law_dice) (by kernel_rfl)]; exact diceB_ok
theorem g_roll (d : Nat) : RollOk (cl (d + 1) "_law_roll") := by rw [at_ (b := f__law_roll) (by kernel_rfl)]; exact rollB_ok
theorem g_pick (d : Nat) : PickOk (cl (d + 2) "_law_pick") := by rw [at_ (b := f__law_pick) (by kernel_rfl)]; exact pick_ok (g_roll d)
theorem g_name (d : Nat) (x : D) (μ : Store) (h : Ty x) : cl (d + 1) "is_name" [x] μ = .ok (.bl (nm x)) μ := by rw [at_ (b := f_is_name) (by kernel_rfl)]; exact name_ok h μ
theorem g_kind (d : Nat) (x : D) (b : Bool) (μ : Store) (h : isKd x = some b) : cl (d + 1) "is_kind" [x] μ = .ok (.bl b) μ := by rw [at_ (b := f_is_kind) (by kernel_rfl)]; exact is_kind_ok h μ
theorem g_req (d : Nat) (i j k : Fin 3) (μ : Store) : cl (d + 2) "require_kind" [kd i j k] μ = .ok .non μ := by rw [at_ (b := f_require_kind) (by kernel_rfl)]; exact require_ok (fun i j k μ => g_kind d _ true μ (kd_kind3 i j k)) i j k μ
theorem g_loose (d : Nat) (k k' : K3) (μ : Store) : cl (d + 3) "is_as_loose" [kk k, kk k'] μ = .ok (.bl (loK k k')) μ := by rw [at_ (b := f_is_as_loose) (by kernel_rfl)]; exact kloose_ok (g_req d) k k' μ
theorem g_free (d : Nat) (z : Str) (hz : z ∈ NM) (μ : Store) : cl (d + 2) "is_free_name" [.str z] μ = .ok (.bl true) μ := by rw [at_ (b := f_is_free_name) (by kernel_rfl)]; exact free_ok (g_name d) hz μ
theorem g_asc (d : Nat) (zs : List Str) (μ : Store) : cl (d + 1) "are_ascending" [.lst (zs.map D.str)] μ = .ok (.bl (asc zs)) μ := by rw [at_ (b := f_are_ascending) (by kernel_rfl)]; exact asc_ok zs μ
theorem g_lot (d : Nat) (rs : List Row) (h : ∀ r ∈ rs, r.ok) (μ : Store) : cl (d + 3) "is_lot" [.tup (rs.map Row.d)] μ = .ok (.bl (isLot rs)) μ := by rw [at_ (b := f_is_lot) (by kernel_rfl)]; exact lot_rows (g_free d) (g_kind (d + 1)) (g_asc (d + 1)) rs h μ
theorem g_lotn (d : Nat) (x : D) (t : String) (μ : Store) (h : tyN x = some t) (hn : t ≠ "tuple") : cl (d + 3) "is_lot" [x] μ = .ok (.bl false) μ := by rw [at_ (b := f_is_lot) (by kernel_rfl)]; exact lot_non h hn μ
theorem g_boxes (d : Nat) (L : Lot) (μ : Store) : cl (d + 1) "boxes_of" [lotD L] μ = .ok (.lst ((names L).map D.str)) μ := by rw [at_ (b := f_boxes_of) (by kernel_rfl)]; exact boxes_ok L μ
theorem g_above (d : Nat) (L M : Lot) (μ : Store) : cl (d + 4) "is_above" [lotD L, lotD M] μ = .ok (.bl (ab L M)) μ := by rw [at_ (b := f_is_above) (by kernel_rfl)]; exact above_ok (g_loose d) L M μ
theorem g_exin (d : Nat) (L M : Lot) (w : Str) (t p : D) (μ : Store) (hw : Wd2 w) : cl (d + 5) "excludes_in" [.tup [.str w, lotD L, t, p], lotD M] μ = .ok (.bl (if w = "unheard" then ab L M else ab M L)) μ := by rw [at_ (b := f_excludes_in) (by kernel_rfl)]; exact in_ok cU (g_above d) hw μ
theorem g_told (d : Nat) : Told (cl (d + 7) "_law_told") := by
  rw [at_ (b := f__law_told) (by kernel_rfl)]
  have hx : cl (d + 6) "excludes" = runF ⟨tabC cs, cl (d + 5)⟩ 0 f_excludes := at_ (f := "excludes") (b := f_excludes) (by kernel_rfl) (d + 5)
  exact told_all (c := cl (d + 5)) (g_lot (d + 2)) (g_lotn (d + 2)) (g_boxes (d + 4)) (g_exin d) (e := runF ⟨tabC cs, cl (d + 5)⟩ 0 f_excludes) rfl (c' := cl (d + 6)) hx
theorem g_mixed (d : Nat) : MixOk (cl (d + 2) "_law_mixed") := by rw [at_ (b := f__law_mixed) (by kernel_rfl)]; exact mixed_ok (g_roll d)
theorem g_any (d : Nat) : KindOk (cl (d + 3) "_law_any_kind") := by rw [at_ (b := f__law_any_kind) (by kernel_rfl)]; exact any_ok (g_pick d)
theorem g_near (d : Nat) : NearOk (cl (d + 4) "_law_near") := by rw [at_ (b := f__law_near) (by kernel_rfl)]; exact near_ok (g_roll (d + 2)) (g_any d)
theorem g_looser (d : Nat) (k k' : K3) (μ : Store) : cl (d + 1) "_law_is_looser" [kk k, kk k'] μ = .ok (.bl (loK k k')) μ := by rw [at_ (b := f__law_is_looser) (by kernel_rfl)]; exact looser_ok k k' μ
theorem g_labove (d : Nat) {L M : Lot} (he : L.length = M.length) (hz : L.length ≤ 100) (μ : Store) : cl (d + 2) "_law_is_above" [lotD L, lotD M] μ = .ok (.bl (ab L M)) μ := by rw [at_ (b := f__law_is_above) (by kernel_rfl)]; exact lawabove_ok (g_looser d) he hz μ
theorem case_c {C : Str → List D → Store → Out D} (h1 : MixOk (C "_law_mixed")) (h2 : RollOk (C "_law_roll")) (h3 : KindOk (C "_law_any_kind")) (h4 : NearOk (C "_law_near")) (h5 : PickOk (C "_law_pick")) (h6 : Told (C "_law_told"))
    (h7 : ∀ {L M : Lot}, L.length = M.length → L.length ≤ 100 → ∀ μ, C "_law_is_above" [lotD L, lotD M] μ = .ok (.bl (ab L M)) μ) (l : Nat) (μ : Store) (hd : Dice l μ) : ∃ μ', runF ⟨tabC cs, C⟩ 0 f__law_case [.loc l] μ = .ok (.bl true) μ' :=
  case_ok (G := ⟨tabC cs, C⟩) h1 h2 h3 h4 h5 h6 h7 l μ hd
theorem g_case (d : Nat) (l : Nat) (μ : Store) (hd : Dice l μ) : ∃ μ', cl (d + 8) "_law_case" [.loc l] μ = .ok (.bl true) μ' := by
  rw [at_ (b := f__law_case) (by kernel_rfl)]
  have h1 : MixOk (cl (d + 7) "_law_mixed") := g_mixed (d + 5)
  have h2 : RollOk (cl (d + 7) "_law_roll") := g_roll (d + 6)
  have h3 : KindOk (cl (d + 7) "_law_any_kind") := g_any (d + 4)
  have h4 : NearOk (cl (d + 7) "_law_near") := g_near (d + 3)
  have h5 : PickOk (cl (d + 7) "_law_pick") := g_pick (d + 5)
  have h6 : Told (cl (d + 7) "_law_told") := g_told d
  have h7 : ∀ {L M : Lot}, L.length = M.length → L.length ≤ 100 → ∀ μ, cl (d + 7) "_law_is_above" [lotD L, lotD M] μ = .ok (.bl (ab L M)) μ := fun he hz μ => g_labove (d + 5) he hz μ
  exact case_c (C := cl (d + 7)) h1 h2 h3 h4 h5 h6 h7 l μ hd
theorem plain (ns : List Int) : ∃ μ', callD (tabC cs) (tabF es) fuel 60 "law" [.scr ns] [] = .ok (.bl true) μ' := by
  show ∃ μ', cl (59 + 1) "law" [.scr ns] [] = .ok (.bl true) μ'
  rw [at_ (b := f_law) (by kernel_rfl)]
  obtain ⟨μ', e⟩ := law_tailN (f := "_law_case") (G := ⟨tabC cs, cl 59⟩) (fuel := 0) (ns := ns) (lo := 1) (hi := 30) (by decide) (by decide) (by decide) (by decide) (g_dice 58) (g_case 51) []
  exact ⟨μ', runF_ret rfl e⟩
end Lk77
open PySem PySem.W PySem.Calls PyProof.Rows
theorem PySem.Challenge.cw_lentdoors_k77_reasons_exclude_holds : PySem.Challenge.rw_lentdoors_k77_reasons_exclude.Holds := by
  w_on; o_law
  refine HandSHeadRun.head_any (r := OpenLaw.row PySem.Challenge.rw_lentdoors_k77_reasons_exclude) (q := view (OpenLaw.row PySem.Challenge.rw_lentdoors_k77_reasons_exclude).prog [38]) (H := Lk77.hk) (ob := Lk77.ob) (M := 2000) (loose := Lk77.loose) (d := HandSHeadRun.topDef (OpenLaw.row PySem.Challenge.rw_lentdoors_k77_reasons_exclude).prog 38) (kwd := []) Lk77.ob_eq
    (by kernel_rfl) (fun s => by kernel_rfl) Lk77.run (by kernel_rfl) (by kernel_rfl) (by kernel_rfl) (by rfl) (by first | assumption | decide +kernel) (by decide +kernel) ⟨rfl, rfl, rfl, rfl, rfl, by decide +kernel⟩ ?hw ?hc
  case hw => w_witness2
  case hc =>
    refine LD.walk_ofL (l := PySem.Challenge.rw_lentdoors_k77_reasons_exclude) (n := 63) (k := 60) (x := "_law_script") (CX := fun w => L2.CX PySem.Challenge.rw_lentdoors_k77_reasons_exclude.prog w) rfl (by decide) (by kernel_rfl) ⟨rfl, by decide, by decide⟩ ?F (fun w H s e s' z => by
      obtain ⟨_, _, _, _, _, _, _, _, _, _, _, _, z⟩ := z
      exact z)
    intro w mg fa h Y G hmg0
    obtain ⟨K, KX, c⟩ := Y
    have hmg : mg ("law" : PySem.Str) = some (.ref fa) := by
      have e : (HandSHeadRun.topDef (OpenLaw.row PySem.Challenge.rw_lentdoors_k77_reasons_exclude).prog 38).name = ("law" : PySem.Str) := by kernel_rfl
      rw [← e]
      exact hmg0
    obtain ⟨fd, hb, hF⟩ := LD.law_facts (fuel := Lk77.fuel) (d := 59) (e := Lk77.e_law) (x := "_law_script") (P := (PySem.Challenge.rw_lentdoors_k77_reasons_exclude).prog) (w := w) Lk77.es_nd Lk77.es_ok Lk77.es_binds Lk77.es_ps (by simp [Lk77.es]) rfl KX G hmg c
    refine ⟨K, fd, _, KX, hb, fun H a ns hl _ hS => ?_, hF⟩
    obtain ⟨μ', hc⟩ := Lk77.plain ns
    exact LD.law_sp (Nat.le_trans hl (by decide)) hS hc fun _ => rfl

