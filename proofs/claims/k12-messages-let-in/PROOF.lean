import PyProof.Rows.All
import Wide.All
import OpenK.AllK
import Wide.FinOn
import HandS.ForMost
import KE.KeyNested
import KE.SortData
import HandS.ForExc
import HandS.IsInst
import HandS.Style
import KE.KExcInit
import KE.KExcIs
import HandS.ExcInit
import HandS.ExcValue
import HandS.ExcIs
import HandS.ExcField
import HandS.WordsExc
import HandS.Defaults
import HandS.TupAny
import HandS.Strs
import PyProof.Rows.StrMeet
import HandS.DeepEq
import HandS.Wide
import PyProof.StrOps2
import HandS.Flow
import HandS.HeadHook1
import HandS.TryOnly
import HandS.ExcOwn
import HandS.Property
import HandS.CallSlots
import HandS.ExcBuiltin
import HandS.Dict
import HandS.More
import OpenK.KMeth
import KE.KCallOwn
import PyProof.InstSpecial
import HandS.FStr
import HandS.HeadWalk
import HandS.Conv
import HandS.Zip
import KE.KUnpack
import KE.KStateDown
import Lean
import HandS.Ends
import HandS.Words
import HandS.Head0
import HandS.Head1
import HandS.Head2
import HandS.HeadEnd
import HandS.HeadHook2
import HandS.HeadNt
import PySem.Challenge.RW_lentdoors_k12_messages_let_in
set_option Elab.async false
set_option linter.all false
set_option maxRecDepth 100000
/-! LD1: values, syntax, the interpreter of the fragment (no positions, no heap addresses). -/
namespace LD
open PySem
open L2 (ixN atI)

/-- values -/
inductive D where
  | non | bl (b : Bool) | int (i : Int) | str (s : Str)
  | tup (xs : List D) | lst (xs : List D) | dct (kvs : List (D × D))
  | ins (c : Str) (fs : List (Str × D))
  | loc (l : Nat) | ty (n : String) | glob (x : Str) | scr (ns : List Int)
/-- where the module's names stand; the world -/
structure GA where
  f : Str → Addr
  w : World
instance : CoeFun GA fun _ => Str → Addr := ⟨GA.f⟩
/-- what stands in the store: objects that are shared and change: lists, dicts by ints and texts, dicts by tuples, instances -/
inductive SO where
  | lst (xs : List D) | dct (kvs : List (D × D)) | dcn (kvs : List (D × D)) | obj (c : Str) (fs : List (Str × D)) | lk (kvs : List (D × D)) (ep : Nat)
abbrev Store := List SO
inductive Out (α : Type) where
  | ok (a : α) (μ : Store) | exc (c : D) (fs : List (Str × D)) (μ : Store) | bad
def Out.bind {α β : Type} (o : Out α) (f : α → Store → Out β) : Out β := match o with
  | .ok a μ => f a μ
  | .exc c fs μ => .exc c fs μ
  | .bad => .bad
@[simp] theorem Out.bind_ok {α β : Type} (a : α) (μ : Store) (f : α → Store → Out β) : (Out.ok a μ).bind f = f a μ := rfl
@[simp] theorem Out.bind_exc {α β : Type} (c : D) (fs : List (Str × D)) (μ : Store) (f : α → Store → Out β) : (Out.exc c fs μ : Out α).bind f = .exc c fs μ := rfl
@[simp] theorem Out.bind_bad {α β : Type} (f : α → Store → Out β) : (Out.bad : Out α).bind f = .bad := rfl
def opt (o : Option D) (μ : Store) : Out D := match o with
  | some d => .ok d μ
  | none => .bad
@[simp] theorem opt_some (d : D) (μ : Store) : opt (some d) μ = .ok d μ := rfl
@[simp] theorem opt_none (μ : Store) : opt none μ = .bad := rfl

inductive BOp where | add | sub | mul | fdiv | mod | pow
inductive COp where | eq | ne | lt | le | gt | ge | is_ | isnot | in_ | notin
inductive Blt where | len | abs | max2 | min2 | int1 | list1 | tuple1 | isinst | all1 | any1 | sorted1
inductive Mth where | join | tindex | lindex
/-- targets: a name's slot; a tuple of names -/
inductive Tg where | name (i : Nat) | tup (is : List Nat)
/-- which bounds a slice has -/
inductive SK where | all | lo | hi | both
/-- what is walked: a value; range(b); range(a, b) -/
inductive IK where | val | rng1 | rng2 | zip
  deriving DecidableEq

/-- an exception class: of the program, built-in -/
inductive XT where | own (c : Str) | blt (n : String)
  deriving DecidableEq
/-- a parameter's default -/
inductive Dfl where | non | bl (b : Bool) | int (i : Int)
  deriving DecidableEq
def Dfl.d : Dfl → D
  | .non => .non
  | .bl b => .bl b
  | .int i => .int i
/-- what the checker may use: the defs with their numbers of parameters (1000: an exception class without own __init__); exception classes with own __init__, their field; whether an instance of a class is one of another -/
structure Tb where
  fn : List (Str × Nat)
  xm : List (Str × Str)
  xi : List (Str × XT × Bool)
  /-- all functions -/
  al : List (Str × Nat) := []
  /-- methods: class, name, the function, its parameters -/
  mt : List (Str × Str × Str × Nat) := []
  /-- properties: class, name, the function -/
  pr : List (Str × Str × Str) := []
  /-- classes that are made: class, its __init__, its parameters, keyword-only defaults -/
  nw : List (Str × Str × Nat × List Dfl) := []
  /-- attributes of instances -/
  fl : List (Str × Str) := []
instance : Membership (Str × Nat) Tb := ⟨fun T p => p ∈ T.fn⟩
instance {p : Str × Nat} {T : Tb} : Decidable (p ∈ T) := inferInstanceAs (Decidable (p ∈ T.fn))
mutual
inductive Ex where
  | con (d : D) | var (i : Nat) | glob (x : Str)
  | bin (op : BOp) (a b : Ex) | neg (a : Ex)
  | cmp (op : COp) (a b : Ex) | chain (op op' : COp) (a b c : Ex)
  | and_ (a b : Ex) | or_ (a b : Ex) | not_ (a : Ex) | ite (c a b : Ex)
  | tup (es : Exs) | lst (es : Exs) | newl (es : Exs)
  | idx (a b : Ex) | slice (k : SK) (a : Ex) (es : Exs) | dict (es : Exs)
  | bidx (i : Nat) (b : Ex) | rev (a : Ex) | popl (o k : Ex) | llen (a : Ex) | newc (a : Ex) | newd (es : Exs) | dsort (o : Ex) | dget (o k : Ex) | din (neg : Bool) (k o : Ex)
  | newn | attr (o : Ex) (f : Str) (cs : List Str) | mcall (c m f : Str) (o : Ex) (es : Exs) | prop (c m f : Str) (o : Ex) | new (c f : Str) (es : Exs) (ds : List Dfl)
  | olen (c f : Str) (o : Ex) | oin (c f : Str) (neg : Bool) (k o : Ex) | ostr (c f : Str) (o : Ex) | fstr (es : Exs) | lin (neg : Bool) (k o : Ex) | lsort (o : Ex) | never
  | mkx (c : Str) (f : Option Str) (e : Ex) | isx (e : Ex) (t : XT) (yes no : List Str) | fldx (e : Ex) (f : Str) (cs : List Str)
  | call (f : Str) (es : Exs) | blt (f : Blt) (es : Exs) | meth (m : Mth) (o : Ex) (es : Exs)
  | comp (elt : Ex) (t : Tg) (k : IK) (its : Exs) (cond : Option Ex)
  | comps (elt : Ex) (t : Tg) (o : Ex) (cond : Option Ex)
inductive Exs where
  | nil | cons (e : Ex) (es : Exs)
end

mutual
inductive Sm where
  | expr (e : Ex) | asg (t : Tg) (e : Ex) | own (i : Nat) (e : Ex) | app (i : Nat) (e : Ex) | seti (i : Nat) (k e : Ex) | setl (o k e : Ex) | setd (o k e : Ex) | appl (o e : Ex) | setf (o : Ex) (f : Str) (cs : List Str) (e : Ex) | unl (is : List Nat) (e : Ex) | forl (t : Tg) (o : Ex) (body : Sms) | setd2 (o1 k1 o2 k2 e1 e2 : Ex)
  | par (is : List (Nat × Bool)) (es : Exs)
  | ret (e : Ex) | retn | ite (c : Ex) (a b : Sms) | for_ (t : Tg) (k : IK) (its : Exs) (body : Sms) | while_ (c : Ex) (body : Sms)
  | raise_ (c : Str) (es : Exs) | rais (c : Str) | try_ (body : Sms) (c : Str) (z : Str) | brk | cont | pass | fre (i : Nat)
inductive Sms where
  | nil | cons (s : Sm) (ss : Sms)
end

structure Fn where
  ps : Nat
  n : Nat
  body : Sms

/-! ### operations on values -/
def LINE : Nat := 16777216
def small (i : Int) : Bool := decide (-(2 ^ 64) < i ∧ i < 2 ^ 64)
def powOk (i j : Int) : Bool := decide (1 ≤ j ∧ 2 ≤ i ∧ ((i.natAbs.log2 + 1 : Nat) : Int) * j ≤ 1000000)
def repOk (n : Nat) (k : Int) : Bool := decide (-(2 ^ 62) ≤ k ∧ k < 2 ^ 62 ∧ n * k.toNat ≤ LINE)
def repS (n : Nat) (s : Str) : Str := ⟨(List.replicate n s.cps).foldl (· ++ ·) #[]⟩
def binop : BOp → D → D → Option D
  | .add, .int i, .int j => some (.int (i + j))
  | .add, .str a, .str b => if a.length + b.length ≤ LINE then some (.str (a ++ b)) else none
  | .add, .lst a, .lst b => if a.length + b.length ≤ LINE then some (.lst (a ++ b)) else none
  | .add, .tup a, .tup b => if a.length + b.length ≤ LINE then some (.tup (a ++ b)) else none
  | .sub, .int i, .int j => some (.int (i - j))
  | .mul, .int i, .int j => if small i || small j then some (.int (i * j)) else none
  | .mul, .lst xs, .int k => if repOk xs.length k then some (.lst (List.replicate k.toNat xs).flatten) else none
  | .mul, .str s, .int k => if repOk s.length k && decide (1 < k) && decide (0 < s.length) then some (.str (repS k.toNat s)) else none
  | .fdiv, .int i, .int j => if j ≠ 0 ∧ j.natAbs < 1073741824 ∨ (0 < j ∧ j.natAbs < 2 ^ 64) then some (.int (i.fdiv j)) else none
  | .mod, .int i, .int j => if j ≠ 0 then some (.int (i.fmod j)) else none
  | .pow, .int i, .int j => if powOk i j then some (.int (i ^ j.toNat)) else none
  | _, _, _ => none
mutual
def toP : D → Option PyData
  | .non => some .none
  | .bl b => some (.bool b)
  | .int i => some (.int i)
  | .str s => some (.str s)
  | .tup xs => (toPs xs).map .tuple
  | .lst xs => (toPs xs).map .list
  | _ => none
def toPs : List D → Option (List PyData)
  | [] => some []
  | x :: xs => match toP x, toPs xs with
    | some p, some ps => some (p :: ps)
    | _, _ => none
end
/-- == of data without dicts -/
def eqD (a b : D) : Option Bool := match toP a, toP b with
  | some p, some q => if SeqAt.shaped p && SeqAt.shaped q then some (PyData.eqv p q) else none
  | _, _ => none
/-- == of elements: data without dicts; a dict and a text -/
def eqE : D → D → Option Bool
  | .dct _, .str _ => some false
  | a, b => match toP a, toP b with
    | some p, some q => if SeqAt.shaped p && SeqAt.shaped q && decide (p.depth ≤ 63) then some (PyData.eqv p q) else none
    | _, _ => none
def zipE : List D → List D → Option Bool
  | [], [] => some true
  | x :: xs, y :: ys => match eqE x y, zipE xs ys with
    | some b, some r => some (b && r)
    | _, _ => none
  | _, _ => some false
/-- != where a dict is in sight -/
def neX : D → D → Option Bool
  | .dct _, .tup _ => some true
  | .tup xs, .tup ys => (zipE xs ys).map (!·)
  | _, _ => none
def neD (a b : D) : Option Bool := match eqD a b with
  | some k => some (!k)
  | none => neX a b
/-- the same objects of the store -/
def sameLocs : List D → List D → Bool
  | [], [] => true
  | .loc a :: xs, .loc b :: ys => a == b && sameLocs xs ys
  | _, _ => false
def eqX (a b : D) : Option Bool := match eqD a b with
  | some k => some k
  | none => (match a, b with
    | .lst xs, .lst ys => if sameLocs xs ys then some true else none
    | _, _ => none)
def flat : D → Bool
  | .non => true
  | .bl _ => true
  | .int _ => true
  | .str _ => true
  | _ => false
def eqF : D → D → Bool
  | .non, .non => true
  | .bl a, .bl b => a == b
  | .bl a, .int b => (if a then 1 else 0) == b
  | .int a, .bl b => a == (if b then 1 else 0)
  | .int a, .int b => a == b
  | .str a, .str b => a == b
  | _, _ => false
/-- x in xs, of data without dicts -/
def inData (x : D) (xs : List D) : Option Bool := match toP x, toPs xs with
  | some p, some qs => if SeqAt.shaped p && decide (p.depth ≤ 63) && PyData.canLayAll0 qs then some (qs.any fun y => PyData.eqv y p) else none
  | _, _ => none
def inSeq (x : D) (xs : List D) : Option Bool := if flat x && xs.all flat then some (xs.any fun y => eqF y x) else inData x xs
def strIn (a b : Str) : Option Bool := match a.cps.toList with
  | [c] => some (decide (c ∈ b.cps.toList))
  | _ => none
def isNon : D → Bool
  | .non => true
  | _ => false
def cmpop : COp → D → D → Option Bool
  | .eq, a, b => eqX a b
  | .ne, a, b => neD a b
  | .lt, .int i, .int j => some (decide (i < j))
  | .le, .int i, .int j => some (decide (i ≤ j))
  | .gt, .int i, .int j => some (decide (j < i))
  | .ge, .int i, .int j => some (decide (j ≤ i))
  | .lt, .str x, .str y => some (decide (x.cps.toList < y.cps.toList))
  | .is_, .bl a, .bl b => some (decide (a = b))
  | .isnot, .bl a, .bl b => some (!decide (a = b))
  | .is_, a, .non => some (isNon a)
  | .isnot, a, .non => some (!isNon a)
  | .in_, x, .tup ys => inSeq x ys
  | .in_, x, .lst ys => inSeq x ys
  | .notin, x, .tup ys => (inSeq x ys).map (!·)
  | .notin, x, .lst ys => (inSeq x ys).map (!·)
  | .in_, .str x, .str y => strIn x y
  | .notin, .str x, .str y => (strIn x y).map (!·)
  | _, _, _ => none
def truthy : D → Option Bool
  | .non => some false
  | .bl b => some b
  | .int i => some (i != 0)
  | .str s => some (s.length != 0)
  | .tup xs => some (!xs.isEmpty)
  | .lst xs => some (!xs.isEmpty)
  | _ => none
def lenD : D → Option Nat
  | .str s => some s.length
  | .tup xs => some xs.length
  | .lst xs => some xs.length
  | .scr ns => some ns.length
  | _ => none
def idxD : D → D → Store → Option D
  | .tup xs, .int i, _ => atI xs i
  | .lst xs, .int i, _ => atI xs i
  | .scr ns, .int i, _ => (atI ns i).map .int
  | .str s, .int i, _ => (atI s.cps.toList i).map fun c => .str ⟨#[c]⟩
  | .loc l, .int i, μ => match μ[l]? with
    | some (.lst xs) => atI xs i
    | _ => none
  | _, _, _ => none
def tyN : D → Option String
  | .non => some "NoneType"
  | .bl _ => some "bool"
  | .int _ => some "int"
  | .str _ => some "str"
  | .tup _ => some "tuple"
  | .lst _ => some "list"
  | .dct _ => some "dict"
  | _ => none
def isB (t T : String) : Option Bool :=
  if T = "int" then some (t = "int" || t = "bool") else if T = "bool" then some (t = "bool") else if T = "str" then some (t = "str") else if T = "tuple" then some (t = "tuple")
  else if T = "list" then some (t = "list") else if T = "dict" then some (t = "dict") else none
def bools : List D → Option (List Bool)
  | [] => some []
  | .bl b :: r => (bools r).map (b :: ·)
  | _ => none
/-! ### sorted texts -/
def insS (x : Str) : List Str → List Str
  | [] => [x]
  | y :: ys => if decide (y.cps.toList < x.cps.toList) then y :: insS x ys else x :: y :: ys
def sortS : List Str → List Str
  | [] => []
  | x :: xs => insS x (sortS xs)
def strsD : List D → Option (List Str)
  | [] => some []
  | .str s :: r => (strsD r).map (s :: ·)
  | _ => none
def blt : Blt → List D → Option D
  | .len, [x] => (lenD x).map fun n : Nat => D.int (n : Int)
  | .abs, [.int i] => some (.int (if i < 0 then -i else i))
  | .max2, [.int i, .int j] => some (.int (if j > i then j else i))
  | .min2, [.int i, .int j] => some (.int (if j < i then j else i))
  | .int1, [.int i] => some (.int i)
  | .int1, [.bl b] => some (.int (if b then 1 else 0))
  | .list1, [.tup xs] => some (.lst xs)
  | .list1, [.lst xs] => some (.lst xs)
  | .list1, [.str s] => some (.lst (s.cps.toList.map fun c => .str ⟨#[c]⟩))
  | .tuple1, [.tup xs] => some (.tup xs)
  | .tuple1, [.lst xs] => some (.tup xs)
  | .isinst, [x, .ty T] => match tyN x with
    | some t => (isB t T).map .bl
    | none => none
  | .all1, [.lst xs] => (bools xs).map fun bs => .bl (bs.all id)
  | .any1, [.lst xs] => (bools xs).map fun bs => .bl (bs.any id)
  | .sorted1, [.lst xs] => match strsD xs with
    | some ys => if ys.length < 64 then some (.lst ((sortS ys).map D.str)) else none
    | none => none
  | _, _ => none
def index (y : D) : List D → Nat → Option Nat
  | [], _ => none
  | x :: xs, n => if eqF x y then some n else index y xs (n + 1)
def meth : Mth → D → List D → Option D
  | .join, .str a, [.lst xs] => match strsD xs with
    | some ys => if (ys.map (·.length)).sum + ys.length * a.length ≤ LINE then some (.str (Str.join a ys)) else none
    | none => none
  | .tindex, .tup xs, [y] => if flat y && xs.all flat then (index y xs 0).map fun n : Nat => D.int (n : Int) else none
  | .lindex, .lst xs, [y] => if flat y && xs.all flat then (index y xs 0).map fun n : Nat => D.int (n : Int) else none
  | _, _, _ => none
def mthOk : Mth → D → Bool
  | .join, .str _ => true
  | .tindex, .tup _ => true
  | .lindex, .lst _ => true
  | _, _ => false
def rangeL (lo hi : Int) : List D := (List.range (hi - lo).toNat).map fun i => .int (lo + (i : Nat))
def zipD (xs ys : List D) : List D := (xs.zip ys).map fun p => .tup [p.1, p.2]
def iterD : IK → List D → Option (List D)
  | .zip, [.tup xs, .tup ys] => some (zipD xs ys)
  | .zip, [.lst xs, .lst ys] => some (zipD xs ys)
  | .val, [.tup xs] => some xs
  | .val, [.lst xs] => some xs
  | .val, [.str s] => some (s.cps.toList.map fun c => .str ⟨#[c]⟩)
  | .rng1, [.int j] => if -(2 ^ 62) ≤ j ∧ j < LINE then some (rangeL 0 j) else none
  | .rng2, [.int i, .int j] => if -(2 ^ 62) ≤ i ∧ i < 2 ^ 62 ∧ -(2 ^ 62) ≤ j ∧ j < 2 ^ 62 ∧ j - i ≤ LINE then some (rangeL i j) else none
  | _, _ => none
def part : SK → List D → Option (Option Int × Option Int)
  | .all, [] => some (none, none)
  | .lo, [.int i] => some (some i, none)
  | .hi, [.int j] => some (none, some j)
  | .both, [.int i, .int j] => some (some i, some j)
  | _, _ => none
def cutD {α : Type} (xs : List α) (lo hi : Option Int) : List α := (xs.drop (HT.sIx xs.length 0 lo)).take (HT.sIx xs.length xs.length hi - HT.sIx xs.length 0 lo)
def sliceD : D → Option Int × Option Int → Option D
  | .str z, (lo, hi) => some (.str (L2.cutS z lo hi))
  | .tup xs, (lo, hi) => some (.tup (cutD xs lo hi))
  | .lst xs, (lo, hi) => some (.lst (cutD xs lo hi))
  | _, _ => none
def keyD : D → Option L2.Key
  | .int i => some (.inl i)
  | .str s => some (.inr s)
  | _ => none
def pairD : List D → Option (List (D × D))
  | [] => some []
  | [_] => none
  | k :: v :: r => (pairD r).map ((k, v) :: ·)
def keysOk (kvs : List (D × D)) : Bool := decide (kvs.length ≤ 15) && kvs.all (fun p => (keyD p.1).isSome) && decide ((kvs.map fun p => keyD p.1).Nodup)
def dictD (ds : List D) : Option (List (D × D)) := match pairD ds with
  | some kvs => if keysOk kvs then some kvs else none
  | none => none

/-- a dict's item, a dict's store -/
def lookD (kvs : List (D × D)) (y : D) : Option D := match keyD y with
  | some q => (kvs.find? fun p => decide (keyD p.1 = some q)).map (·.2)
  | none => none
def hasD (kvs : List (D × D)) (q : L2.Key) : Bool := kvs.any fun p => decide (keyD p.1 = some q)
def putD (kvs : List (D × D)) (y d : D) : Option (List (D × D)) := match keyD y with
  | some q => if kvs.length < LINE then (if hasD kvs q then some (kvs.map fun p => if keyD p.1 = some q then (p.1, d) else p) else some (kvs ++ [(y, d)])) else none
  | none => none
/-! ### dicts with tuple keys -/
mutual
def nkD : D → Option NestedKey
  | .non => some .none
  | .bl b => some (.num (if b = true then 1 else 0))
  | .int i => some (.num i)
  | .str s => some (.text s)
  | .tup xs => (nkDs xs).map .tup
  | _ => none
def nkDs : List D → Option (List NestedKey)
  | [] => some []
  | x :: xs => match nkD x, nkDs xs with
    | some k, some ks => some (k :: ks)
    | _, _ => none
end
/-- a tuple that is a key -/
def nkT : D → Option NestedKey
  | .tup xs => match nkDs xs with
    | some ks => if (NestedKey.tup ks).depth ≤ 8 then some (.tup ks) else none
    | none => none
  | _ => none
def lookN (kvs : List (D × D)) (y : D) : Option D := match nkT y with
  | some q => (kvs.find? fun p => decide (nkT p.1 = some q)).map (·.2)
  | none => none
def hasN (kvs : List (D × D)) (q : NestedKey) : Bool := kvs.any fun p => decide (nkT p.1 = some q)
def putN (kvs : List (D × D)) (y d : D) : Option (List (D × D)) := match nkT y with
  | some q => if kvs.length < LINE then (if hasN kvs q then some (kvs.map fun p => if nkT p.1 = some q then (p.1, d) else p) else some (kvs ++ [(y, d)])) else none
  | none => none
/-! ### data, sorted -/
def encD (d : D) : PyData := (toP d).getD .none
def sortOk (ps : List PyData) : Bool := (ps.all fun p => ps.all fun q => PySem.W.alike p q) && (ps.all fun p => decide (p.depth ≤ 40)) && ((ps.all fun p => match p with
  | .tuple (_ :: _) => true
  | _ => false) || ps.all fun p => match p with
  | .none => false
  | .tuple _ => false
  | _ => true)
def sortT (xs : List D) : Option (List D) := match toPs xs with
  | some ps => if sortOk ps then some (xs.mergeSort (PySem.W.dataLe false encD)) else none
  | none => none
/-! ### attributes, f-strings -/
def putFd (f : Str) (d : D) : List (Str × D) → List (Str × D)
  | [] => [(f, d)]
  | (g, x) :: r => if g = f then (g, d) :: r else (g, x) :: putFd f d r
def fmtD : D → Option Str
  | .str s => some s
  | .int i => if i.natAbs.log2 < 1920 then some (toString i : Str) else none
  | _ => none
def joinF : Str → List D → Option Str
  | acc, [] => some acc
  | acc, d :: ds => match fmtD d with
    | some s => if (acc ++ s).length ≤ LINE then joinF (acc ++ s) ds else none
    | none => none
def noX {α : Type} (o : Out α) : Out α := match o with
  | .ok d μ => .ok d μ
  | _ => .bad
def lenI (o : Out D) : Out D := match o with
  | .ok (.int n) μ => if 0 ≤ n ∧ n < 2 ^ 62 then .ok (.int n) μ else .bad
  | _ => .bad
def inB (neg : Bool) (o : Out D) : Out D := match o with
  | .ok (.bl b) μ => .ok (.bl (if neg then !b else b)) μ
  | _ => .bad
def strO (o : Out D) : Out D := match o with
  | .ok (.str s) μ => .ok (.str s) μ
  | _ => .bad
/-- what a walk over a store object meets -/
def itemsS (μ : Store) (x : D) : Option (List D) := match x with
  | .loc l => (match μ[l]? with
    | some (.lst xs) => some xs
    | some (.dcn kvs) => some (kvs.map (·.1))
    | _ => none)
  | _ => none
/-- a store object's class -/
def isObj (μ : Store) (x : D) (c : Str) : Bool := match x with
  | .loc l => (match μ[l]? with
    | some (.obj c' _) => decide (c' = c)
    | _ => false)
  | _ => false
def objFs (μ : Store) (x : D) (c : Str) : Option (List (Str × D)) := match x with
  | .loc l => (match μ[l]? with
    | some (.obj c' fs) => if c' = c then some fs else none
    | _ => none)
  | _ => none
/-- list.pop(j): the place -/
def popIx (n : Nat) (j : Int) : Option Nat := if 0 ≤ j ∧ j < n ∧ j < 2 ^ 62 then some j.toNat else none
def popD (l : Nat) (y : D) (μ : Store) : Out D := match y with
  | .int j => (match μ[l]? with
    | some (.lst xs) => (match popIx xs.length j with
      | some n => (match xs[n]? with
        | some d => .ok d (μ.set l (.lst (xs.eraseIdx n)))
        | none => .bad)
      | none => .bad)
    | _ => .bad)
  | _ => .bad
/-! ### the environment -/
inductive Slot where
  | no | val (d : D) | own (xs : List D)
abbrev Env := List Slot
def Env.get (ρ : Env) (i : Nat) : Option D := match ρ[i]? with
  | some (.val d) => some d
  | _ => none
def Env.put (ρ : Env) (i : Nat) (d : D) : Option Env := if i < ρ.length then some (ρ.set i (.val d)) else none
def putAll : Env → List Nat → List D → Option Env
  | ρ, [], [] => some ρ
  | ρ, i :: is, d :: ds => (ρ.put i d).bind fun ρ' => putAll ρ' is ds
  | _, _, _ => none
def bindT (ρ : Env) : Tg → D → Option Env
  | .name i, d => ρ.put i d
  | .tup is, .tup ds => putAll ρ is ds
  | .tup _, _ => none

/-- names stored together; true: the value is a new list that the name owns -/
def putMix : Env → List (Nat × Bool) → List D → Option Env
  | ρ, [], [] => some ρ
  | ρ, (i, false) :: is, d :: ds => (ρ.put i d).bind fun ρ' => putMix ρ' is ds
  | ρ, (i, true) :: is, .lst xs :: ds => if i < ρ.length then putMix (ρ.set i (.own xs)) is ds else none
  | _, _, _ => none
def Tg.slots : Tg → List Nat
  | .name i => [i]
  | .tup is => is
/-- the slots of a comprehension's own names, emptied -/
def wipeE (ρ : Env) : List Nat → Env
  | [] => ρ
  | i :: is => (wipeE ρ is).set i .no
/-- the global table: the module's constants (and names of types), its functions -/
structure GT where
  con : Str → Option D
  call : Str → List D → Store → Out D

/-- a comprehension's loop: f one turn -/
def compLoop (f : D → Store → Out (Option D)) : List D → List D → Store → Out (List D)
  | [], acc, μ => .ok acc μ
  | x :: xs, acc, μ => match f x μ with
    | .ok (some y) μ' => compLoop f xs (acc ++ [y]) μ'
    | .ok none μ' => compLoop f xs acc μ'
    | _ => .bad
def testOf (o : Out D) : Out Bool := o.bind fun d μ => match truthy d with
  | some b => .ok b μ
  | none => .bad

mutual
def ev (G : GT) : Ex → Env → Store → Out D
  | .con d, _, μ => .ok d μ
  | .var i, ρ, μ => opt (ρ.get i) μ
  | .glob x, _, μ => opt (G.con x) μ
  | .bin op a b, ρ, μ => (ev G a ρ μ).bind fun x μ => (ev G b ρ μ).bind fun y μ => opt (binop op x y) μ
  | .neg a, ρ, μ => (ev G a ρ μ).bind fun x μ => match x with
    | .int i => .ok (.int (-i)) μ
    | _ => .bad
  | .cmp op a b, ρ, μ => (ev G a ρ μ).bind fun x μ => (ev G b ρ μ).bind fun y μ => opt ((cmpop op x y).map .bl) μ
  | .chain op op' a b c, ρ, μ => (ev G a ρ μ).bind fun x μ => (ev G b ρ μ).bind fun y μ => match cmpop op x y with
    | some true => (ev G c ρ μ).bind fun z μ => opt ((cmpop op' y z).map .bl) μ
    | some false => .ok (.bl false) μ
    | none => .bad
  | .and_ a b, ρ, μ => (ev G a ρ μ).bind fun x μ => match truthy x with
    | some true => ev G b ρ μ
    | some false => .ok x μ
    | none => .bad
  | .or_ a b, ρ, μ => (ev G a ρ μ).bind fun x μ => match truthy x with
    | some true => .ok x μ
    | some false => ev G b ρ μ
    | none => .bad
  | .not_ a, ρ, μ => (ev G a ρ μ).bind fun x μ => opt ((truthy x).map fun b => .bl (!b)) μ
  | .ite c a b, ρ, μ => (ev G c ρ μ).bind fun x μ => match truthy x with
    | some true => ev G a ρ μ
    | some false => ev G b ρ μ
    | none => .bad
  | .tup es, ρ, μ => (evs G es ρ μ).bind fun ds μ => if ds.length ≤ LINE then .ok (.tup ds) μ else .bad
  | .lst es, ρ, μ => (evs G es ρ μ).bind fun ds μ => if ds.length ≤ LINE then .ok (.lst ds) μ else .bad
  | .newl es, ρ, μ => (evs G es ρ μ).bind fun ds μ => if ds.length ≤ LINE then .ok (.loc μ.length) (μ ++ [.lst ds]) else .bad
  | .idx a b, ρ, μ => (ev G a ρ μ).bind fun x μ => (ev G b ρ μ).bind fun y μ => opt (idxD x y μ) μ
  | .slice k a es, ρ, μ => (ev G a ρ μ).bind fun x μ => match evs G es ρ μ with
    | .ok ds μ => (match part k ds with
      | some p => opt (sliceD x p) μ
      | none => .bad)
    | _ => .bad
  | .dict es, ρ, μ => (evs G es ρ μ).bind fun ds μ => match dictD ds with
    | some kvs => .ok (.dct kvs) μ
    | none => .bad
  | .bidx i b, ρ, μ => match ρ[i]? with
    | some (.own xs) => (ev G b ρ μ).bind fun y μ => match y with
      | .int k => opt (atI xs k) μ
      | _ => .bad
    | _ => .bad
  | .rev a, ρ, μ => (ev G a ρ μ).bind fun x μ => match x with
    | .tup xs => .ok (.tup xs.reverse) μ
    | .lst xs => .ok (.lst xs.reverse) μ
    | _ => .bad
  | .newn, _, μ => .ok (.loc μ.length) (μ ++ [.dcn []])
  | .attr o f cs, ρ, μ => (ev G o ρ μ).bind fun x μ => match x with
    | .loc l => (match μ[l]? with
      | some (.obj c fs) => if c ∈ cs then opt (fs.lookup f) μ else .bad
      | _ => .bad)
    | _ => .bad
  | .mcall c m f o es, ρ, μ => (ev G o ρ μ).bind fun x μ => match objFs μ x c with
    | some fs => if fs.lookup m = none then (evs G es ρ μ).bind fun ds μ => G.call f (x :: ds) μ else .bad
    | none => .bad
  | .prop c _ f o, ρ, μ => (ev G o ρ μ).bind fun x μ => if isObj μ x c then noX (G.call f [x] μ) else .bad
  | .new c f es ds, ρ, μ => (evs G es ρ μ).bind fun vs μ => (G.call f (.loc μ.length :: (vs ++ ds.map Dfl.d)) (μ ++ [.obj c []])).bind fun r μ' => if isNon r then .ok (.loc μ.length) μ' else .bad
  | .olen c f o, ρ, μ => (ev G o ρ μ).bind fun x μ => if isObj μ x c then lenI (G.call f [x] μ) else .bad
  | .oin c f neg k o, ρ, μ => (ev G k ρ μ).bind fun y μ => (ev G o ρ μ).bind fun x μ => if isObj μ x c then inB neg (G.call f [x, y] μ) else .bad
  | .ostr c f o, ρ, μ => (ev G o ρ μ).bind fun x μ => if isObj μ x c then strO (G.call f [x] μ) else .bad
  | .fstr es, ρ, μ => (noX (evs G es ρ μ)).bind fun ds μ => opt ((joinF Str.empty ds).map .str) μ
  | .lin neg k o, ρ, μ => (ev G k ρ μ).bind fun y μ => (ev G o ρ μ).bind fun x μ => match x with
    | .loc l => (match μ[l]? with
      | some (.lst xs) => opt ((inSeq y xs).map fun b => .bl (if neg then !b else b)) μ
      | _ => .bad)
    | _ => .bad
  | .lsort o, ρ, μ => (ev G o ρ μ).bind fun x μ => match x with
    | .loc l => (match μ[l]? with
      | some (.lst xs) => opt ((sortT xs).map .lst) μ
      | some (.dcn kvs) => opt ((sortT (kvs.map (·.1))).map .lst) μ
      | _ => .bad)
    | .lst xs => opt ((sortT xs).map .lst) μ
    | _ => .bad
  | .never, _, _ => .bad
  | .popl o k, ρ, μ => (ev G o ρ μ).bind fun x μ => match x with
    | .loc l => (match μ[l]? with
      | some (.lst _) => (ev G k ρ μ).bind fun y μ => popD l y μ
      | _ => .bad)
    | _ => .bad
  | .llen a, ρ, μ => (ev G a ρ μ).bind fun x μ => match x with
    | .loc l => (match μ[l]? with
      | some (.lst xs) => .ok (.int (xs.length : Nat)) μ
      | _ => .bad)
    | _ => .bad
  | .dget o k, ρ, μ => (ev G o ρ μ).bind fun x μ => (ev G k ρ μ).bind fun y μ => match x with
    | .loc l => (match μ[l]? with
      | some (.dct kvs) => opt (lookD kvs y) μ
      | some (.dcn kvs) => opt (lookN kvs y) μ
      | _ => .bad)
    | _ => .bad
  | .din neg k o, ρ, μ => (ev G k ρ μ).bind fun y μ => (ev G o ρ μ).bind fun x μ => match x with
    | .loc l => (match μ[l]? with
      | some (.dct kvs) => (match keyD y with
        | some q => .ok (.bl (if neg then !hasD kvs q else hasD kvs q)) μ
        | none => .bad)
      | some (.dcn kvs) => (match nkT y with
        | some q => .ok (.bl (if neg then !hasN kvs q else hasN kvs q)) μ
        | none => .bad)
      | _ => .bad)
    | _ => .bad
  | .dsort o, ρ, μ => (ev G o ρ μ).bind fun x μ => match x with
    | .loc l => (match μ[l]? with
      | some (.dct kvs) => (match strsD (kvs.map (·.1)) with
        | some ys => if ys.length < 64 && ys.all (fun z => decide (z.length ≤ LINE)) then .ok (.lst ((sortS ys).map D.str)) μ else .bad
        | none => .bad)
      | _ => .bad)
    | _ => .bad
  | .newd es, ρ, μ => (evs G es ρ μ).bind fun ds μ => match dictD ds with
    | some kvs => .ok (.loc μ.length) (μ ++ [.dct kvs])
    | none => .bad
  | .mkx c (some f) e, ρ, μ => (ev G e ρ μ).bind fun x μ => .ok (.ins c [(f, x)]) μ
  | .mkx c none e, ρ, μ => (ev G e ρ μ).bind fun _ μ => .ok (.ins c []) μ
  | .isx e _ yes no, ρ, μ => (ev G e ρ μ).bind fun x μ => match x with
    | .ins c _ => if c ∈ yes then .ok (.bl true) μ else if c ∈ no then .ok (.bl false) μ else .bad
    | _ => .bad
  | .fldx e f cs, ρ, μ => (ev G e ρ μ).bind fun x μ => match x with
    | .ins c fs => if c ∈ cs then opt (fs.lookup f) μ else .bad
    | _ => .bad
  | .newc a, ρ, μ => (ev G a ρ μ).bind fun x μ => match x with
    | .lst xs => .ok (.loc μ.length) (μ ++ [.lst xs])
    | .tup xs => .ok (.loc μ.length) (μ ++ [.lst xs])
    | _ => .bad
  | .call f es, ρ, μ => (evs G es ρ μ).bind fun ds μ => G.call f ds μ
  | .blt f es, ρ, μ => (evs G es ρ μ).bind fun ds μ => opt (blt f ds) μ
  | .meth m o es, ρ, μ => (ev G o ρ μ).bind fun x μ => if mthOk m x then (evs G es ρ μ).bind fun ds μ => opt (meth m x ds) μ else .bad
  | .comp elt t k its none, ρ, μ => (evs G its ρ μ).bind fun ds μ => match iterD k ds with
    | some xs => (compLoop (fun x μ => match bindT (wipeE ρ t.slots) t x with
        | some ρ' => (ev G elt ρ' μ).bind fun y μ => .ok (some y) μ
        | none => .bad) xs [] μ).bind fun ys μ => .ok (.lst ys) μ
    | none => .bad
  | .comp elt t k its (some c), ρ, μ => (evs G its ρ μ).bind fun ds μ => match iterD k ds with
    | some xs => (compLoop (fun x μ => match bindT (wipeE ρ t.slots) t x with
        | some ρ' => (testOf (ev G c ρ' μ)).bind fun b μ => if b then (ev G elt ρ' μ).bind fun y μ => .ok (some y) μ else .ok none μ
        | none => .bad) xs [] μ).bind fun ys μ => .ok (.lst ys) μ
    | none => .bad
  | .comps elt t o none, ρ, μ => (ev G o ρ μ).bind fun x μ => match itemsS μ x with
    | some xs => (compLoop (fun x μ => match bindT (wipeE ρ t.slots) t x with
        | some ρ' => (ev G elt ρ' μ).bind fun y μ => .ok (some y) μ
        | none => .bad) xs [] []).bind fun ys _ => .ok (.lst ys) μ
    | none => .bad
  | .comps elt t o (some c), ρ, μ => (ev G o ρ μ).bind fun x μ => match itemsS μ x with
    | some xs => (compLoop (fun x μ => match bindT (wipeE ρ t.slots) t x with
        | some ρ' => (testOf (ev G c ρ' μ)).bind fun b μ => if b then (ev G elt ρ' μ).bind fun y μ => .ok (some y) μ else .ok none μ
        | none => .bad) xs [] []).bind fun ys _ => .ok (.lst ys) μ
    | none => .bad
def evs (G : GT) : Exs → Env → Store → Out (List D)
  | .nil, _, μ => .ok [] μ
  | .cons e es, ρ, μ => (ev G e ρ μ).bind fun d μ => (evs G es ρ μ).bind fun ds μ => .ok (d :: ds) μ
end

/-! ### expressions that leave the store alone -/
mutual
def pureE : Ex → Bool
  | .con _ => true
  | .var _ => true
  | .glob _ => true
  | .bin _ a b => pureE a && pureE b
  | .cmp _ a b => pureE a && pureE b
  | .idx a b => pureE a && pureE b
  | .and_ a b => pureE a && pureE b
  | .or_ a b => pureE a && pureE b
  | .not_ a => pureE a
  | .tup es => pureEs es
  | _ => false
def pureEs : Exs → Bool
  | .nil => true
  | .cons e es => pureE e && pureEs es
end
/-! ### statements -/
inductive Fl where
  | nx (ρ : Env) (μ : Store) | ret (d : D) (μ : Store) | brk (ρ : Env) (μ : Store) | cont (ρ : Env) (μ : Store)
  | exc (c : D) (fs : List (Str × D)) (ρ : Env) (μ : Store) | bad
def Fl.of {α : Type} (ρ : Env) (o : Out α) (f : α → Store → Fl) : Fl := match o with
  | .ok a μ => f a μ
  | .exc c fs μ => .exc c fs ρ μ
  | .bad => .bad
def Fl.next (r : Fl) (f : Env → Store → Fl) : Fl := match r with
  | .nx ρ μ => f ρ μ
  | r => r
def Fl.opt (o : Option Env) (μ : Store) : Fl := match o with
  | some ρ => .nx ρ μ
  | none => .bad
/-- a for loop: b its turn -/
def forLoop (t : Tg) (b : Env → Store → Fl) : List D → Env → Store → Fl
  | [], ρ, μ => .nx ρ μ
  | x :: xs, ρ, μ => match bindT ρ t x with
    | some ρ' => match b ρ' μ with
      | .nx ρ μ => forLoop t b xs ρ μ
      | .cont ρ μ => forLoop t b xs ρ μ
      | .brk ρ μ => .nx ρ μ
      | r => r
    | none => .bad
/-- a for loop over a list of the store, place by place -/
def forLoopL (t : Tg) (b : Env → Store → Fl) (l : Nat) : Nat → Nat → Env → Store → Fl
  | 0, _, _, _ => .bad
  | n + 1, i, ρ, μ => match μ[l]? with
    | some (.lst xs) => (match xs[i]? with
      | some x => (match bindT ρ t x with
        | some ρ' => (match b ρ' μ with
          | .nx ρ μ => forLoopL t b l n (i + 1) ρ μ
          | .cont ρ μ => forLoopL t b l n (i + 1) ρ μ
          | .brk ρ μ => .nx ρ μ
          | r => r)
        | none => .bad)
      | none => .nx ρ μ)
    | _ => .bad
def whileLoop (c : Env → Store → Out Bool) (b : Env → Store → Fl) : Nat → Env → Store → Fl
  | 0, _, _ => .bad
  | n + 1, ρ, μ => Fl.of ρ (c ρ μ) fun k μ => if k then (match b ρ μ with
      | .nx ρ μ => whileLoop c b n ρ μ
      | .cont ρ μ => whileLoop c b n ρ μ
      | .brk ρ μ => .nx ρ μ
      | r => r) else .nx ρ μ
/-- o[k] = d, o a dict of the store -/
def putSt (x y d : D) (ρ : Env) (μ : Store) : Fl := match x with
  | .loc l => (match μ[l]? with
    | some (.dct kvs) => (match putD kvs y d with
      | some kvs' => .nx ρ (μ.set l (.dct kvs'))
      | none => .bad)
    | some (.dcn kvs) => (match putN kvs y d with
      | some kvs' => .nx ρ (μ.set l (.dcn kvs'))
      | none => .bad)
    | _ => .bad)
  | _ => .bad
mutual
def exS (G : GT) (fuel : Nat) : Sm → Env → Store → Fl
  | .expr e, ρ, μ => Fl.of ρ (ev G e ρ μ) fun _ μ => .nx ρ μ
  | .asg t e, ρ, μ => Fl.of ρ (ev G e ρ μ) fun d μ => Fl.opt (bindT ρ t d) μ
  | .own i e, ρ, μ => Fl.of ρ (ev G e ρ μ) fun d μ => match d with
    | .lst xs => if i < ρ.length then .nx (ρ.set i (.own xs)) μ else .bad
    | _ => .bad
  | .app i e, ρ, μ => match ρ[i]? with
    | some (.own xs) => Fl.of ρ (ev G e ρ μ) fun d μ => if xs.length < LINE then .nx (ρ.set i (.own (xs ++ [d]))) μ else .bad
    | _ => .bad
  | .seti i k e, ρ, μ => match ρ[i]? with
    | some (.own xs) => Fl.of ρ (ev G e ρ μ) fun d μ => Fl.of ρ (ev G k ρ μ) fun y μ => match y with
      | .int j => match ixN xs.length j with
        | some n => .nx (ρ.set i (.own (xs.set n d))) μ
        | none => .bad
      | _ => .bad
    | _ => .bad
  | .setl o k e, ρ, μ => Fl.of ρ (ev G e ρ μ) fun d μ => Fl.of ρ (ev G o ρ μ) fun x μ => Fl.of ρ (ev G k ρ μ) fun y μ => match x, y with
    | .loc l, .int j => match μ[l]? with
      | some (.lst xs) => match ixN xs.length j with
        | some n => .nx ρ (μ.set l (.lst (xs.set n d)))
        | none => .bad
      | _ => .bad
    | _, _ => .bad
  | .appl o e, ρ, μ => Fl.of ρ (ev G o ρ μ) fun x μ => match x with
    | .loc l => (match μ[l]? with
      | some (.lst _) => Fl.of ρ (ev G e ρ μ) fun d μ => (match μ[l]? with
        | some (.lst xs) => if xs.length < LINE then .nx ρ (μ.set l (.lst (xs ++ [d]))) else .bad
        | _ => .bad)
      | _ => .bad)
    | _ => .bad
  | .setd o k e, ρ, μ => Fl.of ρ (ev G e ρ μ) fun d μ => Fl.of ρ (ev G o ρ μ) fun x μ => Fl.of ρ (ev G k ρ μ) fun y μ => match x with
    | .loc l => (match μ[l]? with
      | some (.dct kvs) => (match putD kvs y d with
        | some kvs' => .nx ρ (μ.set l (.dct kvs'))
        | none => .bad)
      | some (.dcn kvs) => (match putN kvs y d with
        | some kvs' => .nx ρ (μ.set l (.dcn kvs'))
        | none => .bad)
      | _ => .bad)
    | _ => .bad
  | .setf o f cs e, ρ, μ => Fl.of ρ (ev G e ρ μ) fun d μ => Fl.of ρ (ev G o ρ μ) fun x μ => match x with
    | .loc l => (match μ[l]? with
      | some (.obj c fs) => if c ∈ cs ∧ fs.length < 900 then .nx ρ (μ.set l (.obj c (putFd f d fs))) else .bad
      | _ => .bad)
    | _ => .bad
  | .setd2 o1 k1 o2 k2 e1 e2, ρ, μ => Fl.of ρ (ev G e1 ρ μ) fun d1 μ => Fl.of ρ (ev G e2 ρ μ) fun d2 μ => Fl.of ρ (ev G o1 ρ μ) fun x μ => Fl.of ρ (ev G k1 ρ μ) fun y μ => (putSt x y d1 ρ μ).next fun ρ μ =>
    Fl.of ρ (ev G o2 ρ μ) fun x μ => Fl.of ρ (ev G k2 ρ μ) fun y μ => putSt x y d2 ρ μ
  | .unl is e, ρ, μ => Fl.of ρ (ev G e ρ μ) fun d μ => match d with
    | .lst xs => Fl.opt (putAll ρ is xs) μ
    | .loc l => (match μ[l]? with
      | some (.lst xs) => Fl.opt (putAll ρ is xs) μ
      | _ => .bad)
    | _ => .bad
  | .forl t o body, ρ, μ => Fl.of ρ (ev G o ρ μ) fun x μ => match x with
    | .loc l => forLoopL t (exSs G fuel body) l fuel 0 ρ μ
    | _ => .bad
  | .par is es, ρ, μ => Fl.of ρ (evs G es ρ μ) fun ds μ => Fl.opt (putMix ρ is ds) μ
  | .ret e, ρ, μ => Fl.of ρ (ev G e ρ μ) fun d μ => .ret d μ
  | .retn, _, μ => .ret .non μ
  | .ite c a b, ρ, μ => Fl.of ρ (testOf (ev G c ρ μ)) fun k μ => if k then exSs G fuel a ρ μ else exSs G fuel b ρ μ
  | .for_ t k its body, ρ, μ => Fl.of ρ (evs G its ρ μ) fun ds μ => match iterD k ds with
    | some xs => forLoop t (exSs G fuel body) xs ρ μ
    | none => .bad
  | .while_ c body, ρ, μ => whileLoop (fun ρ μ => testOf (ev G c ρ μ)) (exSs G fuel body) fuel ρ μ
  | .raise_ _ _, _, _ => .bad
  | .rais c, ρ, μ => .exc (.glob c) [] ρ μ
  | .try_ body c z, ρ, μ => match exSs G fuel body ρ μ with
    | .exc (.glob x) _ _ μ => if x = c then .ret (.str z) μ else .bad
    | .exc _ _ _ _ => .bad
    | r => r
  | .brk, ρ, μ => .brk ρ μ
  | .cont, ρ, μ => .cont ρ μ
  | .pass, ρ, μ => .nx ρ μ
  | .fre i, ρ, μ => match ρ[i]? with
    | some (.own xs) => .nx (ρ.set i (.val (.lst xs))) μ
    | _ => .bad
def exSs (G : GT) (fuel : Nat) : Sms → Env → Store → Fl
  | .nil, ρ, μ => .nx ρ μ
  | .cons s ss, ρ, μ => (exS G fuel s ρ μ).next fun ρ μ => exSs G fuel ss ρ μ
end
/-- a function's call, given what its callees do -/
def runF (G : GT) (fuel : Nat) (f : Fn) (ds : List D) (μ : Store) : Out D :=
  if ds.length = f.ps then match exSs G fuel f.body (ds.map Slot.val ++ List.replicate (f.n - f.ps) Slot.no) μ with
    | .ret d μ => .ok d μ
    | .nx _ μ => .ok .non μ
    | .exc c fs _ μ => .exc c fs μ
    | _ => .bad
  else .bad
/-- calls, by the depth that is left -/
def callD (con : Str → Option D) (fn : Str → Option Fn) (fuel : Nat) : Nat → Str → List D → Store → Out D
  | 0, _, _, _ => .bad
  | d + 1, f, ds, μ => match fn f with
    | some b => runF ⟨con, callD con fn fuel d⟩ fuel b ds μ
    | none => .bad
end LD

set_option Elab.async false
set_option linter.all false
set_option maxRecDepth 100000
set_option maxHeartbeats 4000000
/-! LX1: own exception classes with an own __init__, made as values: the call of the class, of the base's __init__, the store. -/
namespace PySem
namespace XLD
open PySem.W PySem.Calls PyProof.Rows HandSPX
section
variable {prog : Program} {w : World} {A : Around} {E : Value → Shared → Prop} {R : Result → Shared → Prop} {h : Heap} {g : Array GenState} {d : Drawn} {t : Nat} {os : OsState}
variable {nm q : Str} {C N : Addr} {bs bm bmB : List Value} {hdct : Bool} {sn : List Str} {sub : List Value} {ab : Bool} {col : Option Bool} {dd : Option Addr} {k0 k1 k2 k3 k5 : Option Value} {B newId initId : String}
/-- a mro over B that is no AttributeError's, no NameError's -/
structure Over (B : String) (bm : List Value) : Prop where
  b : bm.contains (.type B) = true
  a : bm.contains (.type "AttributeError") = false
  n : bm.contains (.type "NameError") = false
theorem chk_new (F : ExcBaseFacts B newId initId bmB) (hT : Over B bm) {M : Model} {rest : List Value} {Q : Unit → Shared → Prop}
    (hC : h.get? C = some (excClassObj nm q C N bs bm hdct sn sub ab col dd k0 k1 k2 k3 k5 newId)) (hq : Q () ⟨h, g, d, t, os⟩) : wpAny M A (checkBuiltinCall newId ⟨.ref C :: rest, []⟩) Q E ⟨h, g, d, t, os⟩ := by
  have hcont : (Value.ref C :: bm).contains (.type B) = true := by rw [List.contains_cons, hT.b, Bool.or_true]
  have hstar := F.noStar
  simp only [checkBuiltinCall, F.newKind, F.newSplit, F.newRow]
  repeat (first | refine wpAny_loadPart_at hC ?_ | (refine wpAny_isSubtype_exc hC ?_; rw [hcont]) | refine wpAny_staticBase_exc hC ?_ | refine wpAny_madeBy_exc hC ?_ | simp only [bne_self_eq_false, Bool.false_eq_true, if_false] | wp_step)
  exact hq
theorem new_ (F : ExcBaseFacts B newId initId bmB) (hT : Over B bm) {rest : List Value}
    (hC : h.get? C = some (excClassObj nm q C N bs bm hdct sn sub ab col dd k0 k1 k2 k3 k5 newId))
    (hq : R (.ok (.ret (.ref (h.objs.size + 1)))) ⟨(h.push { cls := .type "tuple", data := .seq rest.toArray }).push
      { cls := .ref C, data := .fields #[.ref h.objs.size, .none, .none, .none, .bool false, .none] }, g, d, t, os⟩) (hrest : rest.length ≤ sizeLine) :
    codeAny (model prog w) A (.builtin newId ⟨.ref C :: rest, []⟩) R ⟨h, g, d, t, os⟩ := by
  have hends := F.ends
  have hcB : (Value.ref C :: bm).contains (.type B) = true := by rw [List.contains_cons, hT.b, Bool.or_true]
  have hcA : (Value.ref C :: bm).contains (.type "AttributeError") = false := by rw [List.contains_cons, hT.a]; rfl
  have hcN : (Value.ref C :: bm).contains (.type "NameError") = false := by rw [List.contains_cons, hT.n]; rfl
  refine codeAny_builtinAt F.entry ?_
  unfold Builtin.«BaseException.__new__»
  refine wpAt_bind ?_
  show wpAt _ _ _ (stack >>= _) _ _ _
  refine wpAt_bind (wpAt_stack fun p below => wpAt_of_wpAny ?_)
  wp_walk
  refine wpAt_of_wpAny ?_
  rw [F.owner]
  repeat (first | with_reducible refine wpAny_madeHere_exc F.canon hC ?_ | with_reducible refine wpAny_loadPart_at hC ?_ | (with_reducible refine wpAny_isSubtype_exc hC ?_; first | rw [hcB] | rw [hcA] | rw [hcN]) | wp_step)
  show R _ _
  rw [Heap.size_push]
  exact hq
theorem type_call_ (F : ExcBaseFacts B newId initId bmB) (hT : Over B bm) {rest : List Value} {fI : Addr} {Q : Fin → Shared → Prop}
    (hC : h.get? C = some (excClassObj nm q C N bs bm hdct sn sub ab col dd k0 k1 k2 k3 k5 newId))
    (hi : W.Looks (model prog w) h (typeLookup (.ref C) "__init__") (some (.ref fI))) (hb : ∀ self, W.Looks (model prog w) h (bindSpecial (.ref fI) self) (.ref fI, [self])) (hrest : rest.length ≤ sizeLine)
    (hq : codeAny (model prog w) A (.call (.ref fI) ⟨.ref (h.objs.size + 1) :: rest, []⟩)
      (fun r s' => match r with | .ok (.ret v) => v = .none ∧ Q (.done (.ret (.ref (h.objs.size + 1)))) s' | .ok _ => False | .error e => E e s')
      ⟨(h.push (W.kdv_tup rest)).push (excO C h.objs.size), g, d, t, os⟩) :
    wpAny (model prog w) A (Builtin.«type.__call__» ⟨.ref C :: rest, []⟩) Q E ⟨h, g, d, t, os⟩ := by
  repeat (first | with_reducible refine wpAny_loadPart_at hC ?_ | with_reducible refine wpAny_madeBy_exc hC ?_ | wp_step)
  refine codeAny_call_builtin_code (Code.quiet_builtin _ F.quiet) (chk_new F hT hC ?_)
  refine new_ F hT hC ?_ hrest
  show wpAny _ _ _ _ _ _
  have k : ∀ b o, h.get? b = some o → ((h.push (W.kdv_tup rest)).push (excO C h.objs.size)).get? b = some o := fun b o e => Heap.get?_push_of_some _ (Heap.get?_push_of_some _ e)
  have hC₁ := k _ _ hC
  have hget : ((h.push (W.kdv_tup rest)).push (excO C h.objs.size)).get? (h.objs.size + 1) = some (excO C h.objs.size) := by heap_get
  have hcC : (Value.ref C :: bm).contains (.ref C) = true := by simp
  have i1 := hi.keeps k
  have b1 := (hb (.ref (h.objs.size + 1))).keeps k
  unfold isInstance
  repeat (first | with_reducible refine wpAny_loadPart_at hget ?_ | (with_reducible refine wpAny_isSubtype_exc hC₁ ?_; rw [hcC]) | wp_step)
  show wpAny _ _ (typeLookup (.ref C) _) _ _ _
  refine i1.at ?_
  refine wpAny_holding (wpAny_bind (b1.at ?_))
  refine wpAny_bind (wpAny_call (codeAny_mono hq fun r s' z => ?_))
  rcases r with e | (v | _ | _ | _) <;> first | exact z | exact z.elim | skip
  obtain ⟨rfl, z⟩ := z
  first
    | exact wpAny_pure (wpAny_pure z)
    | (wp_walk; exact z)
theorem call_ (F : ExcBaseFacts B newId initId bmB) (hT : Over B bm) {rest : List Value} {fI : Addr}
    (hC : h.get? C = some (excClassObj nm q C N bs bm hdct sn sub ab col dd k0 k1 k2 k3 k5 newId))
    (hi : W.Looks (model prog w) h (typeLookup (.ref C) "__init__") (some (.ref fI))) (hb : ∀ self, W.Looks (model prog w) h (bindSpecial (.ref fI) self) (.ref fI, [self])) (hrest : rest.length ≤ sizeLine)
    (hq : codeAny (model prog w) (A.under (.builtin "type.__call__" ⟨.ref C :: rest, []⟩)) (.call (.ref fI) ⟨.ref (h.objs.size + 1) :: rest, []⟩) (W.InitBack (h.objs.size + 1) R)
      ⟨(h.push (W.kdv_tup rest)).push (excO C h.objs.size), g, d, t, os⟩) :
    codeAny (model prog w) A (.call (.ref C) ⟨rest, []⟩) R ⟨h, g, d, t, os⟩ := by
  have f1 := tc_lookup
  have f2 := tc_bind (.ref C)
  have hTy : (⟨h, g, d, t, os⟩ : Shared).TypeIs (.ref C) "type" := ⟨_, hC, rfl⟩
  refine codeAny_of_tree ?_
  show wpAny _ _ (callAny (.ref C) _) _ _ _
  repeat (any_goals (first | assumption | with_reducible refine wpAny_loadPart_at hC ?_ | wp_step))
  refine ⟨rfl, ?_⟩
  refine codeAny_call_builtin_at (Code.quiet_builtin _ (by decide +kernel)) entry_typeCall (wpAny_check_type_call_sub hC (type_call_ F hT hC hi hb hrest ?_))
  refine codeAny_mono hq fun r s' z => ?_
  rcases r with e | (v | _ | _ | _) <;> exact z
/-- what a built-in class' __init__ says of itself -/
structure InitF (T initId : String) : Prop where
  plain : plainId initId = true
  entry : entryFor table initId = some Builtin.«BaseException.__init__»
  split : splitId initId = some (T, "__init__")
  kind : builtinKind initId = some .slot
  row : Manifest.signature? initId = some ⟨.positional, "*", T, .self, [⟨"args", .varPos, false⟩]⟩
  noStar : (T != "*") = true
theorem InitF.of (F : ExcBaseFacts B newId initId bmB) : InitF B initId := ⟨F.init.plain, F.initEntry, F.initSplit, F.initKind, F.initRow, F.noStar⟩
theorem initF_KeyError : InitF "KeyError" "KeyError.__init__" := ⟨excClass_KeyError.init.plain, excClass_KeyError.initEntry, excClass_KeyError.initSplit, excClass_KeyError.initKind, by kernel_rfl, by decide⟩
theorem chk_init {T : String} (F : InitF T initId) (hT : bm.contains (.type T) = true) {M : Model} {e : Addr} {oe : Obj} {rest : List Value} {Q : Unit → Shared → Prop}
    (hC : h.get? C = some (excClassObj nm q C N bs bm hdct sn sub ab col dd k0 k1 k2 k3 k5 newId)) (he : h.get? e = some oe) (hcls : oe.cls = .ref C) (hq : Q () ⟨h, g, d, t, os⟩) :
    wpAny M A (checkBuiltinCall initId ⟨.ref e :: rest, []⟩) Q E ⟨h, g, d, t, os⟩ := by
  have hcB : (Value.ref C :: bm).contains (.type T) = true := by rw [List.contains_cons, hT, Bool.or_true]
  have hshort := F.noStar
  simp only [checkBuiltinCall, F.kind, F.split, F.row]
  repeat (first | (with_reducible refine wpAny_loadPart_at he ?_; rw [hcls]) | with_reducible refine wpAny_loadPart_at hC ?_ | (with_reducible refine wpAny_isSubtype_exc hC ?_; rw [hcB]) | wp_step)
  refine wpAny_onRaise ?_
  rw [show ∀ (a b : String) (n : Nat), Bind.check ⟨.positional, "*", T, .self, [⟨"args", .varPos, false⟩]⟩ a b n (List.map (fun x => x.fst) ({ pos := Value.ref e :: rest } : Args).kw) = pure () from
    fun a b n => check_star_args _ _ _ _ _ _]
  exact wpAny_pure hq
theorem init_ {T : String} (F : InitF T initId) (hT : bm.contains (.type T) = true) {e t0 : Addr} {rest : List Value}
    (hC : h.get? C = some (excClassObj nm q C N bs bm hdct sn sub ab col dd k0 k1 k2 k3 k5 newId)) (he : h.get? e = some (excO C t0)) (hrest : rest.length ≤ sizeLine)
    (hq : ∀ h' t1, (∀ b o, b ≠ e → h.get? b = some o → h'.get? b = some o) → h'.get? e = some (excO C t1) → R (.ok (.ret .none)) ⟨h', g, d, t, os⟩) :
    codeAny (model prog w) A (.call (.builtin initId) ⟨.ref e :: rest, []⟩) R ⟨h, g, d, t, os⟩ := by
  refine codeAny_call_builtin F.plain F.entry (chk_init F hT hC he rfl ?_)
  wp_walk
  refine hq _ h.objs.size (fun b o hb ho => ?_) ?_
  · rw [Heap.get?_update_other _ _ (Ne.symm hb)]
    exact Heap.get?_push_of_some _ ho
  · rw [Heap.get?_update_self _ (Heap.get?_push_of_some _ he) rfl]
    rfl
end
end XLD
end PySem

set_option Elab.async false
set_option linter.all false
set_option maxRecDepth 100000
set_option maxHeartbeats 4000000
/-! LX2: the store of a field in an exception, rules by values: C(e), isinstance, a field. -/
namespace PySem
namespace F
theorem store_KeyError : StoreFacts "KeyError" [.type "KeyError", .type "LookupError", .type "Exception", .type "BaseException", .type "object"] "object.__setattr__" "object" where
  mro := by kernel_rfl
  slot := .of (owner := "object") (n := "__setattr__") (by rw [typeLookup_type, builtinLookup_eq_fast]; kernel_rfl) (by decide +kernel) (by decide +kernel) (by decide +kernel)
    (by first | exact .inl (by decide +kernel) | exact .inr (by decide +kernel)) (by rw [isSubtype_type]; kernel_rfl)
  entry := entry_object_sa
  kind := by decide +kernel
  split := by decide +kernel
  hasOwner := by decide +kernel
  args := fun a b c => by unfold argsOk; kernel_rfl
  passes := fun self => by kernel_rfl
end F
namespace XLD
open PySem.W PySem.Calls PyProof.Rows HandSPX
open Builtin Builtin.ObjectAttr
section
variable {prog : Program} {w : World} {A : Around} {E : Value → Shared → Prop} {R : Result → Shared → Prop} {hp : Heap} {g : Array GenState} {d : Drawn} {t : Nat} {os : OsState}
/-- self.name = v, the first field -/
theorem osa_x {B : String} {bmB : List Value} {K : W.Frag} {name : Str} {tk : Tok} {v : Value} {x C : Addr} {fv : Array Value} {cd : ClassData} (SF : StoreFacts B bmB "object.__setattr__" "object")
    (X : K.In hp) (hx : hp.get? x = some { cls := .ref C, data := .fields fv }) (hcd : W.clsIn K C = some cd) (hov : excOver K C bmB = true) (hh : cd.hasDict = true) (ha : W.findIn K (.ref C) name = some none)
    (hq : ∀ h' tk' dx, (∀ b o, b ≠ x → hp.get? b = some o → h'.get? b = some o) → hp.objs.size ≤ dx → dx ≠ x → h'.get? x = some { cls := .ref C, dict := some dx, data := .fields fv } →
      h'.Ns1 dx (fun y => if y = name then some v else none) → R (.ok (.ret .none)) ⟨h', g, d, tk', os⟩) :
    codeAny (model prog w) A (.call (.builtin "object.__setattr__") ⟨[.ref x, .str name tk, v], []⟩) R ⟨hp, g, d, t, os⟩ := by
  have I : W.InstAt hp x { cls := .ref C, data := .fields fv } C none := ⟨hx, rfl, rfl, trivial⟩
  have hxs : x ≠ hp.objs.size := Nat.ne_of_lt (Heap.lt_size hx)
  have hcls : W.Looks (model prog w) hp (classData C) cd := W.looks_clsIn X hcd
  refine osa_openX (s := ⟨hp, g, d, t, os⟩) SF X I hov (r := none) (by unfold takerIn; rw [ha]; rfl) fun b => ?_
  show wpAny _ _ (storeInOwnDict (.ref x) (.ref C) (.str name tk) name v b) _ _ _
  obtain ⟨nm, bs, mro, ns, qn, hd, sn, sb, ab, col, del⟩ := cd
  dsimp only at hh
  subst hh
  unfold storeInOwnDict ownDictForStores
  repeat (first | with_reducible refine store_in_new ?_ ?_ | with_reducible refine wpAny_loadPart_at hx ?_ | with_reducible refine hcls.at ?_ | wp_step)
  · exact ⟨_, #[], _, (Heap.get?_update_ne _ _ _ _ hxs.symm).trans (Heap.get?_push_at rfl rfl), rfl, fun e he => absurd he (by simp), fun _ => rfl⟩
  · intro h' tk' hn' hs
    have hx₁ : (hp.push { cls := .type "dict", data := .dict #[] }).get? x = some { cls := .ref C, data := .fields fv } := Heap.get?_push_of_some _ hx
    refine hq h' tk' hp.objs.size (fun b o hb ho => ?_) (Nat.le_refl _) hxs.symm ?_ hn'
    · exact (hs.2 b (Nat.ne_of_lt (Heap.lt_size ho))).trans ((Heap.get?_update_ne _ _ _ _ hb).trans (Heap.get?_push_of_some _ ho))
    · exact (hs.2 x hxs).trans (Heap.get?_update_self _ hx₁ rfl)
end
/-- the built-in class under an own exception class -/
inductive BK where | value | index | lookup | overflow | key
  deriving DecidableEq
namespace BK
def t : BK → String | value => "ValueError" | index => "IndexError" | lookup => "LookupError" | overflow => "OverflowError" | key => "KeyError"
def i : BK → String | value => "ValueError.__init__" | index => "IndexError.__init__" | lookup => "LookupError.__init__" | overflow => "OverflowError.__init__" | key => "KeyError.__init__"
def b : BK → String | value => "ValueError" | index => "IndexError" | lookup => "LookupError" | overflow => "OverflowError" | key => "LookupError"
def n : BK → String | value => "ValueError.__new__" | index => "IndexError.__new__" | lookup => "LookupError.__new__" | overflow => "OverflowError.__new__" | key => "LookupError.__new__"
def bi : BK → String | value => "ValueError.__init__" | index => "IndexError.__init__" | lookup => "LookupError.__init__" | overflow => "OverflowError.__init__" | key => "LookupError.__init__"
def m : BK → List Value
  | value => [.type "ValueError", .type "Exception", .type "BaseException", .type "object"]
  | index => [.type "IndexError", .type "LookupError", .type "Exception", .type "BaseException", .type "object"]
  | lookup => [.type "LookupError", .type "Exception", .type "BaseException", .type "object"]
  | overflow => [.type "OverflowError", .type "ArithmeticError", .type "Exception", .type "BaseException", .type "object"]
  | key => [.type "KeyError", .type "LookupError", .type "Exception", .type "BaseException", .type "object"]
theorem fN : ∀ k : BK, ∃ bm, ExcBaseFacts k.b k.n k.bi bm
  | value => ⟨_, F.excBase_ValueError⟩
  | index => ⟨_, F.excBase_IndexError⟩
  | lookup => ⟨_, F.excBase_LookupError⟩
  | overflow => ⟨_, F.excBase_OverflowError⟩
  | key => ⟨_, F.excBase_LookupError⟩
theorem fI : ∀ k : BK, InitF k.t k.i
  | value => .of F.excBase_ValueError
  | index => .of F.excBase_IndexError
  | lookup => .of F.excBase_LookupError
  | overflow => .of F.excBase_OverflowError
  | key => initF_KeyError
theorem fS : ∀ k : BK, StoreFacts k.t k.m "object.__setattr__" "object"
  | value => F.store_ValueError
  | index => F.store_IndexError
  | lookup => F.store_LookupError
  | overflow => F.store_OverflowError
  | key => F.store_KeyError
theorem over : ∀ k : BK, Over k.b k.m ∧ k.m.contains (.type k.t) = true
  | value => ⟨⟨by decide, by decide, by decide⟩, by decide⟩
  | index => ⟨⟨by decide, by decide, by decide⟩, by decide⟩
  | lookup => ⟨⟨by decide, by decide, by decide⟩, by decide⟩
  | overflow => ⟨⟨by decide, by decide, by decide⟩, by decide⟩
  | key => ⟨⟨by decide, by decide, by decide⟩, by decide⟩
end BK
/-- what K says of the class -/
def oxB (K : Frag) (C : Addr) (k : BK) : Bool := excInitIn K C k.m k.n && (hasDictIn K C && (decide (findIn K (.ref C) "__setattr__" = some (some (.builtin "object.__setattr__"))) && (decide (subIn K (.ref C) (.type "BaseException") = some true) && keepIn K (.ref C))))
structure Ox (K : Frag) (C : Addr) (k : BK) : Prop where
  cls : ∃ nm q N bs bm sn sub ab col dd k0 k1 k2 k3 k5, K.lookup C = some (excClassObj nm q C N bs bm true sn sub ab col dd k0 k1 k2 k3 k5 k.n) ∧ Over k.b bm ∧ bm.contains (.type k.t) = true
  ov : excOver K C k.m = true
  sa : findIn K (.ref C) "__setattr__" = some (some (.builtin "object.__setattr__"))
  exC : subIn K (.ref C) (.type "BaseException") = some true
  kC : keepIn K (.ref C) = true
theorem oxB_ok {K : Frag} {C : Addr} {k : BK} (h : oxB K C k = true) : Ox K C k := by
  obtain ⟨h1, h⟩ := Bool.and_eq_true_iff.mp h
  obtain ⟨h2, h⟩ := Bool.and_eq_true_iff.mp h
  obtain ⟨h3, h⟩ := Bool.and_eq_true_iff.mp h
  obtain ⟨h4, h5⟩ := Bool.and_eq_true_iff.mp h
  have key : ∃ nm q N bs bm sn sub ab col dd k0 k1 k2 k3 k5, K.lookup C = some (excClassObj nm q C N bs bm true sn sub ab col dd k0 k1 k2 k3 k5 k.n) ∧ excTail k.m bm = true := by
    unfold excInitIn at h1
    split at h1
    · rename_i dd cd sl ho
      split at h1
      · rename_i C' bm k0 k1 k2 k3 n k5 hm hs
        simp only [Bool.and_eq_true, beq_iff_eq, Bool.not_eq_true'] at h1
        obtain ⟨⟨⟨e1, e2⟩, hdel⟩, ht⟩ := h1
        subst e1 e2
        obtain ⟨nm, bs, mro, ns, qn, hd, sn, sub, ab, col, del⟩ := cd
        dsimp only at hm hdel
        subst hm hdel
        have hsl : sl = #[k0, k1, k2, k3, some (.builtin k.n), k5] := by
          obtain ⟨l⟩ := sl
          simp only at hs
          rw [hs]
        subst hsl
        have hd' : hd = true := by
          unfold hasDictIn clsIn at h2
          rw [ho] at h2
          simpa using h2
        subst hd'
        exact ⟨nm, qn, ns, bs, bm, sn, sub, ab, col, dd, k0, k1, k2, k3, k5, ho, ht⟩
      · cases h1
    · cases h1
  obtain ⟨nm, q, N, bs, bm, sn, sub, ab, col, dd, k0, k1, k2, k3, k5, e, ht⟩ := key
  refine ⟨⟨nm, q, N, bs, bm, sn, sub, ab, col, dd, k0, k1, k2, k3, k5, e, ⟨?_, ?_, ?_⟩, ?_⟩, ?_, of_decide_eq_true h3, of_decide_eq_true h4, h5⟩
  · rw [excTail_contains _ _ ht]; exact k.over.1.b
  · rw [excTail_contains _ _ ht]; exact k.over.1.a
  · rw [excTail_contains _ _ ht]; exact k.over.1.n
  · rw [excTail_contains _ _ ht]; exact k.over.2
  · unfold excOver clsIn
    rw [e]
    simp [excClassObj, ht]
end XLD
end PySem

set_option Elab.async false
set_option linter.all false
set_option maxRecDepth 100000
set_option maxHeartbeats 4000000
/-! LX3: rules by values: the base's __init__, the store, C(e). -/
namespace LX
open PySem PySem.Spec PyProof.Rows L2 PySem.XLD
section
variable {X : Cx} {pins : List (Addr × Obj)} {σ : L2.St} {H : Hp} {s : Shared} {a C : Addr} {f : Str} {y : V} {u : Value} {A : Around} {E : Value → Shared → Prop} {k : BK}
theorem ox_store {Q : Unit → Shared → Prop} (T : Ox X.K C k) (I : Inv X pins σ H s) (e : H a = some (exo a C none)) (hno : PySem.W.findIn X.K (.ref C) f = some none) (ry : RelV y u)
    (h : ∀ dx s', H dx = none → dx ≠ a → Inv X pins σ (upd (upd H dx (exd dx [(f, y)])) a (exo a C (some dx))) s' → Q () s') : wpAny (model X.prog X.w) A (setAttr (.ref a) f u) Q E s := by
  obtain ⟨nm, q, N, bs, bm, sn, sub, ab, col, dd, k0, k1, k2, k3, k5, hC, hov, hct⟩ := T.cls
  have hcl : PySem.W.clsIn X.K C = some { name := nm, bases := bs, mro := .ref C :: bm, ns := N, qualname := q, hasDict := true, slotNames := sn, subclasses := sub, abstract := ab, collection := col, hasDel := false } := by unfold PySem.W.clsIn; rw [hC] <;> rfl
  obtain ⟨t1, ho⟩ := exo_at I.hok e
  obtain ⟨hp, g, d, t, os⟩ := s
  refine PySem.W.set_plain I.kIn (ox := { cls := .ref C, dict := none, data := .fields #[.ref t1, .none, .none, .none, .bool false, .none] }) (od := none) ⟨ho, rfl, rfl, trivial⟩ T.sa ?_
  refine osa_x k.fS I.kIn ho hcl T.ov rfl hno (fun h' tk' dx kp dn dne hx hn => ?_)
  have hnd : H dx = none := I.hok.fresh dn
  have nd : ∀ {b : Addr} {o : Obj}, hp.get? b = some o → b ≠ dx := fun {b o} q => Nat.ne_of_lt (Nat.lt_of_lt_of_le (Heap.lt_size q) dn)
  have na : ∀ {b : Addr}, H b = none → b ≠ a := fun {b} n z => by
    rw [z, e] at n
    cases n
  have Un1 : Un X.fs [] H (upd (upd H dx (exd dx [(f, y)])) a (exo a C (some dx))) hp h' := {
    keep := fun b o q n _ _ => kp b o (na n) q
    slot := fun b o q n _ _ => ⟨o.slots, kp b o (na n) q⟩
    free := fun b o q n _ => by rw [upd_ne (na n), upd_ne (nd q)]; exact n
    there := fun b o q _ => by
      by_cases hb : b = a
      · exact ⟨_, by rw [hb]; exact hx⟩
      · exact ⟨o, kp b o hb q⟩
    tups := fun b xs q => by rw [upd_ne (at_ne e q exo_tup), upd_ne (ne_of_none q hnd)]; exact q
    frzs := fun b o v q => by rw [upd_ne (at_ne e q exo_frz), upd_ne (ne_of_none q hnd)]; exact q
    tbls := fun b ps q => ⟨#[], by rw [upd_ne (at_ne e q exo_tbl), upd_ne (ne_of_none q hnd), q]; simp⟩ }
  refine h dx _ hnd dne (I.un (t' := tk') Un1 fun b o q => ?_)
  by_cases hb : b = a
  · subst hb
    rw [upd_same] at q
    cases q
    exact exo_ok hx
  · rw [upd_ne hb] at q
    by_cases hd : b = dx
    · subst hd
      rw [upd_same] at q
      cases q
      exact exd_ok hn (relO_put (fs := []) ry fun g => True.intro)
    · rw [upd_ne hd] at q
      exact (I.hok b o q).stay (fun c v hc z => kp c v (by
          rcases hc with hc | hc
          · rw [hc]
            exact hb
          · exact at_ne e hc exo_own) z)
        (fun c hc => by rw [upd_ne (at_ne e hc exo_own), upd_ne (ne_of_none hc hnd)]; exact hc) (fun c xs hc => by rw [upd_ne (at_ne e hc exo_tup), upd_ne (ne_of_none hc hnd)]; exact hc)
theorem ox_init {us : List Value} {Q : Value → Shared → Prop} (T : Ox X.K C k) (I : Inv X pins σ H s) (e : H a = some (exo a C none)) (hl : us.length ≤ sizeLine) (h : ∀ s', Inv X pins σ H s' → Q .none s') :
    wpAny (model X.prog X.w) A (call (.builtin k.i) (.ref a :: us)) Q E s := by
  obtain ⟨nm, q, N, bs, bm, sn, sub, ab, col, dd, k0, k1, k2, k3, k5, hC, hov, hct⟩ := T.cls
  obtain ⟨t1, ho⟩ := exo_at I.hok e
  obtain ⟨hp, g, d, t, os⟩ := s
  refine wpAny_call (init_ k.fI hct (I.kIn _ _ hC) ho hl fun h' t2 kp hx => ?_)
  have J := I.write (t' := t) (x := a) (e := a) (o := exo a C none) (by rw [e]; exact True.intro) (.inl rfl) kp ⟨_, hx⟩ (exo_ok hx)
  have eu : upd H a (exo a C none) = H := by
    funext b
    by_cases hb : b = a
    · rw [hb, upd_same, e]
    · rw [upd_ne hb]
  rw [eu] at J
  exact h _ J
end
/-- B.__init__(self, ..) -/
def tXi (K : PySem.W.Frag) (k : BK) (ta : TA) : TE := fun σ H Q => ta σ H fun vs H1 => ∃ (a C : Addr) (ws : List V), vs = .ref a :: ws ∧ ws.length ≤ 1000 ∧ Ox K C k ∧ H1 a = some (exo a C none) ∧ Q .non H1
/-- self.f = e -/
def tXs (K : PySem.W.Frag) (k : BK) (f : Str) (to te : TE) : TS := fun D σ H => te σ H fun y H1 => to σ H1 fun x H2 => ∃ a C : Addr, x = .ref a ∧ Ox K C k ∧ PySem.W.findIn K (.ref C) f = some none ∧
  H2 a = some (exo a C none) ∧ ∀ dx, H2 dx = none → dx ≠ a → D.nx σ (upd (upd H2 dx (exd dx [(f, y)])) a (exo a C (some dx)))
section
variable {X : Cx} {o e : Expr} {es : List Expr} {to te : TE} {ta : TA} {f x : Str} {p p' p1 p2 pos : Pos} {k : BK}
theorem bt : ∀ k : BK, typeOf (.type k.t) = pure (.type "type") ∧ Manifest.isStub k.t = false
  | .value => ⟨by kernel_rfl, by decide +kernel⟩
  | .index => ⟨by kernel_rfl, by decide +kernel⟩
  | .lookup => ⟨by kernel_rfl, by decide +kernel⟩
  | .overflow => ⟨by kernel_rfl, by decide +kernel⟩
  | .key => ⟨by kernel_rfl, by decide +kernel⟩
theorem hi : ∀ k : BK, PySem.W.handedIn (.builtin k.i) = true
  | .value => by decide +kernel
  | .index => by decide +kernel
  | .lookup => by decide +kernel
  | .overflow => by decide +kernel
  | .key => by decide +kernel
theorem pe_xi {pl : Sem Bool} (hg : Gl X x) (hm : X.mg x = none) (hv : bootBuiltins x = some (.type k.t)) (hn : x ≠ "__name__") (hdb : (x == ("__debug__" : Str)) = false)
    (vV : PySem.W.findCls X.K (.type k.t) (.type "type") "__init__" = some (.val (.builtin k.i))) (ha : PA X (e :: es) ta)
    (hc : eval (.Call (.Attribute (.Name x p1) "__init__" p2) (e :: es) [] pos) X.env = (do
      let ov ← eval (.Name x p1) X.env
      standAt p2.atName
      let (f, first) ← holding [ov] (getMethod ov "__init__" pl)
      callWith pos f first (backTo pos (starEach (e :: es) X.env)) (backToKw pos (keywordEach [] X.env))) := by rfl)
    (he : starEach (e :: es) X.env = (false, eval e X.env) :: starEach es X.env := by rfl) (hpl : (backTo pos (starEach es X.env)).any (·.1) = false := by rfl) :
    PE X (.Call (.Attribute (.Name x p1) "__init__" p2) (e :: es) [] pos) (tXi X.K k ta) := by
  refine ⟨fun pins s σ H Q I h => ?_⟩
  refine PySem.W.methodCall_KW (ld_blt I hg hm hv ?_ hn hdb) hc
  obtain ⟨m, fr⟩ := I.fr
  refine PySem.W.method_type fr I.ok.mod.kin (bt k).1 (bt k).2 vV (hi k) ?_
  show wpAny _ _ (callWith pos (Value.builtin k.i) [] (backTo pos (starEach (e :: es) X.env)) []) _ _ _
  refine PyProof.Rows.callWith_method1 (thn (ha.run pos pins _ σ H _ (I.tok _) h) fun us s1 ⟨vs, H1, I1, r1, a, C, ws, ev, hl, T, ea, q⟩ => ?_) he hpl
  subst ev
  cases r1 with
  | @cons _ u0 _ ur ra rw' =>
    obtain rfl : u0 = Value.ref a := ra
    have hlen : ur.length ≤ sizeLine := by
      rw [← Paired.length rw', sizeLine_eq]
      omega
    exact ox_init T I1 ea hlen fun s' J => ⟨.non, H1, J, rfl, q⟩
/-- .. the class an own one over B -/
theorem pe_xic {pl : Sem Bool} {D : Addr} (hg : Gl X x) (hm : X.mg x = some (.ref D)) (hdb : (x == ("__debug__" : Str)) = false) (hsp : PySem.W.specialIn X.K (.ref D) "__getattribute__" = some (some (.builtin "type.__getattribute__")))
    (hrd : PySem.W.readsIn X.K D (.type "type") = true) (vV : PySem.W.findCls X.K (.ref D) (.type "type") "__init__" = some (.val (.builtin k.i))) (ha : PA X (e :: es) ta)
    (hc : eval (.Call (.Attribute (.Name x p1) "__init__" p2) (e :: es) [] pos) X.env = (do
      let ov ← eval (.Name x p1) X.env
      standAt p2.atName
      let (f, first) ← holding [ov] (getMethod ov "__init__" pl)
      callWith pos f first (backTo pos (starEach (e :: es) X.env)) (backToKw pos (keywordEach [] X.env))) := by rfl)
    (he : starEach (e :: es) X.env = (false, eval e X.env) :: starEach es X.env := by rfl) (hpl : (backTo pos (starEach es X.env)).any (·.1) = false := by rfl) :
    PE X (.Call (.Attribute (.Name x p1) "__init__" p2) (e :: es) [] pos) (tXi X.K k ta) := by
  refine ⟨fun pins s σ H Q I h => ?_⟩
  refine PySem.W.methodCall_KW (ld_glob I hg hm ?_ hdb) hc
  refine PySem.W.method_cls I.kIn hsp (PySem.W.cls_value I.kIn hrd vV (hi k) ?_)
  show wpAny _ _ (callWith pos (Value.builtin k.i) [] (backTo pos (starEach (e :: es) X.env)) []) _ _ _
  refine PyProof.Rows.callWith_method1 (thn (ha.run pos pins _ σ H _ (I.tok _) h) fun us s1 ⟨vs, H1, I1, r1, a, C, ws, ev, hl, T, ea, q⟩ => ?_) he hpl
  subst ev
  cases r1 with
  | @cons _ u0 _ ur ra rw' =>
    obtain rfl : u0 = Value.ref a := ra
    have hlen : ur.length ≤ sizeLine := by
      rw [← Paired.length rw', sizeLine_eq]
      omega
    exact ox_init T I1 ea hlen fun s' J => ⟨.non, H1, J, rfl, q⟩
theorem ps_xs (ho : PE X o to) (he : PE X e te) (hs : swapsWith e (some (.Attribute o f p')) pos.line X.env = pure false := by rfl) : PS X (.Assign [.Attribute o f p'] e pos) (tXs X.K k f to te) := by
  refine ⟨fun pins s σ H D I h => ?_⟩
  refine plainObj_wpAny_Assign_Attribute (thn (he.run pins s σ H _ I h) fun v s1 ⟨y, H1, I1, r1, q1⟩ => thn (ho.run pins s1 σ H1 _ I1 q1) fun u s2 ⟨x, H2, I2, r2, a, C, ex, T, hno, ea, q⟩ => ?_) hs
  subst ex
  obtain rfl : u = Value.ref a := r2
  exact ox_store T I2 ea hno r1 fun dx s' n ne J => ⟨σ, _, J, q dx n ne⟩
/-- what __init__ promises -/
def spXi (C : Addr) (f : Str) : Sp := fun vs H Q _ => ∃ (a : Addr) (y : V), vs = [.ref a, y] ∧ H a = some (exo a C none) ∧ ∀ dx, H dx = none → dx ≠ a → Q .non (upd (upd H dx (exd dx [(f, y)])) a (exo a C (some dx)))
/-- C(e): a new exception with its field -/
def tXm (C : Addr) (f : Str) (te : TE) : TE := fun σ H Q => te σ H fun y H1 => ∀ a dx, H1 a = none → H1 dx = none → dx ≠ a → Q (.ref a) (upd (upd H1 dx (exd dx [(f, y)])) a (exo a C (some dx)))
theorem pe_xm {CX : CXT} {C fI : Addr} {j : Nat} {fd : FuncData} {ps : List Str} (T : Ox X.K C k) (iC : PySem.W.findIn X.K (.ref C) "__init__" = some (some (.ref fI))) (tI : PySem.W.typeIn X.K (.ref fI) = some (.type "function"))
    (F1 : FnOk X.prog X.w X.K X.mg X.base CX j fI fd ps (spXi C f)) (hr : Room (j + 1) X.A) (hb : Binds X.K fd ps []) (hx : Passes CX X (fun _ _ _ => False)) (hg : Gl X x) (hm : X.mg x = some (.ref C)) (he' : PE X e te)
    (hdb : (x == ("__debug__" : Str)) = false) (he : starEach [e] X.env = (false, eval e X.env) :: starEach [] X.env := by rfl) :
    PE X (.Call (.Name x p) [e] [] pos) (tXm C f te) := by
  refine ⟨fun pins s σ H Q I h => ?_⟩
  obtain ⟨nm, q, N, bs, bm, sn, sub, ab, col, dd, k0, k1, k2, k3, k5, hC, hov, hct⟩ := T.cls
  refine wpAny_Call_Name_kw (ld_glob I hg hm ?_ hdb)
  refine PySem.W.callWith_K (h₀ := X.base) I.ok.mod.kin T.kC ?_ he (by rfl)
  rw [he]
  show wpAny _ _ (spliced ((false, eval e X.env) :: backTo pos (starEach [] X.env))) _ _ s
  refine Calls.spliced_cons (thn (he'.run pins s σ H _ I h) fun u s1 ⟨y, H1, I1, r1, q1⟩ => ?_)
  refine Calls.spliced_nil ⟨I1.kIn, ?_⟩
  show wpAny _ _ (call (.ref C) [u]) _ _ _
  obtain ⟨hp, g, dr, tk, os⟩ := s1
  have hsz : hp.objs.size ≤ hp.objs.size + 1 := Nat.le_succ _
  have hn : H1 (hp.objs.size + 1) = none := I1.hok.fresh hsz
  have kk : ∀ b o, hp.get? b = some o → ((hp.push (PySem.W.kdv_tup [u])).push (PySem.HandSPX.excO C hp.objs.size)).get? b = some o := fun b o e => Heap.get?_push_of_some _ (Heap.get?_push_of_some _ e)
  have hget : ((hp.push (PySem.W.kdv_tup [u])).push (PySem.HandSPX.excO C hp.objs.size)).get? (hp.objs.size + 1) = some (PySem.HandSPX.excO C hp.objs.size) := by heap_get
  have I2 : Inv X pins σ (upd H1 (hp.objs.size + 1) (exo (hp.objs.size + 1) C none)) ⟨(hp.push (PySem.W.kdv_tup [u])).push (PySem.HandSPX.excO C hp.objs.size), g, dr, tk, os⟩ :=
    I1.laid (t' := tk) (a := hp.objs.size + 1) (o := exo (hp.objs.size + 1) C none) (h' := (hp.push (PySem.W.kdv_tup [u])).push (PySem.HandSPX.excO C hp.objs.size)) kk hsz (exo_ok hget)
  have r2 : Vals [V.ref (hp.objs.size + 1), y] [Value.ref (hp.objs.size + 1), u] := .cons rfl (.cons r1 .nil)
  have hq : spXi C f [V.ref (hp.objs.size + 1), y] (upd H1 (hp.objs.size + 1) (exo (hp.objs.size + 1) C none)) (fun v H2 => v = .non ∧ Q (.ref (hp.objs.size + 1)) H2) (fun _ _ _ => False) := by
    refine ⟨_, _, rfl, upd_same, fun dx n ne => ⟨rfl, ?_⟩⟩
    rw [upd_ne ne] at n
    have z := q1 (hp.objs.size + 1) dx hn n ne
    have e1 : upd (upd (upd H1 (hp.objs.size + 1) (exo (hp.objs.size + 1) C none)) dx (exd dx [(f, y)])) (hp.objs.size + 1) (exo (hp.objs.size + 1) C (some dx)) = upd (upd H1 dx (exd dx [(f, y)])) (hp.objs.size + 1) (exo (hp.objs.size + 1) C (some dx)) := by
      funext b
      by_cases hb : b = hp.objs.size + 1
      · rw [hb, upd_same, upd_same]
      · rw [upd_ne hb, upd_ne hb]
        by_cases hd : b = dx
        · rw [hd, upd_same, upd_same]
        · rw [upd_ne hd, upd_ne hd, upd_ne hb]
    rw [e1]
    exact z
  have hl : [Value.ref (hp.objs.size + 1), u].length = ps.length := by
    have e := r2.length
    rw [F1.len _ _ _ _ hq] at e
    exact e.symm
  obtain ⟨bmN, hF⟩ := k.fN
  have hb' := hb _ [Value.ref (hp.objs.size + 1), u] I2.kIn (by rw [List.append_nil]; exact hl)
  rw [List.append_nil] at hb'
  refine wpAny_call (call_ hF hov (I1.kIn _ _ hC) (PySem.W.looks_findIn I1.kIn iC) (fun self => PySem.W.bind_fn I1.kIn self tI) (by show 1 ≤ sizeLine; rw [sizeLine_eq]; omega)
    (codeAny_mono (F1.run _ X.stack _ _ ⟨[Value.ref (hp.objs.size + 1), u], []⟩ [Value.ref (hp.objs.size + 1), u] _ _ (fun _ _ _ => False) (hr.make C [u] []) (I2.env0.make C [u] []) hb' r2 hq) fun r s' hq' => ?_))
  cases r with
  | error er => exact hx pins σ _ _ er s' I2 hq'
  | ok fl =>
    cases fl with
    | ret u =>
      obtain ⟨v, H', I3, rv, ev, q3⟩ := I2.after hq'
      subst ev
      exact ⟨rv, ⟨V.ref (hp.objs.size + 1), H', I3, rfl, q3⟩⟩
    | next => exact False.elim hq'
    | brk => exact False.elim hq'
    | cont => exact False.elim hq'
end
end LX

set_option Elab.async false
set_option linter.all false
set_option maxRecDepth 100000
set_option maxHeartbeats 1000000
/-! LD2: how values, the store, the environment stand in the abstract heap. -/
namespace LD
open PySem PySem.Spec PyProof.Rows L2

theorem line_eq : (LINE : Nat) = sizeLine := by rw [sizeLine_eq]; rfl

/-- a tuple: tracked with its object, or written; no dict of its own -/
def TupOk (K : PySem.W.Frag) (H : Hp) (a : Addr) (vs : List V) : Prop :=
  (∃ o : Obj, H a = some (.frz o (.tup vs)) ∧ o.dict = none) ∨
    ∃ (o : Obj) (its : Array Value) (n : Nat), K.lookup a = some o ∧ o.cls = .type "tuple" ∧ o.dict = none ∧ o.data = .seq its n ∧ its.size ≤ sizeLine ∧ Vals vs its.toList
theorem TupOk.seq {K : PySem.W.Frag} {H : Hp} {a : Addr} {vs : List V} (h : TupOk K H a vs) : SqT K H a vs := by
  rcases h with ⟨o, h, _⟩ | ⟨o, its, n, h1, h2, _, h3, h4, h5⟩
  · exact .inl (.inr ⟨o, h⟩)
  · exact .inr ⟨o, its, n, h1, h2, h3, h4, h5⟩
theorem TupOk.mono {K : PySem.W.Frag} {Γ Γ' : Hp} {a : Addr} {xs : List V} (e : Same Γ Γ') (h : TupOk K Γ a xs) : TupOk K Γ' a xs := by
  rcases h with ⟨o, h, hd⟩ | h
  · exact .inl ⟨o, e _ _ h, hd⟩
  · exact .inr h
section
variable (K : PySem.W.Frag) (ga : GA) (ms : List Addr) (Γ : Hp)
mutual
/-- v stands for the value d: what is not shared stands in Γ, or is written -/
def Rep : D → V → Prop
  | .non, v => v = .non
  | .bl b, v => v = .bl b
  | .int i, v => v = .int i
  | .str s, v => v = .str s ∧ s.length ≤ sizeLine
  | .tup xs, v => ∃ a vs, v = .ref a ∧ TupOk K Γ a vs ∧ xs.length ≤ sizeLine ∧ Reps xs vs
  | .lst xs, v => ∃ a vs, v = .ref a ∧ Γ a = some (.lst vs) ∧ xs.length ≤ sizeLine ∧ Reps xs vs
  | .dct kvs, v => ∃ a ks, v = .ref a ∧ Γ a = some (.dK ks) ∧ RepKV kvs ks
  | .ins c fs, v => ∃ a, v = .ref a ∧ ((fs = [] ∧ Γ a = some (ExO (.ref (ga c)) a)) ∨ ∃ dx ys, Γ a = some (exo a (ga c) (some dx)) ∧ Γ dx = some (exd dx ys) ∧ RepF fs ys)
  | .loc l, v => ∃ a, v = .ref a ∧ ms[l]? = some a
  | .ty n, v => v = .ty n
  | .glob x, v => v = .ref (ga x)
  | .scr ns, v => ∃ a, v = .ref a ∧ SqL K Γ a (ns.map V.int) ∧ ns.length ≤ sizeLine
def Reps : List D → List V → Prop
  | [], vs => vs = []
  | x :: xs, vs => ∃ v r, vs = v :: r ∧ Rep x v ∧ Reps xs r
def RepKV : List (D × D) → List (Key × V) → Prop
  | [], ks => ks = []
  | (k, x) :: kvs, ks => ∃ q v r, ks = (q, v) :: r ∧ keyD k = some q ∧ Rep x v ∧ RepKV kvs r
def RepF : List (Str × D) → List (Str × V) → Prop
  | [], ys => ys = []
  | (f, x) :: fs, ys => ∃ y r, ys = (f, y) :: r ∧ Rep x y ∧ RepF fs r
end
end

section
variable {K : PySem.W.Frag} {ga : GA} {ms ms' : List Addr} {Γ Γ' : Hp}
theorem pre_get {l : Nat} {a : Addr} (p : ms <+: ms') (h : ms[l]? = some a) : ms'[l]? = some a := by
  obtain ⟨t, rfl⟩ := p
  have hl : l < ms.length := (List.getElem?_eq_some_iff.mp h).1
  rw [List.getElem?_append_left hl]
  exact h
mutual
theorem Rep.mono (e : Same Γ Γ') (p : ms <+: ms') : ∀ (d : D) (v : V), Rep K ga ms Γ d v → Rep K ga ms' Γ' d v
  | .non, _, h => by unfold Rep at h ⊢; exact h
  | .bl _, _, h => by unfold Rep at h ⊢; exact h
  | .int _, _, h => by unfold Rep at h ⊢; exact h
  | .str _, _, h => by unfold Rep at h ⊢; exact h
  | .tup xs, v, h => by
    unfold Rep at h ⊢
    obtain ⟨a, vs, h1, h2, h3, h4⟩ := h
    exact ⟨a, vs, h1, h2.mono e, h3, Reps.mono e p xs vs h4⟩
  | .lst xs, v, h => by
    unfold Rep at h ⊢
    obtain ⟨a, vs, h1, h2, h3, h4⟩ := h
    exact ⟨a, vs, h1, e _ _ h2, h3, Reps.mono e p xs vs h4⟩
  | .dct kvs, v, h => by
    unfold Rep at h ⊢
    obtain ⟨a, ks, h1, h2, h3⟩ := h
    exact ⟨a, ks, h1, e _ _ h2, RepKV.mono e p kvs ks h3⟩
  | .ins c fs, v, h => by
    unfold Rep at h ⊢
    obtain ⟨a, h1, h2⟩ := h
    rcases h2 with ⟨h2, h3⟩ | ⟨dx, ys, h2, h3, h4⟩
    · exact ⟨a, h1, .inl ⟨h2, e _ _ h3⟩⟩
    · exact ⟨a, h1, .inr ⟨dx, ys, e _ _ h2, e _ _ h3, RepF.mono e p fs ys h4⟩⟩
  | .loc l, v, h => by
    unfold Rep at h ⊢
    obtain ⟨a, h1, h2⟩ := h
    exact ⟨a, h1, pre_get p h2⟩
  | .ty _, _, h => by unfold Rep at h ⊢; exact h
  | .glob _, _, h => by unfold Rep at h ⊢; exact h
  | .scr ns, v, h => by
    unfold Rep at h ⊢
    obtain ⟨a, h1, h2, h3⟩ := h
    exact ⟨a, h1, e.seq h2, h3⟩
theorem Reps.mono (e : Same Γ Γ') (p : ms <+: ms') : ∀ (ds : List D) (vs : List V), Reps K ga ms Γ ds vs → Reps K ga ms' Γ' ds vs
  | [], _, h => by unfold Reps at h ⊢; exact h
  | x :: xs, vs, h => by
    unfold Reps at h ⊢
    obtain ⟨v, r, h1, h2, h3⟩ := h
    exact ⟨v, r, h1, Rep.mono e p x v h2, Reps.mono e p xs r h3⟩
theorem RepKV.mono (e : Same Γ Γ') (p : ms <+: ms') : ∀ (kvs : List (D × D)) (ks : List (Key × V)), RepKV K ga ms Γ kvs ks → RepKV K ga ms' Γ' kvs ks
  | [], _, h => by unfold RepKV at h ⊢; exact h
  | (k, x) :: kvs, ks, h => by
    unfold RepKV at h ⊢
    obtain ⟨q, v, r, h1, h2, h3, h4⟩ := h
    exact ⟨q, v, r, h1, h2, Rep.mono e p x v h3, RepKV.mono e p kvs r h4⟩
theorem RepF.mono (e : Same Γ Γ') (p : ms <+: ms') : ∀ (fs : List (Str × D)) (ys : List (Str × V)), RepF K ga ms Γ fs ys → RepF K ga ms' Γ' fs ys
  | [], _, h => by unfold RepF at h ⊢; exact h
  | (f, x) :: fs, ys, h => by
    unfold RepF at h ⊢
    obtain ⟨y, r, h1, h2, h3⟩ := h
    exact ⟨y, r, h1, Rep.mono e p x y h2, RepF.mono e p fs r h3⟩
end
theorem Reps.length : ∀ {ds : List D} {vs : List V}, Reps K ga ms Γ ds vs → ds.length = vs.length
  | [], vs, h => by unfold Reps at h; subst h; rfl
  | x :: xs, vs, h => by
    unfold Reps at h
    obtain ⟨v, r, rfl, _, h3⟩ := h
    rw [List.length_cons, List.length_cons, h3.length]
theorem Reps.get : ∀ {ds : List D} {vs : List V} {i : Nat} {d : D}, Reps K ga ms Γ ds vs → ds[i]? = some d → ∃ v, vs[i]? = some v ∧ Rep K ga ms Γ d v
  | [], _, _, _, _, e => by simp at e
  | x :: xs, vs, 0, d, h, e => by
    unfold Reps at h
    obtain ⟨v, r, rfl, h2, _⟩ := h
    have e' : x = d := by simpa using e
    subst e'
    exact ⟨v, rfl, h2⟩
  | x :: xs, vs, i + 1, d, h, e => by
    unfold Reps at h
    obtain ⟨v, r, rfl, _, h3⟩ := h
    obtain ⟨u, h4, h5⟩ := h3.get (i := i) (d := d) (by simpa using e)
    exact ⟨u, by simpa using h4, h5⟩
theorem Reps.append : ∀ {as bs : List D} {vs us : List V}, Reps K ga ms Γ as vs → Reps K ga ms Γ bs us → Reps K ga ms Γ (as ++ bs) (vs ++ us)
  | [], bs, vs, us, h, h' => by unfold Reps at h; subst h; exact h'
  | x :: xs, bs, vs, us, h, h' => by
    unfold Reps at h
    obtain ⟨v, r, rfl, h2, h3⟩ := h
    show Reps K ga ms Γ (x :: (xs ++ bs)) (v :: (r ++ us))
    unfold Reps
    exact ⟨v, r ++ us, rfl, h2, h3.append h'⟩
theorem Reps.nil : Reps K ga ms Γ [] [] := by unfold Reps; rfl
theorem Reps.cons {d : D} {ds : List D} {v : V} {vs : List V} (h : Rep K ga ms Γ d v) (r : Reps K ga ms Γ ds vs) : Reps K ga ms Γ (d :: ds) (v :: vs) := by
  unfold Reps
  exact ⟨v, vs, rfl, h, r⟩
theorem Reps.set {d : D} {v : V} (h : Rep K ga ms Γ d v) : ∀ {ds : List D} {vs : List V} (i : Nat), Reps K ga ms Γ ds vs → Reps K ga ms Γ (ds.set i d) (vs.set i v)
  | [], vs, i, r => by unfold Reps at r; subst r; cases i <;> exact Reps.nil
  | x :: xs, vs, 0, r => by
    unfold Reps at r
    obtain ⟨w, s, rfl, _, h3⟩ := r
    exact Reps.cons h h3
  | x :: xs, vs, i + 1, r => by
    unfold Reps at r
    obtain ⟨w, s, rfl, h2, h3⟩ := r
    exact Reps.cons h2 (h3.set h i)
theorem Reps.cons_iff {d : D} {ds : List D} {vs : List V} (h : Reps K ga ms Γ (d :: ds) vs) : ∃ v r, vs = v :: r ∧ Rep K ga ms Γ d v ∧ Reps K ga ms Γ ds r := by
  unfold Reps at h
  exact h
theorem Reps.nil_iff {vs : List V} (h : Reps K ga ms Γ [] vs) : vs = [] := by
  unfold Reps at h
  exact h
theorem Reps.ints : ∀ ns : List Int, Reps K ga ms Γ (ns.map D.int) (ns.map V.int)
  | [] => Reps.nil
  | n :: ns => Reps.cons (by unfold Rep; rfl) (Reps.ints ns)
end

/-- a dict's object whose keys are tuples: es by the keys, their objects, the values -/
def DN (w : World) (a : Addr) (xs : List (NestedKey × Addr × Value)) (ep : Nat) (h : Heap) : Prop :=
  ∃ o es, h.get? a = some o ∧ o.ExactDict ∧ o.data = .dict es ep ∧ es.toList = xs.map fun x => (⟨x.1.hash w, .ref x.2.1, x.2.2⟩ : DictEntry)
def RepN (K : PySem.W.Frag) (ga : GA) (ms : List Addr) (Γ : Hp) : List (D × D) → List (NestedKey × Addr × Value) → Prop
  | [], xs => xs = []
  | (k, d) :: kvs, xs => ∃ q b u v r, xs = (q, b, u) :: r ∧ nkT k = some q ∧ Rep K ga ms Γ k (.ref b) ∧ RelV v u ∧ Rep K ga ms Γ d v ∧ RepN K ga ms Γ kvs r
theorem RepN.mono {K : PySem.W.Frag} {ga : GA} {ms ms' : List Addr} {Γ Γ' : Hp} (e : Same Γ Γ') (p : ms <+: ms') : ∀ {kvs : List (D × D)} {xs : List (NestedKey × Addr × Value)}, RepN K ga ms Γ kvs xs → RepN K ga ms' Γ' kvs xs
  | [], _, h => h
  | (k, d) :: kvs, xs, h => by
    obtain ⟨q, b, u, v, r, h1, h2, h3, h4, h5, h6⟩ := h
    exact ⟨q, b, u, v, r, h1, h2, h3.mono e p, h4, h5.mono e p, RepN.mono e p h6⟩
/-- a store object's abstract object -/
def SRep (K : PySem.W.Frag) (ga : GA) (ms : List Addr) (Γ : Hp) (H : Hp) (a : Addr) : SO → Prop
  | .lst xs => ∃ vs, H a = some (.lst vs) ∧ xs.length ≤ sizeLine ∧ Reps K ga ms Γ xs vs
  | .dct kvs => ∃ ks, H a = some (.dK ks) ∧ RepKV K ga ms Γ kvs ks
  | .dcn kvs => ∃ xs ep, H a = some (.ext (DN ga.w a xs ep)) ∧ kvs.length ≤ sizeLine ∧ (a == sysModules) = false ∧ RepN K ga ms Γ kvs xs ∧ (xs.map (·.1)).Nodup
  | .obj c fs => ∃ dx ys, H a = some (.ins (ga c) dx ys) ∧ fs.length ≤ 900 ∧ RepF K ga ms Γ fs ys
  | .lk kvs ep => ∃ xs, H a = some (.ext (DN ga.w a xs ep)) ∧ kvs.length ≤ sizeLine ∧ (a == sysModules) = false ∧ RepN K ga ms Γ kvs xs ∧ (xs.map (·.1)).Nodup
theorem SRep.mono {K : PySem.W.Frag} {ga : GA} {ms ms' : List Addr} {Γ Γ' H H' : Hp} {a : Addr} (e : Same Γ Γ') (p : ms <+: ms') (k : ∀ o, H a = some o → H' a = some o) : ∀ {so : SO}, SRep K ga ms Γ H a so → SRep K ga ms' Γ' H' a so
  | .lst xs, ⟨vs, z1, z2, z3⟩ => ⟨vs, k _ z1, z2, z3.mono e p⟩
  | .dct kvs, ⟨ks, z1, z3⟩ => ⟨ks, k _ z1, RepKV.mono e p _ _ z3⟩
  | .dcn kvs, ⟨xs, ep, z1, z2, z3, z4, z5⟩ => ⟨xs, ep, k _ z1, z2, z3, RepN.mono e p z4, z5⟩
  | .obj c fs, ⟨dx, ys, z1, z2, z3⟩ => ⟨dx, ys, k _ z1, z2, RepF.mono e p _ _ z3⟩
  | .lk kvs ep, ⟨xs, z1, z2, z3, z4, z5⟩ => ⟨xs, k _ z1, z2, z3, RepN.mono e p z4, z5⟩

/-- the store and the shared part stand in H -/
structure SI (K : PySem.W.Frag) (ga : GA) (ms : List Addr) (Γ : Hp) (μ : Store) (H : Hp) : Prop where
  sub : Same Γ H
  len : ms.length = μ.length
  st : ∀ (l : Nat) (o : SO) (a : Addr), μ[l]? = some o → ms[l]? = some a → SRep K ga ms Γ H a o
  fr : ∀ a ∈ ms, Γ a = none
  there : ∀ a ∈ ms, ∃ o, H a = some o
  nd : ms.Nodup

/-- from (ms, Γ, H) to (ms', Γ', μ', H'): only store objects changed; what is new in the shared part or the store is a new object -/
structure After (K : PySem.W.Frag) (ga : GA) (ms : List Addr) (Γ : Hp) (H : Hp) (ms' : List Addr) (Γ' : Hp) (μ' : Store) (H' : Hp) : Prop where
  si : SI K ga ms' Γ' μ' H'
  le : Same Γ Γ'
  pre : ms <+: ms'
  keep : ∀ a o, H a = some o → a ∉ ms → H' a = some o
  newm : ∀ a ∈ ms', a ∈ ms ∨ H a = none
  newg : ∀ a o, Γ' a = some o → Γ a = some o ∨ H a = none

section
variable {K : PySem.W.Frag} {ga : GA} {ms ms1 ms2 : List Addr} {Γ Γ1 Γ2 : Hp} {μ μ1 μ2 : Store} {H H1 H2 : Hp}
theorem After.refl (h : SI K ga ms Γ μ H) : After K ga ms Γ H ms Γ μ H := ⟨h, fun _ _ e => e, List.prefix_rfl, fun _ _ e _ => e, fun _ h => .inl h, fun _ _ e => .inl e⟩
theorem After.none_back (A : After K ga ms Γ H ms1 Γ1 μ1 H1) {a : Addr} (h : H1 a = none) (hm : a ∉ ms) : H a = none := by
  cases e : H a with
  | none => rfl
  | some o => rw [A.keep a o e hm] at h; cases h
theorem After.trans (A : After K ga ms Γ H ms1 Γ1 μ1 H1) (B : After K ga ms1 Γ1 H1 ms2 Γ2 μ2 H2) : After K ga ms Γ H ms2 Γ2 μ2 H2 where
  si := B.si
  le := A.le.trans B.le
  pre := A.pre.trans B.pre
  keep := fun a o e hm => B.keep a o (A.keep a o e hm) fun h1 => by
    rcases A.newm a h1 with h | h
    · exact hm h
    · rw [e] at h; cases h
  newm := fun a h2 => by
    rcases B.newm a h2 with h | h
    · exact A.newm a h
    · by_cases hm : a ∈ ms
      · exact .inl hm
      · exact .inr (A.none_back h hm)
  newg := fun a o e => by
    rcases B.newg a o e with h | h
    · exact A.newg a o h
    · by_cases hm : a ∈ ms
      · have hm2 : a ∈ ms2 := (A.pre.trans B.pre).subset hm
        rw [B.si.fr a hm2] at e; cases e
      · exact .inr (A.none_back h hm)
/-- a new shared object -/
theorem After.lay (h : SI K ga ms Γ μ H) {p : Addr} {o : HO} (hp : H p = none) : After K ga ms Γ H ms (upd Γ p o) μ (upd H p o) := by
  have hΓ : Γ p = none := by
    cases e : Γ p with
    | none => rfl
    | some u => rw [h.sub _ _ e] at hp; cases hp
  have hpm : p ∉ ms := fun hm => by
    obtain ⟨u, e⟩ := h.there p hm
    rw [hp] at e; cases e
  have le : Same Γ (upd Γ p o) := fun a u e => by rw [upd_ne (ne_of_none e hΓ)]; exact e
  have keep : ∀ a u, H a = some u → upd H p o a = some u := fun a u e => by rw [upd_ne (ne_of_none e hp)]; exact e
  refine ⟨⟨fun a u e => ?_, h.len, fun l so a e1 e2 => ?_, fun a ha => ?_, fun a ha => ?_, h.nd⟩, le, List.prefix_rfl, fun a u e _ => keep a u e, fun _ h => .inl h, fun a u e => ?_⟩
  · by_cases q : a = p
    · subst q; rw [upd_same] at e ⊢; exact e
    · rw [upd_ne q] at e ⊢; exact h.sub _ _ e
  · have z := h.st l so a e1 e2
    exact SRep.mono le List.prefix_rfl (fun o => keep _ o) z
  · rw [upd_ne (fun q : a = p => hpm (by rw [← q]; exact ha))]; exact h.fr a ha
  · obtain ⟨u, e⟩ := h.there a ha
    exact ⟨u, keep a u e⟩
  · by_cases q : a = p
    · subst q; exact .inr hp
    · rw [upd_ne q] at e; exact .inl e
/-- an object of the abstract heap that nobody shares (a local's own list): laid, not shared -/
theorem After.layOwn (h : SI K ga ms Γ μ H) {p : Addr} {o : HO} (hp : H p = none) : After K ga ms Γ H ms Γ μ (upd H p o) := by
  have keep : ∀ a u, H a = some u → upd H p o a = some u := fun a u e => by rw [upd_ne (ne_of_none e hp)]; exact e
  refine ⟨⟨fun a u e => keep a u (h.sub _ _ e), h.len, fun l so a e1 e2 => ?_, h.fr, fun a ha => ?_, h.nd⟩, fun _ _ e => e, List.prefix_rfl, fun a u e _ => keep a u e, fun _ h => .inl h, fun a u e => .inl e⟩
  · have z := h.st l so a e1 e2
    exact SRep.mono (fun _ _ e => e) List.prefix_rfl (fun o => keep _ o) z
  · obtain ⟨u, e⟩ := h.there a ha
    exact ⟨u, keep a u e⟩
/-- .. an own list is given away: it is shared from now on -/
theorem SI.share (h : SI K ga ms Γ μ H) {p : Addr} {o : HO} (hp : H p = some o) (hΓ : Γ p = none) (hm : p ∉ ms) : SI K ga ms (upd Γ p o) μ H := by
  have le : Same Γ (upd Γ p o) := fun a u e => by rw [upd_ne (ne_of_none e hΓ)]; exact e
  refine ⟨fun a u e => ?_, h.len, fun l so a e1 e2 => ?_, fun a ha => ?_, h.there, h.nd⟩
  · by_cases q : a = p
    · subst q; rw [upd_same] at e; rw [hp]; exact e
    · rw [upd_ne q] at e; exact h.sub _ _ e
  · have z := h.st l so a e1 e2
    exact SRep.mono le List.prefix_rfl (fun _ e => e) z
  · rw [upd_ne (fun q : a = p => hm (by rw [← q]; exact ha))]; exact h.fr a ha
/-- .. an own object becomes an object of the store -/
theorem SI.storeS (h : SI K ga ms Γ μ H) {p : Addr} {o : HO} {so : SO} (hp : H p = some o) (hΓ : Γ p = none) (hm : p ∉ ms) (r : SRep K ga ms Γ H p so) : SI K ga (ms ++ [p]) Γ (μ ++ [so]) H := by
  have pre : ms <+: ms ++ [p] := List.prefix_append _ _
  refine ⟨h.sub, by rw [List.length_append, List.length_append, h.len]; rfl, fun l so' a e1 e2 => ?_, fun a ha => ?_, fun a ha => ?_, ?_⟩
  · by_cases q : l < ms.length
    · rw [List.getElem?_append_left (by rw [← h.len]; exact q)] at e1
      rw [List.getElem?_append_left q] at e2
      exact SRep.mono (fun _ _ e => e) pre (fun _ e => e) (h.st l so' a e1 e2)
    · rw [List.getElem?_append_right (Nat.le_of_not_lt q)] at e2
      rw [List.getElem?_append_right (by rw [← h.len]; exact Nat.le_of_not_lt q)] at e1
      have q1 : l - ms.length = 0 := by
        cases e : l - ms.length with
        | zero => rfl
        | succ n => rw [e] at e2; simp at e2
      rw [q1] at e2
      rw [← h.len, q1] at e1
      have e2 : p = a := by simpa using e2
      have e1 : so = so' := by simpa using e1
      subst e2 e1
      exact SRep.mono (fun _ _ e => e) pre (fun _ e => e) r
  · rcases List.mem_append.mp ha with ha | ha
    · exact h.fr a ha
    · have e : a = p := by simpa using ha
      rw [e]; exact hΓ
  · rcases List.mem_append.mp ha with ha | ha
    · exact h.there a ha
    · have e : a = p := by simpa using ha
      rw [e]; exact ⟨_, hp⟩
  · rw [List.nodup_append]
    refine ⟨h.nd, by simp, fun a ha b hb e => ?_⟩
    have q : b = p := by simpa using hb
    subst e
    exact hm (q ▸ ha)
/-- a new object of the store -/
theorem After.newS (h : SI K ga ms Γ μ H) {p : Addr} {o : HO} {so : SO} (hp : H p = none) (r : SRep K ga ms Γ (upd H p o) p so) : After K ga ms Γ H (ms ++ [p]) Γ (μ ++ [so]) (upd H p o) ∧ Rep K ga (ms ++ [p]) Γ (.loc μ.length) (.ref p) := by
  have hpm : p ∉ ms := fun hm => by
    obtain ⟨u, e⟩ := h.there p hm
    rw [hp] at e; cases e
  have hΓ : Γ p = none := by
    cases e : Γ p with
    | none => rfl
    | some u => rw [h.sub _ _ e] at hp; cases hp
  have A0 := After.layOwn (o := o) h hp
  have S3 := SI.storeS A0.si upd_same hΓ hpm r
  refine ⟨⟨S3, A0.le, List.prefix_append _ _, A0.keep, fun a ha => ?_, A0.newg⟩, ?_⟩
  · rcases List.mem_append.mp ha with ha | ha
    · exact .inl ha
    · have e : a = p := by simpa using ha
      rw [e]; exact .inr hp
  · unfold Rep
    refine ⟨p, rfl, ?_⟩
    rw [← h.len, List.getElem?_append_right (Nat.le_refl _), Nat.sub_self]
    rfl
/-- an object of the store is changed -/
theorem After.putS (h : SI K ga ms Γ μ H) {l : Nat} {p : Addr} {o : HO} {so so' : SO} (hl : μ[l]? = some so) (hp : ms[l]? = some p) (r : SRep K ga ms Γ (upd H p o) p so') :
    After K ga ms Γ H ms Γ (μ.set l so') (upd H p o) := by
  have hpm : p ∈ ms := List.mem_of_getElem? hp
  have ne : ∀ a u, Γ a = some u → a ≠ p := fun a u e q => by subst q; rw [h.fr _ hpm] at e; cases e
  refine ⟨⟨fun a u e => by rw [upd_ne (ne a u e)]; exact h.sub _ _ e, by rw [List.length_set]; exact h.len, fun j so2 a e1 e2 => ?_, h.fr, fun a ha => ?_, h.nd⟩, fun _ _ e => e, List.prefix_rfl, fun a u e hm => by rw [upd_ne (fun q : a = p => hm (by rw [q]; exact hpm))]; exact e, fun _ h => .inl h, fun a u e => .inl e⟩
  · by_cases q : j = l
    · subst q
      rw [hp] at e2
      have e2 : p = a := Option.some.inj e2
      subst e2
      have hj : j < μ.length := (List.getElem?_eq_some_iff.mp hl).1
      rw [List.getElem?_set_self hj] at e1
      have e1 : so' = so2 := Option.some.inj e1
      subst e1
      exact r
    · rw [List.getElem?_set_ne (Ne.symm q)] at e1
      have na : a ≠ p := fun e => by
        subst e
        exact q ((List.getElem?_inj (List.getElem?_eq_some_iff.mp e2).1 h.nd).mp (e2.trans hp.symm))
      exact SRep.mono (fun _ _ e => e) List.prefix_rfl (fun o e => by rw [upd_ne na]; exact e) (h.st j so2 a e1 e2)
  · by_cases q : a = p
    · subst q; exact ⟨_, upd_same⟩
    · obtain ⟨u, e⟩ := h.there a ha
      exact ⟨u, by rw [upd_ne q]; exact e⟩
/-- .. an own list becomes an object of the store -/
theorem SI.store (h : SI K ga ms Γ μ H) {p : Addr} {vs : List V} {xs : List D} (hp : H p = some (.lst vs)) (hΓ : Γ p = none) (hm : p ∉ ms) (hl : xs.length ≤ sizeLine) (r : Reps K ga ms Γ xs vs) : SI K ga (ms ++ [p]) Γ (μ ++ [.lst xs]) H := by
  have pre : ms <+: ms ++ [p] := List.prefix_append _ _
  refine ⟨h.sub, by rw [List.length_append, List.length_append, h.len]; rfl, fun l so a e1 e2 => ?_, fun a ha => ?_, fun a ha => ?_, ?_⟩
  · by_cases q : l < ms.length
    · rw [List.getElem?_append_left (by rw [← h.len]; exact q)] at e1
      rw [List.getElem?_append_left q] at e2
      have z := h.st l so a e1 e2
      exact SRep.mono (fun _ _ e => e) pre (fun _ e => e) z
    · have e2' := e2
      rw [List.getElem?_append_right (Nat.le_of_not_lt q)] at e2
      rw [List.getElem?_append_right (by rw [← h.len]; exact Nat.le_of_not_lt q)] at e1
      have q1 : l - ms.length = 0 := by
        cases e : l - ms.length with
        | zero => rfl
        | succ n => rw [e] at e2; simp at e2
      rw [q1] at e2
      rw [← h.len, q1] at e1
      have e2 : p = a := by simpa using e2
      have e1 : SO.lst xs = so := by simpa using e1
      subst e2 e1
      exact ⟨vs, hp, hl, r.mono (fun _ _ e => e) pre⟩
  · rcases List.mem_append.mp ha with ha | ha
    · exact h.fr a ha
    · have e : a = p := by simpa using ha
      rw [e]; exact hΓ
  · rcases List.mem_append.mp ha with ha | ha
    · exact h.there a ha
    · have e : a = p := by simpa using ha
      rw [e]; exact ⟨_, hp⟩
  · rw [List.nodup_append]
    refine ⟨h.nd, by simp, fun a ha b hb e => ?_⟩
    have q : b = p := by simpa using hb
    subst e
    exact hm (q ▸ ha)
/-- a dict becomes an object of the store -/
theorem SI.storeD (h : SI K ga ms Γ μ H) {p : Addr} {ks : List (Key × V)} {kvs : List (D × D)} (hp : H p = some (.dK ks)) (hΓ : Γ p = none) (hm : p ∉ ms) (r : RepKV K ga ms Γ kvs ks) : SI K ga (ms ++ [p]) Γ (μ ++ [.dct kvs]) H := by
  have pre : ms <+: ms ++ [p] := List.prefix_append _ _
  refine ⟨h.sub, by rw [List.length_append, List.length_append, h.len]; rfl, fun l so a e1 e2 => ?_, fun a ha => ?_, fun a ha => ?_, ?_⟩
  · by_cases q : l < ms.length
    · rw [List.getElem?_append_left (by rw [← h.len]; exact q)] at e1
      rw [List.getElem?_append_left q] at e2
      have z := h.st l so a e1 e2
      exact SRep.mono (fun _ _ e => e) pre (fun _ e => e) z
    · have e2' := e2
      rw [List.getElem?_append_right (Nat.le_of_not_lt q)] at e2
      rw [List.getElem?_append_right (by rw [← h.len]; exact Nat.le_of_not_lt q)] at e1
      have q1 : l - ms.length = 0 := by
        cases e : l - ms.length with
        | zero => rfl
        | succ n => rw [e] at e2; simp at e2
      rw [q1] at e2
      rw [← h.len, q1] at e1
      have e2 : p = a := by simpa using e2
      have e1 : SO.dct kvs = so := by simpa using e1
      subst e2 e1
      exact ⟨ks, hp, RepKV.mono (fun _ _ e => e) pre _ _ r⟩
  · rcases List.mem_append.mp ha with ha | ha
    · exact h.fr a ha
    · have e : a = p := by simpa using ha
      rw [e]; exact hΓ
  · rcases List.mem_append.mp ha with ha | ha
    · exact h.there a ha
    · have e : a = p := by simpa using ha
      rw [e]; exact ⟨_, hp⟩
  · rw [List.nodup_append]
    refine ⟨h.nd, by simp, fun a ha b hb e => ?_⟩
    have q : b = p := by simpa using hb
    subst e
    exact hm (q ▸ ha)
/-- a store list is changed -/
theorem After.put (h : SI K ga ms Γ μ H) {l : Nat} {p : Addr} {vs : List V} {xs : List D} {so : SO} (hl : μ[l]? = some so) (hp : ms[l]? = some p) (hn : xs.length ≤ sizeLine) (r : Reps K ga ms Γ xs vs) :
    After K ga ms Γ H ms Γ (μ.set l (.lst xs)) (upd H p (.lst vs)) := by
  have hpm : p ∈ ms := List.mem_of_getElem? hp
  have ne : ∀ a u, Γ a = some u → a ≠ p := fun a u e q => by subst q; rw [h.fr _ hpm] at e; cases e
  refine ⟨⟨fun a u e => by rw [upd_ne (ne a u e)]; exact h.sub _ _ e, by rw [List.length_set]; exact h.len, fun j so' a e1 e2 => ?_, h.fr, fun a ha => ?_, h.nd⟩, fun _ _ e => e, List.prefix_rfl, fun a u e hm => by rw [upd_ne (fun q : a = p => hm (by rw [q]; exact hpm))]; exact e, fun _ h => .inl h, fun a u e => .inl e⟩
  · by_cases q : j = l
    · subst q
      rw [hp] at e2
      have e2 : p = a := Option.some.inj e2
      subst e2
      have hj : j < μ.length := (List.getElem?_eq_some_iff.mp hl).1
      rw [List.getElem?_set_self hj] at e1
      have e1 : SO.lst xs = so' := Option.some.inj e1
      subst e1
      exact ⟨vs, upd_same, hn, r⟩
    · rw [List.getElem?_set_ne (Ne.symm q)] at e1
      have z := h.st j so' a e1 e2
      have na : a ≠ p := fun e => by
        subst e
        exact q ((List.getElem?_inj (List.getElem?_eq_some_iff.mp e2).1 h.nd).mp (e2.trans hp.symm))
      exact SRep.mono (fun _ _ e => e) List.prefix_rfl (fun o e => by rw [upd_ne na]; exact e) z
  · by_cases q : a = p
    · subst q; exact ⟨_, upd_same⟩
    · obtain ⟨u, e⟩ := h.there a ha
      exact ⟨u, by rw [upd_ne q]; exact e⟩
/-- a store dict is changed -/
theorem After.putD (h : SI K ga ms Γ μ H) {l : Nat} {p : Addr} {ks : List (Key × V)} {kvs : List (D × D)} {so : SO} (hl : μ[l]? = some so) (hp : ms[l]? = some p) (r : RepKV K ga ms Γ kvs ks) :
    After K ga ms Γ H ms Γ (μ.set l (.dct kvs)) (upd H p (.dK ks)) := by
  have hpm : p ∈ ms := List.mem_of_getElem? hp
  have ne : ∀ a u, Γ a = some u → a ≠ p := fun a u e q => by subst q; rw [h.fr _ hpm] at e; cases e
  refine ⟨⟨fun a u e => by rw [upd_ne (ne a u e)]; exact h.sub _ _ e, by rw [List.length_set]; exact h.len, fun j so' a e1 e2 => ?_, h.fr, fun a ha => ?_, h.nd⟩, fun _ _ e => e, List.prefix_rfl, fun a u e hm => by rw [upd_ne (fun q : a = p => hm (by rw [q]; exact hpm))]; exact e, fun _ h => .inl h, fun a u e => .inl e⟩
  · by_cases q : j = l
    · subst q
      rw [hp] at e2
      have e2 : p = a := Option.some.inj e2
      subst e2
      have hj : j < μ.length := (List.getElem?_eq_some_iff.mp hl).1
      rw [List.getElem?_set_self hj] at e1
      have e1 : SO.dct kvs = so' := Option.some.inj e1
      subst e1
      exact ⟨ks, upd_same, r⟩
    · rw [List.getElem?_set_ne (Ne.symm q)] at e1
      have z := h.st j so' a e1 e2
      have na : a ≠ p := fun e => by
        subst e
        exact q ((List.getElem?_inj (List.getElem?_eq_some_iff.mp e2).1 h.nd).mp (e2.trans hp.symm))
      exact SRep.mono (fun _ _ e => e) List.prefix_rfl (fun o e => by rw [upd_ne na]; exact e) z
  · by_cases q : a = p
    · subst q; exact ⟨_, upd_same⟩
    · obtain ⟨u, e⟩ := h.there a ha
      exact ⟨u, by rw [upd_ne q]; exact e⟩
end

/-! ### the environment -/
def SlotRep (K : PySem.W.Frag) (ga : GA) (ms : List Addr) (Γ : Hp) (H : Hp) : Slot → Option V → Prop
  | .no, _ => True
  | .val d, ov => ∃ v, ov = some v ∧ Rep K ga ms Γ d v
  | .own xs, ov => ∃ a vs, ov = some (.ref a) ∧ H a = some (.lst vs) ∧ Γ a = none ∧ a ∉ ms ∧ xs.length ≤ sizeLine ∧ Reps K ga ms Γ xs vs
structure ER (K : PySem.W.Frag) (ga : GA) (ms : List Addr) (Γ : Hp) (H : Hp) (ρ : Env) (σ : L2.St) : Prop where
  len : ρ.length = σ.length
  at_ : ∀ (i : Nat) (s : Slot) (ov : Option V), ρ[i]? = some s → σ[i]? = some ov → SlotRep K ga ms Γ H s ov
  sep : ∀ (i j : Nat) (xs ys : List D) (a b : Addr), i ≠ j → ρ[i]? = some (.own xs) → ρ[j]? = some (.own ys) → σ[i]? = some (some (.ref a)) → σ[j]? = some (some (.ref b)) → a ≠ b
section
variable {K : PySem.W.Frag} {ga : GA} {ms ms1 ms2 : List Addr} {Γ Γ1 Γ2 : Hp} {μ μ1 μ2 : Store} {H H1 H2 : Hp} {ρ : Env} {σ : L2.St}
theorem ER.mono (R : ER K ga ms Γ H ρ σ) (A : After K ga ms Γ H ms1 Γ1 μ1 H1) : ER K ga ms1 Γ1 H1 ρ σ := by
  refine ⟨R.len, fun i s ov e1 e2 => ?_, R.sep⟩
  have z := R.at_ i s ov e1 e2
  cases s with
  | no => trivial
  | val d =>
    obtain ⟨v, z1, z2⟩ := z
    exact ⟨v, z1, z2.mono A.le A.pre⟩
  | own xs =>
    obtain ⟨a, vs, z1, z2, z3, z4, z5, z6⟩ := z
    refine ⟨a, vs, z1, A.keep _ _ z2 z4, ?_, fun hm => ?_, z5, z6.mono A.le A.pre⟩
    · cases e : Γ1 a with
      | none => rfl
      | some o =>
        rcases A.newg a o e with q | q
        · rw [z3] at q; cases q
        · rw [z2] at q; cases q
    · rcases A.newm a hm with q | q
      · exact z4 q
      · rw [z2] at q; cases q
theorem ER.get (R : ER K ga ms Γ H ρ σ) {i : Nat} {d : D} (h : ρ.get i = some d) : ∃ v, σ[i]? = some (some v) ∧ Rep K ga ms Γ d v := by
  unfold Env.get at h
  cases e : ρ[i]? with
  | none => rw [e] at h; cases h
  | some s =>
    rw [e] at h
    cases s with
    | val d' =>
      have h : d' = d := Option.some.inj h
      subst h
      have hi : i < σ.length := by rw [← R.len]; exact (List.getElem?_eq_some_iff.mp e).1
      obtain ⟨v, z1, z2⟩ := R.at_ i _ _ e (List.getElem?_eq_getElem hi)
      exact ⟨v, by rw [List.getElem?_eq_getElem hi, z1], z2⟩
    | no => cases h
    | own xs => cases h
theorem ER.own (R : ER K ga ms Γ H ρ σ) {i : Nat} {xs : List D} (e : ρ[i]? = some (.own xs)) :
    ∃ a vs, σ[i]? = some (some (.ref a)) ∧ H a = some (.lst vs) ∧ Γ a = none ∧ a ∉ ms ∧ xs.length ≤ sizeLine ∧ Reps K ga ms Γ xs vs := by
  have hi : i < σ.length := by rw [← R.len]; exact (List.getElem?_eq_some_iff.mp e).1
  obtain ⟨a, vs, z1, z⟩ := R.at_ i _ _ e (List.getElem?_eq_getElem hi)
  exact ⟨a, vs, by rw [List.getElem?_eq_getElem hi, z1], z⟩
/-- a value is stored at a slot -/
theorem ER.put (R : ER K ga ms Γ H ρ σ) {i : Nat} {d : D} {v : V} (h : Rep K ga ms Γ d v) : ER K ga ms Γ H (ρ.set i (.val d)) (σ.set i (some v)) := by
  refine ⟨by rw [List.length_set, List.length_set]; exact R.len, fun j s ov e1 e2 => ?_, fun j k xs ys a b ne e1 e2 e3 e4 => ?_⟩
  · by_cases q : i = j
    · subst q
      have hi : i < ρ.length := by have := (List.getElem?_eq_some_iff.mp e1).1; rwa [List.length_set] at this
      have hi2 : i < σ.length := by rw [← R.len]; exact hi
      rw [List.getElem?_set_self hi] at e1
      rw [List.getElem?_set_self hi2] at e2
      cases e1; cases e2
      exact ⟨v, rfl, h⟩
    · rw [List.getElem?_set_ne q] at e1 e2
      exact R.at_ j s ov e1 e2
  · have hj : i ≠ j := fun q => by
      subst q
      have hi : i < ρ.length := by have := (List.getElem?_eq_some_iff.mp e1).1; rwa [List.length_set] at this
      rw [List.getElem?_set_self hi] at e1; cases e1
    have hk : i ≠ k := fun q => by
      subst q
      have hi : i < ρ.length := by have := (List.getElem?_eq_some_iff.mp e2).1; rwa [List.length_set] at this
      rw [List.getElem?_set_self hi] at e2; cases e2
    rw [List.getElem?_set_ne hj] at e1 e3
    rw [List.getElem?_set_ne hk] at e2 e4
    exact R.sep j k xs ys a b ne e1 e2 e3 e4
/-- an own list is stored at a slot: it stands at an address that no own slot has -/
theorem ER.putOwn (R : ER K ga ms Γ H ρ σ) {i : Nat} {xs : List D} {p : Addr} {vs : List V} (h1 : H p = some (.lst vs)) (h2 : Γ p = none) (h3 : p ∉ ms) (h4 : xs.length ≤ sizeLine) (h5 : Reps K ga ms Γ xs vs)
    (hd : ∀ (j : Nat) (ys : List D) (b : Addr), j ≠ i → ρ[j]? = some (.own ys) → σ[j]? = some (some (.ref b)) → b ≠ p) : ER K ga ms Γ H (ρ.set i (.own xs)) (σ.set i (some (.ref p))) := by
  refine ⟨by rw [List.length_set, List.length_set]; exact R.len, fun j s ov e1 e2 => ?_, fun j k xs' ys a b ne e1 e2 e3 e4 => ?_⟩
  · by_cases q : i = j
    · subst q
      have hi : i < ρ.length := by have := (List.getElem?_eq_some_iff.mp e1).1; rwa [List.length_set] at this
      have hi2 : i < σ.length := by rw [← R.len]; exact hi
      rw [List.getElem?_set_self hi] at e1
      rw [List.getElem?_set_self hi2] at e2
      cases e1; cases e2
      exact ⟨p, vs, rfl, h1, h2, h3, h4, h5⟩
    · rw [List.getElem?_set_ne q] at e1 e2
      exact R.at_ j s ov e1 e2
  · by_cases hj : i = j
    · subst hj
      have hi : i < ρ.length := by have := (List.getElem?_eq_some_iff.mp e1).1; rwa [List.length_set] at this
      have hi2 : i < σ.length := by rw [← R.len]; exact hi
      rw [List.getElem?_set_self hi2] at e3
      rw [List.getElem?_set_ne ne] at e2 e4
      have e3 : p = a := by simpa using e3
      subst e3
      exact (hd k ys b ne.symm e2 e4).symm
    · rw [List.getElem?_set_ne hj] at e1 e3
      by_cases hk : i = k
      · subst hk
        have hi : i < ρ.length := by have := (List.getElem?_eq_some_iff.mp e2).1; rwa [List.length_set] at this
        have hi2 : i < σ.length := by rw [← R.len]; exact hi
        rw [List.getElem?_set_self hi2] at e4
        have e4 : p = b := by simpa using e4
        subst e4
        exact hd j xs' a (Ne.symm hj) e1 e3
      · rw [List.getElem?_set_ne hk] at e2 e4
        exact R.sep j k xs' ys a b ne e1 e2 e3 e4
end
end LD

set_option Elab.async false
set_option linter.all false
set_option maxRecDepth 100000
set_option maxHeartbeats 1000000
/-! LD3: rules of the hand layer once more, with a new tuple's object told (it has no dict of its own). -/
namespace LD
open PySem PySem.Spec PyProof.Rows L2 HT
section
variable {X : Cx} {es : List Expr} {t : TA} {pos : Pos}
/-- a new tuple at p, with its object -/
def NewT (H : Hp) (vs : List V) (Q : VK) : Prop := ∀ (p : Addr) (o : Obj), H p = none → o.dict = none → Q (.ref p) (upd H p (.frz o (.tup vs)))
def tTupF (t : TA) : TE := fun σ H Q => t σ H fun xs H1 => xs.length ≤ sizeLine ∧ NewT H1 xs Q
theorem pe_tupF {x1} (h : PA X es t) : PE X (.Tuple es x1 pos) (tTupF t) := by
  refine ⟨fun pins s σ H Q I hq => ?_⟩
  refine wpAny_Tuple_spliced (thn (h.run pos pins s σ H _ I hq) fun us s1 ⟨xs, H1, I1, r, z, q⟩ => ⟨by rw [← r.length]; exact z, ?_⟩)
  have hf : H1 s1.heap.objs.size = none := I1.hok.fresh (Nat.le_refl _)
  refine ⟨.ref s1.heap.objs.size, upd H1 s1.heap.objs.size (.frz { cls := .type "tuple", data := .seq us.toArray } (.tup xs)), I1.laid (t' := s1.toks) (fun b u e => Heap.get?_push_of_some _ e) (Nat.le_refl _) ?_, rfl, q _ _ hf rfl⟩
  exact ⟨Heap.get?_push_size _ rfl, z, us, r, ⟨_, Heap.get?_push_size _ rfl, rfl, _, rfl⟩⟩
theorem call_tuple_ofF : CallR X (.type "tuple") (fun xs H Q => ∃ p ys, xs = [.ref p] ∧ ((SqL X.K H p ys ∧ NewT H ys Q) ∨ (SqT X.K H p ys ∧ Q (.ref p) H))) := by
  intro pins s σ H xs us Q I r h
  obtain ⟨p, ys, rfl, h⟩ := h
  obtain ⟨u, rfl, rx⟩ := vals1 r
  cases rx
  rcases h with ⟨hq, q⟩ | ⟨hq, q⟩
  · obtain ⟨its, r', pl, hz⟩ := I.list hq
    have hlen := r'.length
    refine call_tuple_list pl.isList (fun h' kp => ?_) (by simp only [List.size_toArray] <;> omega)
    have I1 : Inv X pins σ H { s with heap := h' } := I.kept (t' := s.toks) kp
    have I2 : Inv X pins σ (upd H h'.objs.size (.frz { cls := .type "tuple", data := .seq its.toArray } (.tup ys))) { s with heap := h'.push { cls := .type "tuple", data := .seq its.toArray } } :=
      I1.laid (t' := s.toks) (fun b o e => Heap.get?_push_of_some _ e) (Nat.le_refl _) (show ObjOk X.prog X.w _ _ _ (.frz _ (.tup ys)) from ⟨Heap.get?_push_size _ rfl, hz, its, r', IsTup.new _ _⟩)
    exact ⟨.ref h'.objs.size, _, I2, rfl, q _ _ (I1.hok.fresh (Nat.le_refl _)) rfl⟩
  · obtain ⟨its, r', pl, hz⟩ := I.tuple hq
    exact call_tuple_same pl ⟨.ref p, H, I, rfl, q⟩
def rCatF (K : PySem.W.Frag) : R2 := fun x y H Q => ∃ a b xs ys, x = .ref a ∧ y = .ref b ∧ SqT K H a xs ∧ SqT K H b ys ∧ xs.length + ys.length ≤ sizeLine ∧
  (xs = [] → Q (.ref b) H) ∧ (xs ≠ [] → ys = [] → Q (.ref a) H) ∧ (xs ≠ [] → ys ≠ [] → NewT H (xs ++ ys) Q)
theorem op_catF : OpR X (binaryOp .Add) (rCatF X.K) := by
  intro pins s σ H x y v u Q I rx ry h
  obtain ⟨a, b, xs, ys, rfl, rfl, ha, hb, hz, q0, q1, q2⟩ := h
  by_cases hx : xs = []
  · subst hx
    cases rx
    cases ry
    obtain ⟨its, r1, p1, _⟩ := I.tuple ha
    obtain ⟨its2, r2, p2, _⟩ := I.tuple hb
    cases r1
    exact cat_tup0 p1 p2 ⟨.ref b, H, I, rfl, q0 rfl⟩
  · cases rx
    cases ry
    obtain ⟨its, r1, p1, _⟩ := I.tuple ha
    obtain ⟨its2, r2, p2, _⟩ := I.tuple hb
    refine HT.cat_tup p1 p2 (fun z => hx (r1.nil_iff.mp z)) (fun z => ⟨.ref a, H, I, rfl, q1 hx (r2.nil_iff.mp z)⟩) (fun z => ?_) (by rw [← r1.length, ← r2.length]; exact hz)
    refine ⟨.ref s.heap.objs.size, _, I.laid (t' := s.toks) (o := .frz { cls := .type "tuple", data := .seq (its ++ its2).toArray } (.tup (xs ++ ys))) (fun b ob q => Heap.get?_push_of_some _ q) (Nat.le_refl _) ?_, rfl, q2 hx (fun w => z (r2.nil_iff.mpr w)) _ _ (I.hok.fresh (Nat.le_refl _)) rfl⟩
    exact ⟨Heap.get?_push_size _ rfl, by rw [List.length_append]; exact hz, _, r1.append r2, IsTup.new _ _⟩
def rSlF (K : PySem.W.Frag) : V → Option Int → Option Int → Hp → VK → Prop := fun x lo hi H Q => ∃ a xs, x = .ref a ∧ SqT K H a xs ∧
  (HT.sIx xs.length 0 lo = 0 ∧ HT.sIx xs.length xs.length hi = xs.length → Q (.ref a) H) ∧ (¬ (HT.sIx xs.length 0 lo = 0 ∧ HT.sIx xs.length xs.length hi = xs.length) → NewT H (cutV xs lo hi) Q)
theorem sl_tupF : SlR X (rSlF X.K) := by
  intro pins s σ H x v vl vu lo hi sl Q I rx hs pl pu h
  obtain ⟨a, xs, rfl, hx, q1, q2⟩ := h
  cases rx
  obtain ⟨its, r, ht, hz⟩ := I.tuple hx
  have hlen : its.toArray.size = xs.length := by rw [List.size_toArray]; exact r.length.symm
  refine ⟨"tuple", _, PyProof.Rows.slot_tuple_getitem.lookup, ht.typeIs, ?_⟩
  by_cases hw : HT.sIx xs.length 0 lo = 0 ∧ HT.sIx xs.length xs.length hi = xs.length
  · exact getItem_tuple_whole ht hs pl pu (by rw [hlen]; exact hw) ⟨.ref a, H, I, rfl, q1 hw⟩
  · refine HT.getItem_tuple_cut ht hs pl pu (by rw [hlen]; exact hw) ?_ (by rw [hlen]; exact hz)
    rw [hlen]
    refine ⟨.ref s.heap.objs.size, _, I.laid (t' := s.toks) (o := .frz { cls := .type "tuple", data := .seq (List.take (sIx xs.length xs.length hi - sIx xs.length 0 lo) (List.drop (sIx xs.length 0 lo) its.toArray.toList)).toArray } (.tup (cutV xs lo hi))) (fun b ob q => Heap.get?_push_of_some _ q) (Nat.le_refl _) ?_, rfl, q2 hw _ _ (I.hok.fresh (Nat.le_refl _)) rfl⟩
    exact ⟨Heap.get?_push_size _ rfl, Nat.le_trans (cutV_length xs lo hi) hz, _, (r.drop (HT.sIx xs.length 0 lo)).take (HT.sIx xs.length xs.length hi - HT.sIx xs.length 0 lo), IsTup.new _ _⟩
end
/-! ### methods of a built-in type, the receiver a tuple too -/
section
variable {X : Cx} {o e : Expr} {es : List Expr} {to : TE} {t : TA} {name : Str} {apos cpos : Pos} {T id : String} {r : V → List V → Hp → VK → Prop}
def tyW (K : PySem.W.Frag) (T : String) (x : V) (H : Hp) : Prop := tyV K T x H ∨ (T = "tuple" ∧ ∃ a vs, x = .ref a ∧ TupOk K H a vs)
theorem tyW_is {pins : List (Addr × Obj)} {σ : L2.St} {H : Hp} {s : Shared} {T : String} {x : V} {v : Value} (I : Inv X pins σ H s) (r : RelV x v) (ty : tyW X.K T x H) :
    s.TypeIs v T ∧ ∀ a, v = .ref a → ∃ ob, s.heap.get? a = some ob ∧ ob.dict = none := by
  rcases ty with ty | ⟨rfl, a, vs, rfl, ty⟩
  · exact tyV_is I r ty
  · cases r
    obtain ⟨its, _, pl, _⟩ := I.tuple ty.seq
    refine ⟨pl.typeIs, fun b e => ?_⟩
    cases e
    rcases ty with ⟨ob, h, hd⟩ | ⟨ob, its2, n, h1, h2, hd, _⟩
    · have z : ObjOk X.prog X.w H s.heap a (.frz ob (.tup vs)) := I.hok a _ h
      exact ⟨ob, z.1, hd⟩
    · exact ⟨ob, I.kIn _ _ h1, hd⟩
def tBW (K : PySem.W.Frag) (T : String) (r : V → List V → Hp → VK → Prop) (to : TE) (t : TA) : TE := fun σ H Q => to σ H fun x H1 => tyW K T x H1 ∧ t σ H1 fun xs H2 => r x xs H2 Q
theorem pe_bw (pa : PlainAttrs T) (slot : PySem.Slot T name id) (hty : typeOf (.builtin id) = pure (.type "method_descriptor")) (hm : MtR X id r) (ho : PE X o to) (ha : PA X (e :: es) t)
    (hbase : attributeBase o name X.env (eval o X.env) = eval o X.env)
    (hfew : ((backTo cpos (starEach (e :: es) X.env)).all (fun x => !x.1) && (backToKw cpos (keywordEach [] X.env)).all (fun x => x.1.isSome)
      && decide ((e :: es).length + ([] : List Keyword).length + (if ([] : List Keyword).isEmpty then 0 else 1) < 30)) = true)
    (hline : (apos.endLine == cpos.line) = true) (hs : starEach (e :: es) X.env = (false, eval e X.env) :: starEach es X.env) (hplain : (backTo cpos (starEach es X.env)).any (·.1) = false) :
    PE X (.Call (.Attribute o name apos) (e :: es) [] cpos) (tBW X.K T r to t) := by
  refine ⟨fun pins s σ H Q I h => ?_⟩
  refine wpAny_Call_method_late hbase hfew hline rfl (thn (ho.run pins s σ H _ I h) fun v s1 ⟨x, H1, I1, r1, ty, q1⟩ => ?_)
  obtain ⟨h1, h2⟩ := tyW_is I1 r1 ty
  refine ⟨T, id, pa, slot, hty, h1, h2, ?_⟩
  have hA := ha.run cpos pins s1 σ H1 _ I1 q1
  rw [hs] at hA ⊢
  refine Calls.callWith_builtin (by show (false || (backTo cpos (starEach es X.env)).any (·.1)) = false; rw [hplain] <;> rfl) (Calls.evalArgs_plain ?_)
  exact thn hA fun us s2 ⟨vs, H2, I2, r2, q2⟩ => hm pins s2 σ H2 x vs v us Q I2 r1 r2 q2
end
end LD
namespace LD
open PySem PySem.SeqAt PySem.MeetsSeq
open PySem.AutoSeq1 (wpAny_loadPart')
/-! ### == of a dict and what is no dict -/
def IsDic (h : Heap) (d : Addr) : Prop := ∃ o es ep, h.get? d = some o ∧ o.cls = .type "dict" ∧ o.dict = none ∧ o.data = .dict es ep
theorem dict_eq_no_str (d : Addr) (o : Obj) (b : Str) (u : Tok) :
    Meets (Builtin.«dict.__eq__» ⟨[.ref d, .str b u], []⟩) (fun _ R s => s.heap.get? d = some o ∧ o.cls = .type "dict" ∧ R (.ok (.ret .notImplemented)) s) :=
  .of_wp fun prog w A R s h => by obtain ⟨hp, g, dd, tk, os⟩ := s; obtain ⟨hl, hc, h⟩ := h; have f1 := F.sub_str_dict; wp_walk using wpAny_load hl; exact ⟨_, rfl, h⟩
theorem str_eq_no_dict (d : Addr) (o : Obj) (es : Array DictEntry) (ep : Nat) (b : Str) (u : Tok) :
    Meets (Builtin.«str.__eq__» ⟨[.str b u, .ref d], []⟩) (fun _ R s => s.heap.get? d = some o ∧ o.cls = .type "dict" ∧ o.data = .dict es ep ∧ R (.ok (.ret .notImplemented)) s) :=
  .of_wp fun prog w A R s h => by obtain ⟨hp, g, dd, tk, os⟩ := s; obtain ⟨hl, hc, hda, h⟩ := h; obtain ⟨c, a2, a3, a4⟩ := o; cases hc; cases hda; have f1 := F.sub_dict_str; wp_walk using wpAny_load hl; exact ⟨_, rfl, h⟩
theorem dict_ne_no_tuple (d b : Addr) (o : Obj) (items : Array Value) (n : Nat) (dd : Option Addr) (sl : Array (Option Value)) :
    Meets (Builtin.«dict.__ne__» ⟨[.ref d, .ref b], []⟩) (fun _ R s => s.heap.get? d = some o ∧ o.cls = .type "dict" ∧ s.heap.get? b = some { cls := .type "tuple", dict := dd, data := .seq items n, slots := sl } ∧ R (.ok (.ret .notImplemented)) s) :=
  .of_wp fun prog w A R s h => by obtain ⟨hp, g, d1, tk, os⟩ := s; obtain ⟨hl, hc, hb, h⟩ := h; obtain ⟨c, a2, a3, a4⟩ := o; cases hc; have f1 := F.sub_tuple_dict; wp_walk using wpAny_load hl, wpAny_load hb, wpAny_loadPart' hb; exact ⟨_, rfl, h⟩
theorem tuple_ne_no_dict (d b : Addr) (o : Obj) (items : Array Value) (n : Nat) (dd : Option Addr) (sl : Array (Option Value)) :
    Meets (Builtin.«tuple.__ne__» ⟨[.ref b, .ref d], []⟩) (fun _ R s => s.heap.get? d = some o ∧ o.cls = .type "dict" ∧ s.heap.get? b = some { cls := .type "tuple", dict := dd, data := .seq items n, slots := sl } ∧ R (.ok (.ret .notImplemented)) s) :=
  .of_wp fun prog w A R s h => by obtain ⟨hp, g, d1, tk, os⟩ := s; obtain ⟨hl, hc, hb, h⟩ := h; obtain ⟨c, a2, a3, a4⟩ := o; cases hc; have f1 := F.sub_dict_tuple; wp_walk using wpAny_load hl, wpAny_load hb, wpAny_loadPart' hb; exact ⟨_, rfl, h⟩
section
variable {A : Around} {s : Shared}
theorem EqAt.dict_str {d : Addr} (b : Str) (u : Tok) (hl : IsDic s.heap d) (hu : A.units < cLine) : EqAt A s (.ref d) (.str b u) false := fun prog w E Q h => by
  obtain ⟨o, es, ep, ho, hc, hd, hda⟩ := hl
  unfold eqBool
  refine wpAny_holding ?_
  refine wpAny_ite_split (fun hab => absurd (eq_of_beq hab) nofun) (fun _ => ?_)
  refine wpAny_bind ?_
  exact rc_eq_decline_or (k := false) ⟨o, ho, hc⟩ (typeIs_str s b u) (by decide) F.sub_str_dict F.slot_dict_eq F.slot_str_eq_refl
    (fun _ hq => call_meets F.slot_dict_eq ⟨o, ho, hc⟩ F.entry_dict_eq (F.args_dict_eq_2 _ _) (dict_eq_no_str d o b u) ⟨ho, hc, hq⟩)
    (fun _ hq => call_meets F.slot_str_eq_refl (typeIs_str s b u) F.entry_str_eq (F.args_str_eq_2 _ _) (str_eq_no_dict d o es ep b u) ⟨ho, hc, hda, hq⟩)
    (fun _ hq => wpAny_of_eq (rfl : isSame (.ref d) (.str b u) = pure false) hq) (.inr hu) (wpAny_truthy_bool h)
theorem RcNeAt.dict_tuple {d b : Addr} {items : Array Value} (hl : IsDic s.heap d) (hb : s.heap.IsTuple b items) (hu : A.units < cLine) : RcNeAt A s (.ref d) (.ref b) true := fun prog w E Q h => by
  obtain ⟨o, es, ep, ho, hc, hd, hda⟩ := hl
  obtain ⟨⟨cls2, dd2, data2, sl2⟩, ho2, hc2, n2, hd2⟩ := id hb
  simp only at hc2 hd2
  subst hc2 hd2
  have hne : d ≠ b := fun e => by
    subst e
    rw [ho] at ho2
    cases ho2
    simp at hc
  exact (rc_ne_decline_or (k := false) ⟨o, ho, hc⟩ ⟨_, ho2, rfl⟩ (by decide) F.sub_tuple_dict F.slot_dict_ne F.slot_tuple_ne_refl
    (fun _ hq => call_meets F.slot_dict_ne ⟨o, ho, hc⟩ F.entry_dict_ne (F.args_dict_ne_2 _ _) (dict_ne_no_tuple d b o items n2 dd2 sl2) ⟨ho, hc, ho2, hq⟩)
    (fun _ hq => call_meets F.slot_tuple_ne_refl ⟨_, ho2, rfl⟩ F.entry_tuple_ne (F.args_tuple_ne_2 _ _) (tuple_ne_no_dict d b o items n2 dd2 sl2) ⟨ho, hc, ho2, hq⟩)
    (fun _ hq => wpAny_isSame_ref_other hne ho ho2 (by rw [hc]; simp) hq) (.inr hu) h)
end
end LD

set_option Elab.async false
set_option linter.all false
set_option maxRecDepth 100000
set_option maxHeartbeats 1000000
/-! LD3s: sorted texts: the one result. -/
namespace LD
open PySem
abbrev sl (a b : Str) : Prop := a.cps.toList < b.cps.toList
theorem str_ext {a b : Str} (h : a.cps.toList = b.cps.toList) : a = b := by
  cases a; cases b
  congr 1
  exact Array.toList_inj.mp h
theorem sl_irrefl (a : Str) : ¬ sl a a := List.lt_irrefl _
theorem sl_trans {a b c : Str} (h : sl a b) (h' : sl b c) : sl a c := List.lt_trans h h'
theorem sl_anti {a b : Str} (h : ¬ sl a b) (h' : ¬ sl b a) : a = b := str_ext (List.le_antisymm (List.not_lt.mp h') (List.not_lt.mp h))
/-- rising: no one behind is less -/
def Ris (l : List Str) : Prop := l.Pairwise fun a b => ¬ sl b a
theorem nsl_trans {a b c : Str} (h : ¬ sl b a) (h' : ¬ sl c b) : ¬ sl c a := fun q => by
  have h1 : a.cps.toList ≤ b.cps.toList := List.not_lt.mp h
  have h2 : b.cps.toList ≤ c.cps.toList := List.not_lt.mp h'
  exact List.not_lt.mpr (List.le_trans h1 h2) q
theorem ins_perm (x : Str) : ∀ l : List Str, (insS x l).Perm (x :: l)
  | [] => List.Perm.refl _
  | y :: ys => by
    unfold insS
    split
    · exact (List.Perm.cons y (ins_perm x ys)).trans (List.Perm.swap x y ys)
    · exact List.Perm.refl _
theorem sort_perm : ∀ l : List Str, (sortS l).Perm l
  | [] => List.Perm.refl _
  | x :: xs => (ins_perm x (sortS xs)).trans (List.Perm.cons x (sort_perm xs))
theorem ins_ris (x : Str) : ∀ l : List Str, Ris l → Ris (insS x l)
  | [], _ => by simp [insS, Ris]
  | y :: ys, h => by
    have h1 := List.pairwise_cons.mp h
    unfold insS
    split
    · rename_i q
      have q := of_decide_eq_true q
      refine List.pairwise_cons.mpr ⟨fun z hz => ?_, ins_ris x ys h1.2⟩
      rcases List.mem_cons.mp ((ins_perm x ys).mem_iff.mp hz) with rfl | hz
      · exact fun w => sl_irrefl _ (sl_trans w q)
      · exact h1.1 z hz
    · rename_i q
      have q : ¬ sl y x := fun w => q (decide_eq_true w)
      refine List.pairwise_cons.mpr ⟨fun z hz => ?_, h⟩
      rcases List.mem_cons.mp hz with rfl | hz
      · exact q
      · exact nsl_trans q (h1.1 z hz)
theorem sort_ris : ∀ l : List Str, Ris (sortS l)
  | [] => List.Pairwise.nil
  | x :: xs => ins_ris x _ (sort_ris xs)
theorem ris_uniq : ∀ {l l' : List Str}, l.Perm l' → Ris l → Ris l' → l = l'
  | [], l', p, _, _ => (List.Perm.nil_eq p)
  | x :: xs, [], p, _, _ => absurd p.length_eq (by simp)
  | x :: xs, y :: ys, p, h, h' => by
    have h1 := List.pairwise_cons.mp h
    have h2 := List.pairwise_cons.mp h'
    have e : x = y := by
      have hx : x ∈ y :: ys := p.mem_iff.mp (List.mem_cons_self ..)
      have hy : y ∈ x :: xs := p.mem_iff.mpr (List.mem_cons_self ..)
      rcases List.mem_cons.mp hx with e | hx
      · exact e
      · rcases List.mem_cons.mp hy with e | hy
        · exact e.symm
        · exact sl_anti (h2.1 x hx) (h1.1 y hy)
    subst e
    rw [ris_uniq (List.Perm.cons_inv p) h1.2 h2.2]
theorem rising_ris : ∀ (l : List Str) (p : Str), PyProof.Rows.risingS p l = true → Ris (p :: l)
  | [], p, _ => by simp [Ris]
  | x :: r, p, h => by
    have h := Bool.and_eq_true_iff.mp (show ((!Spec.ltCps x.cps.toList p.cps.toList) && PyProof.Rows.risingS x r) = true from h)
    have ih := rising_ris r x h.2
    have h1 : ¬ sl x p := fun q => by
      have e := PyProof.Rows.ltCps_eq x.cps.toList p.cps.toList
      rw [decide_eq_true q] at e
      rw [e] at h
      exact absurd h.1 (by decide)
    refine List.pairwise_cons.mpr ⟨fun z hz => ?_, ih⟩
    rcases List.mem_cons.mp hz with rfl | hz
    · exact h1
    · exact nsl_trans h1 ((List.pairwise_cons.mp ih).1 z hz)
theorem sortedS_ris {l : List Str} (h : PyProof.Rows.sortedS l = true) : Ris l := by
  cases l with
  | nil => exact List.Pairwise.nil
  | cons x r => exact rising_ris r x h
theorem sorted_is {xs ys : List Str} (p : ys.Perm xs) (h : PyProof.Rows.sortedS ys = true) : ys = sortS xs :=
  ris_uniq (p.trans (sort_perm xs).symm) (sortedS_ris h) (sort_ris xs)
end LD

set_option Elab.async false
set_option linter.all false
set_option maxRecDepth 100000
set_option maxHeartbeats 1000000
/-! LD4: the operations on values are the model's. -/
namespace LD
open PySem PySem.Spec PyProof.Rows L2 HT
def opB : BOp → Operator
  | .add => .Add | .sub => .Sub | .mul => .Mult | .fdiv => .FloorDiv | .mod => .Mod | .pow => .Pow
def opC : COp → CmpOp
  | .eq => .Eq | .ne => .NotEq | .lt => .Lt | .le => .LtE | .gt => .Gt | .ge => .GtE | .is_ => .Is | .isnot => .IsNot | .in_ => .In | .notin => .NotIn

section
variable {X : Cx} {ga : GA} {ms : List Addr} {Γ : Hp} {μ : Store} {H : Hp}
/-- wanted of every heap and value that stand for the outcome d -/
def PD (X : Cx) (ga : GA) (ms : List Addr) (Γ : Hp) (μ : Store) (H : Hp) (d : D) (Q : VK) : Prop :=
  ∀ (v : V) (H' : Hp) (ms' : List Addr) (Γ' : Hp), After X.K ga ms Γ H ms' Γ' μ H' → Rep X.K ga ms' Γ' d v → Q v H'
theorem PD.here {d : D} {v : V} {Q : VK} (q : PD X ga ms Γ μ H d Q) (S : SI X.K ga ms Γ μ H) (r : Rep X.K ga ms Γ d v) : Q v H := q v H ms Γ (After.refl S) r
theorem PD.bl {b : Bool} {Q : VK} (q : PD X ga ms Γ μ H (.bl b) Q) (S : SI X.K ga ms Γ μ H) : Q (.bl b) H := q.here S (by unfold Rep; rfl)
theorem PD.int {i : Int} {Q : VK} (q : PD X ga ms Γ μ H (.int i) Q) (S : SI X.K ga ms Γ μ H) : Q (.int i) H := q.here S (by unfold Rep; rfl)
theorem PD.str {z : Str} {Q : VK} (q : PD X ga ms Γ μ H (.str z) Q) (S : SI X.K ga ms Γ μ H) (h : z.length ≤ sizeLine) : Q (.str z) H := q.here S (by unfold Rep; exact ⟨rfl, h⟩)
theorem PD.newT {xs : List D} {vs : List V} {Q : VK} (q : PD X ga ms Γ μ H (.tup xs) Q) (S : SI X.K ga ms Γ μ H) (r : Reps X.K ga ms Γ xs vs) (h : xs.length ≤ sizeLine) : NewT H vs Q := fun p o hp hd => by
  have A := After.lay (o := HO.frz o (.tup vs)) S hp
  refine q _ _ _ _ A ?_
  unfold Rep
  exact ⟨p, vs, rfl, .inl ⟨o, upd_same, hd⟩, h, r.mono A.le A.pre⟩
theorem PD.newL {xs : List D} {vs : List V} {Q : VK} (q : PD X ga ms Γ μ H (.lst xs) Q) (S : SI X.K ga ms Γ μ H) (r : Reps X.K ga ms Γ xs vs) (h : xs.length ≤ sizeLine) : ∀ p, H p = none → Q (.ref p) (upd H p (.lst vs)) := fun p hp => by
  have A := After.lay (o := HO.lst vs) S hp
  refine q _ _ _ _ A ?_
  unfold Rep
  exact ⟨p, vs, rfl, upd_same, h, r.mono A.le A.pre⟩
/-- the values x, y stand for dx, dy -/
structure At2 (X : Cx) (ga : GA) (ms : List Addr) (Γ : Hp) (μ : Store) (H : Hp) (dx dy : D) (x y : V) : Prop where
  si : SI X.K ga ms Γ μ H
  rx : Rep X.K ga ms Γ dx x
  ry : Rep X.K ga ms Γ dy y
def r2D (X : Cx) (ga : GA) (f : D → D → Option D) : R2 := fun x y H Q => ∃ ms Γ μ dx dy d, At2 X ga ms Γ μ H dx dy x y ∧ f dx dy = some d ∧ PD X ga ms Γ μ H d Q

theorem pow_ok {i j : Int} (h : powOk i j = true) : 0 ≤ j ∧ (Builtin.Int.intBits i : Int) * j ≤ 2 ^ 27 := by
  have h := of_decide_eq_true (show decide (1 ≤ j ∧ 2 ≤ i ∧ ((i.natAbs.log2 + 1 : Nat) : Int) * j ≤ 1000000) = true from h)
  refine ⟨by omega, ?_⟩
  unfold Builtin.Int.intBits
  have hi : (i == 0) = false := by
    refine beq_eq_false_iff_ne.mpr ?_
    omega
  rw [hi, if_neg Bool.false_ne_true]
  have := h.2.2
  omega
theorem small_ok {i : Int} (h : small i = true) : -(2 ^ 64) < i ∧ i < 2 ^ 64 := of_decide_eq_true h
theorem repOk_ok {n : Nat} {k : Int} (h : repOk n k = true) : -(2 ^ 62) ≤ k ∧ k < 2 ^ 62 ∧ n * k.toNat ≤ sizeLine := by
  obtain ⟨h1, h2, h3⟩ := of_decide_eq_true h
  rw [line_eq] at h3
  exact ⟨h1, h2, h3⟩
theorem Reps.flat {K : PySem.W.Frag} {ga : GA} {ms : List Addr} {Γ : Hp} {ds : List D} {vs : List V} : ∀ n : Nat, Reps K ga ms Γ ds vs → Reps K ga ms Γ (List.replicate n ds).flatten (List.replicate n vs).flatten
  | 0, _ => Reps.nil
  | n + 1, h => by
    rw [List.replicate_succ, List.replicate_succ, List.flatten_cons, List.flatten_cons]
    exact h.append (Reps.flat n h)
theorem rep_flat_len {α : Type} (xs : List α) (n : Nat) : (List.replicate n xs).flatten.length = n * xs.length := by
  induction n with
  | zero => simp
  | succ n ih => rw [List.replicate_succ, List.flatten_cons, List.length_append, ih, Nat.succ_mul]; omega
theorem fold_size (a : Array Nat) : ∀ (n : Nat) (acc : Array Nat), ((List.replicate n a).foldl (· ++ ·) acc).size = acc.size + n * a.size
  | 0, acc => by simp
  | n + 1, acc => by
    rw [List.replicate_succ, List.foldl_cons, fold_size a n, Array.size_append, Nat.succ_mul]; omega
theorem repS_len (n : Nat) (s : Str) : (repS n s).length = n * s.length := by
  show ((List.replicate n s.cps).foldl (· ++ ·) #[]).size = _
  rw [fold_size]
  show 0 + n * s.cps.size = n * s.cps.size
  omega
theorem op_repStr {pins : List (Addr × Obj)} {σ : L2.St} {H : Hp} {s : Shared} {v u : Value} {z : Str} {k : Int} {Q : VK} (I : Inv X pins σ H s) (rx : L2.RelV (.str z) v) (ry : L2.RelV (.int k) u) (hk : 1 < k) (hp : 0 < z.length) (h2 : k < 2 ^ 62) (h3 : z.length * k.toNat ≤ sizeLine)
    (q : Q (.str (repS k.toNat z)) H) : wpAny (model X.prog X.w) X.A (binaryOp .Mult v u) (EP X pins σ Q) X.xe s := by
  obtain ⟨t, rfl⟩ := rx
  obtain ⟨t', rfl⟩ := ry
  have hs := sizeLine_eq
  have n1 : ¬ k < 1 := by omega
  have n2 : (k == 1 || z.length == 0) = false := by
    have a : (k == 1) = false := by simpa using (show k ≠ 1 by omega)
    have b : (z.length == 0) = false := by simpa using (show z.length ≠ 0 by omega)
    rw [a, b]; rfl
  refine PySem.P.mul_str ?_ (fun _ _ => ?_) (fun _ _ => ?_) ?_
  · have a : ¬ k < -(2 ^ 63 : Int) := by omega
    have b : ¬ k ≥ 2 ^ 63 := by omega
    rw [decide_eq_false a, decide_eq_false b]; rfl
  · have hm : (z.length : Int) * k ≤ 2 ^ 63 - 1 := by
      have e : (z.length : Int) * k = ((z.length * k.toNat : Nat) : Int) := by
        rw [Int.natCast_mul, Int.toNat_of_nonneg (by omega)]
      rw [e]
      omega
    have := (Int.le_ediv_iff_mul_le (show 0 < k by omega)).mpr hm
    omega
  · show decide _ = false
    exact decide_eq_false (by omega)
  · rw [if_neg n1, n2, if_neg Bool.false_ne_true]
    refine ⟨?_, .str _, H, I.tok _, ⟨_, rfl⟩, q⟩
    have e := repS_len k.toNat z
    rw [Nat.mul_comm] at e
    exact Nat.le_trans (Nat.le_of_eq e) h3
theorem op_bin (ga : GA) (op : BOp) : OpR X (binaryOp (opB op)) (r2D X ga (binop op)) := by
  intro pins s σ H x y v u Q I rx ry h
  obtain ⟨ms, Γ, μ, dx, dy, d, ⟨S, hx, hy⟩, e, q⟩ := h
  unfold binop at e
  split at e
  · cases e
    unfold Rep at hx hy
    exact op_add pins s σ H x y v u Q I rx ry ⟨_, _, hx, hy, q.int S⟩
  · split at e
    · rename_i hz
      cases e
      unfold Rep at hx hy
      rw [line_eq] at hz
      exact op_add_str pins s σ H x y v u Q I rx ry ⟨_, _, hx.1, hy.1, hz, q.str S (by rw [PySem.strLen_append]; exact hz)⟩
    · cases e
  · split at e
    · rename_i hz
      cases e
      unfold Rep at hx hy
      obtain ⟨a, vs, rfl, h1, h2, h3⟩ := hx
      obtain ⟨b, us, rfl, g1, g2, g3⟩ := hy
      rw [line_eq] at hz
      refine op_cat pins s σ H _ _ v u Q I rx ry ⟨a, b, vs, us, rfl, rfl, S.sub _ _ h1, S.sub _ _ g1, by rw [← h3.length, ← g3.length]; exact hz, q.newL S (h3.append g3) (by rw [List.length_append]; exact hz)⟩
    · cases e
  · split at e
    · rename_i hz
      cases e
      have hx' := hx
      have hy' := hy
      unfold Rep at hx hy
      obtain ⟨a, vs, rfl, h1, h2, h3⟩ := hx
      obtain ⟨b, us, rfl, g1, g2, g3⟩ := hy
      rw [line_eq] at hz
      refine op_catF pins s σ H _ _ v u Q I rx ry ⟨a, b, vs, us, rfl, rfl, (h1.mono S.sub).seq, (g1.mono S.sub).seq, by rw [← h3.length, ← g3.length]; exact hz, fun z => ?_, fun z z2 => ?_, fun _ _ => q.newT S (h3.append g3) (by rw [List.length_append]; exact hz)⟩
      · rename_i as bs
        have z1 : as = [] := List.eq_nil_of_length_eq_zero (by rw [h3.length, z]; rfl)
        subst z1
        exact q.here S hy'
      · rename_i as bs
        have z1 : bs = [] := List.eq_nil_of_length_eq_zero (by rw [g3.length, z2]; rfl)
        subst z1
        rw [List.append_nil] at q
        exact q.here S hx'
    · cases e
  · cases e
    unfold Rep at hx hy
    exact op_sub pins s σ H x y v u Q I rx ry ⟨_, _, hx, hy, q.int S⟩
  · split at e
    · rename_i hz
      cases e
      unfold Rep at hx hy
      refine op_mul pins s σ H x y v u Q I rx ry ⟨_, _, hx, hy, ?_, q.int S⟩
      rcases Bool.or_eq_true_iff.mp hz with z | z
      · exact .inl (small_ok z)
      · exact .inr (small_ok z)
    · cases e
  · split at e
    · rename_i hz
      cases e
      unfold Rep at hx hy
      obtain ⟨a, vs, rfl, h1, h2, h3⟩ := hx
      obtain ⟨z1, z2, z3⟩ := repOk_ok hz
      refine op_rep pins s σ H _ _ v u Q I rx ry ⟨a, _, vs, rfl, hy, S.sub _ _ h1, by omega, by omega, by rw [← h3.length]; exact z3, q.newL S (Reps.flat _ h3) ?_⟩
      rw [rep_flat_len]
      rw [Nat.mul_comm]; exact z3
    · cases e
  · split at e
    · rename_i hz
      cases e
      unfold Rep at hx hy
      obtain ⟨hx, hl⟩ := hx
      subst hx hy
      rw [Bool.and_eq_true, Bool.and_eq_true] at hz
      obtain ⟨⟨hz, hk⟩, hp⟩ := hz
      have hk := of_decide_eq_true hk
      have hp := of_decide_eq_true hp
      obtain ⟨z1, z2, z3⟩ := repOk_ok hz
      exact op_repStr I rx ry hk hp z2 z3 (q.str S (by rw [repS_len, Nat.mul_comm]; exact z3))
    · cases e
  · split at e
    · rename_i hz
      cases e
      unfold Rep at hx hy
      rcases hz with hz | ⟨h0, hz⟩
      · exact op_fdivN pins s σ H x y v u Q I rx ry ⟨_, _, hx, hy, hz, q.int S⟩
      · have q := q.int S
        rw [Int.fdiv_eq_ediv_of_nonneg _ (Int.le_of_lt h0)] at q
        exact op_fdivW pins s σ H x y v u Q I rx ry ⟨_, _, hx, hy, wide_div h0 hz (by decide) (by decide), q⟩
    · cases e
  · split at e
    · rename_i hz
      cases e
      unfold Rep at hx hy
      exact op_modN pins s σ H x y v u Q I rx ry ⟨_, _, hx, hy, hz, q.int S⟩
    · cases e
  · split at e
    · rename_i hz
      cases e
      unfold Rep at hx hy
      subst hx hy
      obtain ⟨t, rfl⟩ := rx
      obtain ⟨t', rfl⟩ := ry
      obtain ⟨p1, p2⟩ := pow_ok hz
      exact pow_int p1 p2 ⟨.int _, H, I.tok _, ⟨_, rfl⟩, q.int S⟩
    · cases e
  · cases e
/-! ### == -/
mutual
theorem rep_dp {H : Hp} (le : Same Γ H) : ∀ (d : D) (v : V) (p : PyData), Rep X.K ga ms Γ d v → toP d = some p → Dp X.K H v p
  | .non, _, _, h, e => by unfold Rep at h; unfold toP at e; cases e; subst h; exact .non
  | .bl b, _, _, h, e => by unfold Rep at h; unfold toP at e; cases e; subst h; exact .bl b
  | .int i, _, _, h, e => by unfold Rep at h; unfold toP at e; cases e; subst h; exact .int i
  | .str z, _, _, h, e => by unfold Rep at h; unfold toP at e; cases e; obtain ⟨h, _⟩ := h; subst h; exact .str z
  | .tup xs, v, p, h, e => by
    unfold Rep at h; unfold toP at e
    obtain ⟨a, vs, rfl, h1, _, h3⟩ := h
    cases q : toPs xs with
    | none => rw [q] at e; cases e
    | some ps =>
      rw [q] at e; cases e
      exact .tup (h1.mono le).seq (reps_dp le xs vs ps h3 q)
  | .lst xs, v, p, h, e => by
    unfold Rep at h; unfold toP at e
    obtain ⟨a, vs, rfl, h1, _, h3⟩ := h
    cases q : toPs xs with
    | none => rw [q] at e; cases e
    | some ps =>
      rw [q] at e; cases e
      exact .lst (SqL.of (le _ _ h1)) (reps_dp le xs vs ps h3 q)
  | .dct _, _, _, _, e => by unfold toP at e; cases e
  | .ins _ _, _, _, _, e => by unfold toP at e; cases e
  | .loc _, _, _, _, e => by unfold toP at e; cases e
  | .ty _, _, _, _, e => by unfold toP at e; cases e
  | .glob _, _, _, _, e => by unfold toP at e; cases e
  | .scr _, _, _, _, e => by unfold toP at e; cases e
theorem reps_dp {H : Hp} (le : Same Γ H) : ∀ (ds : List D) (vs : List V) (ps : List PyData), Reps X.K ga ms Γ ds vs → toPs ds = some ps → DpAll X.K H vs ps
  | [], vs, ps, h, e => by unfold Reps at h; unfold toPs at e; cases e; subst h; exact .nil
  | x :: xs, vs, ps, h, e => by
    unfold Reps at h; unfold toPs at e
    obtain ⟨v, r, rfl, h1, h2⟩ := h
    cases q : toP x with
    | none => rw [q] at e; cases e
    | some p =>
      cases q2 : toPs xs with
      | none => rw [q, q2] at e; cases e
      | some ps' =>
        rw [q, q2] at e; cases e
        exact .cons (rep_dp le x v p h1 q) (reps_dp le xs r ps' h2 q2)
end
theorem eqD_some {a b : D} {k : Bool} (h : eqD a b = some k) : ∃ p q, toP a = some p ∧ toP b = some q ∧ SeqAt.shaped p = true ∧ SeqAt.shaped q = true ∧ k = PyData.eqv p q := by
  unfold eqD at h
  cases q1 : toP a with
  | none => rw [q1] at h; cases h
  | some p =>
    cases q2 : toP b with
    | none => rw [q1, q2] at h; cases h
    | some q =>
      rw [q1, q2] at h
      have h : (if (SeqAt.shaped p && SeqAt.shaped q) = true then some (PyData.eqv p q) else none) = some k := h
      split at h
      · rename_i z
        cases h
        obtain ⟨z1, z2⟩ := Bool.and_eq_true_iff.mp z
        exact ⟨p, q, rfl, rfl, z1, z2, rfl⟩
      · cases h
theorem flat_rep {d : D} {v : V} (h : Rep X.K ga ms Γ d v) (f : flat d = true) : flatV v = true := by
  cases d with
  | non => unfold Rep at h; subst h; rfl
  | bl b => unfold Rep at h; subst h; rfl
  | int i => unfold Rep at h; subst h; rfl
  | str z => unfold Rep at h; obtain ⟨h, _⟩ := h; subst h; rfl
  | _ => exact absurd f (by simp [flat])
theorem eqF_rep {d e : D} {v u : V} (h : Rep X.K ga ms Γ d v) (h' : Rep X.K ga ms Γ e u) (f : flat d = true) (f' : flat e = true) : eqV v u = eqF d e := by
  cases d with
  | non =>
    unfold Rep at h; subst h
    cases e with
    | non => unfold Rep at h'; subst h'; rfl
    | bl b => unfold Rep at h'; subst h'; rfl
    | int i => unfold Rep at h'; subst h'; rfl
    | str z => unfold Rep at h'; obtain ⟨h', _⟩ := h'; subst h'; rfl
    | _ => exact absurd f' (by simp [flat])
  | bl b =>
    unfold Rep at h; subst h
    cases e with
    | non => unfold Rep at h'; subst h'; rfl
    | bl b => unfold Rep at h'; subst h'; rfl
    | int i => unfold Rep at h'; subst h'; rfl
    | str z => unfold Rep at h'; obtain ⟨h', _⟩ := h'; subst h'; rfl
    | _ => exact absurd f' (by simp [flat])
  | int i =>
    unfold Rep at h; subst h
    cases e with
    | non => unfold Rep at h'; subst h'; rfl
    | bl b => unfold Rep at h'; subst h'; rfl
    | int i => unfold Rep at h'; subst h'; rfl
    | str z => unfold Rep at h'; obtain ⟨h', _⟩ := h'; subst h'; rfl
    | _ => exact absurd f' (by simp [flat])
  | str z =>
    unfold Rep at h; obtain ⟨h, _⟩ := h; subst h
    cases e with
    | non => unfold Rep at h'; subst h'; rfl
    | bl b => unfold Rep at h'; subst h'; rfl
    | int i => unfold Rep at h'; subst h'; rfl
    | str z => unfold Rep at h'; obtain ⟨h', _⟩ := h'; subst h'; rfl
    | _ => exact absurd f' (by simp [flat])
  | _ => exact absurd f (by simp [flat])
theorem flats_rep : ∀ {ds : List D} {vs : List V}, Reps X.K ga ms Γ ds vs → ds.all flat = true → vs.all flatV = true
  | [], vs, h, _ => by rw [h.nil_iff]; rfl
  | x :: xs, vs, h, f => by
    obtain ⟨v, r, rfl, h1, h2⟩ := h.cons_iff
    have f := Bool.and_eq_true_iff.mp (show (flat x && xs.all flat) = true from f)
    show (flatV v && r.all flatV) = true
    rw [flat_rep h1 f.1, flats_rep h2 f.2]
    rfl
theorem any_rep {d : D} {v : V} (h : Rep X.K ga ms Γ d v) (fd : flat d = true) : ∀ {ds : List D} {vs : List V}, Reps X.K ga ms Γ ds vs → ds.all flat = true → inV v vs = ds.any fun y => eqF y d
  | [], vs, h', _ => by rw [h'.nil_iff]; rfl
  | x :: xs, vs, h', f => by
    obtain ⟨u, r, rfl, h1, h2⟩ := h'.cons_iff
    have f := Bool.and_eq_true_iff.mp (show (flat x && xs.all flat) = true from f)
    show (eqV u v || inV v r) = (eqF x d || xs.any fun y => eqF y d)
    rw [eqF_rep h1 h f.1 fd, any_rep h fd h2 f.2]
theorem inSeq_some {x : D} {xs : List D} {k : Bool} (h : inSeq x xs = some k) : (flat x = true ∧ xs.all flat = true ∧ k = xs.any fun y => eqF y x) ∨
    ∃ p qs, toP x = some p ∧ toPs xs = some qs ∧ SeqAt.shaped p = true ∧ p.depth ≤ 63 ∧ PyData.canLayAll0 qs = true ∧ k = qs.any fun y => PyData.eqv y p := by
  unfold inSeq at h
  split at h
  · rename_i z
    cases h
    obtain ⟨z1, z2⟩ := Bool.and_eq_true_iff.mp z
    exact .inl ⟨z1, z2, rfl⟩
  · unfold inData at h
    split at h
    · rename_i p qs e1 e2
      split at h
      · rename_i z
        cases h
        simp only [Bool.and_eq_true] at z
        exact .inr ⟨p, qs, e1, e2, z.1.1, of_decide_eq_true z.1.2, z.2, rfl⟩
      · cases h
    · cases h
theorem strIn_some {a b : Str} {k : Bool} (h : strIn a b = some k) : ∃ c : Nat, a = ⟨#[c]⟩ ∧ k = decide (c ∈ b.cps.toList) := by
  unfold strIn at h
  split at h
  · rename_i c e
    cases h
    refine ⟨c, ?_, rfl⟩
    obtain ⟨arr⟩ := a
    obtain ⟨l⟩ := arr
    have e : l = [c] := e
    rw [e]
  · cases h
theorem map_not {o : Option Bool} {k : Bool} (h : o.map (!·) = some k) : ∃ b, o = some b ∧ k = !b := by
  cases o with
  | none => cases h
  | some b => cases h; exact ⟨b, rfl, rfl⟩
theorem rep_isNon {d : D} {v : V} (h : Rep X.K ga ms Γ d v) : decide (v = .non) = isNon d := by
  cases d with
  | non => unfold Rep at h; subst h; rfl
  | bl b => unfold Rep at h; subst h; rfl
  | int b => unfold Rep at h; subst h; rfl
  | str b => unfold Rep at h; obtain ⟨h, _⟩ := h; subst h; rfl
  | tup b => unfold Rep at h; obtain ⟨_, _, h, _⟩ := h; subst h; rfl
  | lst b => unfold Rep at h; obtain ⟨_, _, h, _⟩ := h; subst h; rfl
  | dct b => unfold Rep at h; obtain ⟨_, _, h, _⟩ := h; subst h; rfl
  | ins b c => unfold Rep at h; obtain ⟨_, h, _⟩ := h; subst h; rfl
  | loc b => unfold Rep at h; obtain ⟨_, h, _⟩ := h; subst h; rfl
  | ty b => unfold Rep at h; subst h; rfl
  | glob b => unfold Rep at h; subst h; rfl
  | scr b => unfold Rep at h; obtain ⟨_, h, _⟩ := h; subst h; rfl
def r2B (X : Cx) (ga : GA) (f : D → D → Option Bool) : R2 := fun x y H Q => ∃ ms Γ μ dx dy d, At2 X ga ms Γ μ H dx dy x y ∧ f dx dy = some d ∧ PD X ga ms Γ μ H (.bl d) Q
def rInP (K : PySem.W.Frag) (neg : Bool) : R2 := fun x y H Q => ∃ p qs, Dp K H x p ∧ (Dp K H y (.tuple qs) ∨ Dp K H y (.list qs)) ∧ SeqAt.shaped p = true ∧ p.depth ≤ 63 ∧ PyData.canLayAll0 qs = true ∧ Q (.bl (if neg then !(qs.any fun y => PyData.eqv y p) else qs.any fun y => PyData.eqv y p)) H
theorem op_inP (hu : X.A.units + 64 < cLine) : OpR X (compareOp .In) (rInP X.K false) := by
  intro pins s σ H x y v u Q I rx ry h
  obtain ⟨p, qs, hx, hy, s1, s2, s3, q⟩ := h
  obtain ⟨as, r1⟩ := Dp.reads I p x v hx rx
  have hm : X.A.units + 1 + min (PyData.depthAll qs) p.depth < cLine := by
    have : min (PyData.depthAll qs) p.depth ≤ p.depth := Nat.min_le_right _ _
    omega
  rcases hy with hy | hy
  · obtain ⟨bs, r2⟩ := Dp.reads I _ y u hy ry
    exact SeqAt.in_tuple_reads r2 r1 s3 (SeqAt.canLay_of_shaped s1) hm ⟨.bl _, H, I, rfl, q⟩
  · obtain ⟨bs, r2⟩ := Dp.reads I _ y u hy ry
    exact SeqAt.in_list_reads r2 r1 s3 (SeqAt.canLay_of_shaped s1) hm ⟨.bl _, H, I, rfl, q⟩
theorem op_notInP (hu : X.A.units + 64 < cLine) : OpR X (compareOp .NotIn) (rInP X.K true) := by
  intro pins s σ H x y v u Q I rx ry h
  obtain ⟨p, qs, hx, hy, s1, s2, s3, q⟩ := h
  obtain ⟨as, r1⟩ := Dp.reads I p x v hx rx
  have hm : X.A.units + 1 + min (PyData.depthAll qs) p.depth < cLine := by
    have : min (PyData.depthAll qs) p.depth ≤ p.depth := Nat.min_le_right _ _
    omega
  rcases hy with hy | hy
  · obtain ⟨bs, r2⟩ := Dp.reads I _ y u hy ry
    exact SeqAt.notIn_tuple_reads r2 r1 s3 (SeqAt.canLay_of_shaped s1) hm ⟨.bl _, H, I, rfl, q⟩
  · obtain ⟨bs, r2⟩ := Dp.reads I _ y u hy ry
    exact SeqAt.notIn_list_reads r2 r1 s3 (SeqAt.canLay_of_shaped s1) hm ⟨.bl _, H, I, rfl, q⟩
theorem dic_at {pins : List (Addr × Obj)} {σ : L2.St} {s : Shared} {kvs : List (D × D)} {x : V} {u : Value} (I : Inv X pins σ H s) (S : SI X.K ga ms Γ μ H) (h : Rep X.K ga ms Γ (.dct kvs) x) (r : L2.RelV x u) : ∃ a, u = .ref a ∧ IsDic s.heap a := by
  unfold Rep at h
  obtain ⟨a, ks, rfl, h1, _⟩ := h
  obtain ⟨_, _, _, _, o, es, ep, e, ex, hd, _⟩ := I.hok a _ (S.sub _ _ h1)
  exact ⟨a, r, o, es, ep, e, ex.1, ex.2.1, hd⟩
theorem eqE_at {pins : List (Addr × Obj)} {σ : L2.St} {s : Shared} {dx dy : D} {x y : V} {v u : Value} {k : Bool} (hu : X.A.units + 64 < cLine) (I : Inv X pins σ H s) (S : SI X.K ga ms Γ μ H) (hx : Rep X.K ga ms Γ dx x) (hy : Rep X.K ga ms Γ dy y) (rx : L2.RelV x v) (ry : L2.RelV y u)
    (e : eqE dx dy = some k) : SeqAt.EqAt X.A.in1 s v u k := by
  unfold eqE at e
  split at e
  · cases e
    obtain ⟨a, rfl, hd⟩ := dic_at I S hx rx
    unfold Rep at hy
    obtain ⟨rfl, _⟩ := hy
    obtain ⟨t, rfl⟩ := ry
    exact EqAt.dict_str _ _ hd (by show X.A.units + 1 < cLine; omega)
  · split at e
    · rename_i p q e1 e2
      split at e
      · rename_i z
        cases e
        simp only [Bool.and_eq_true] at z
        have hd := of_decide_eq_true z.2
        obtain ⟨as, r1⟩ := Dp.reads I p x v (rep_dp S.sub _ _ _ hx e1) rx
        obtain ⟨bs, r2⟩ := Dp.reads I q y u (rep_dp S.sub _ _ _ hy e2) ry
        refine SeqAt.eqAt_reads p q X.A.in1 s v u _ _ r1 r2 (SeqAt.canLay_of_shaped z.1.1) (SeqAt.canLay_of_shaped z.1.2) ?_
        have : min p.depth q.depth ≤ p.depth := Nat.min_le_left _ _
        show X.A.units + 1 + min p.depth q.depth < cLine
        omega
      · cases e
    · cases e
def pairE (xs ys : List D) (j : Nat) : Bool := match xs[j]?, ys[j]? with
  | some x, some y => (eqE x y).getD false
  | _, _ => false
theorem zipE_eq : ∀ {xs ys : List D} {r : Bool}, zipE xs ys = some r → r = ((List.range (min xs.length ys.length)).all (pairE xs ys) && xs.length == ys.length)
  | [], [], r, h => by cases h; rfl
  | [], y :: ys, r, h => by cases h; simp
  | x :: xs, [], r, h => by cases h; simp
  | x :: xs, y :: ys, r, h => by
    unfold zipE at h
    cases e1 : eqE x y with
    | none => rw [e1] at h; cases h
    | some b =>
      cases e2 : zipE xs ys with
      | none => rw [e1, e2] at h; cases h
      | some r' =>
        rw [e1, e2] at h
        cases h
        have ih := zipE_eq e2
        have e3 : min (x :: xs).length (y :: ys).length = min xs.length ys.length + 1 := by
          simp only [List.length_cons]
          omega
        rw [e3, List.range_succ_eq_map, List.all_cons, List.all_map]
        have e4 : pairE (x :: xs) (y :: ys) 0 = b := by
          show (eqE x y).getD false = b
          rw [e1]; rfl
        have e5 : (pairE (x :: xs) (y :: ys) ∘ Nat.succ) = pairE xs ys := by funext j; rfl
        rw [e4, e5, ih]
        simp [Bool.and_assoc]
theorem zipE_at : ∀ {xs ys : List D} {r : Bool}, zipE xs ys = some r → ∀ j x y, xs[j]? = some x → ys[j]? = some y → ∃ b, eqE x y = some b ∧ pairE xs ys j = b
  | [], _, _, _, j, x, y, h1, _ => by simp at h1
  | x :: xs, [], _, _, j, x', y', _, h2 => by simp at h2
  | x :: xs, y :: ys, r, h, j, x', y', h1, h2 => by
    unfold zipE at h
    cases e1 : eqE x y with
    | none => rw [e1] at h; cases h
    | some b =>
      cases e2 : zipE xs ys with
      | none => rw [e1, e2] at h; cases h
      | some r' =>
        cases j with
        | zero =>
          cases h1; cases h2
          exact ⟨b, e1, by show (eqE x y).getD false = b; rw [e1]; rfl⟩
        | succ j => exact zipE_at e2 j x' y' (by simpa using h1) (by simpa using h2)
theorem op_neX {pins : List (Addr × Obj)} {σ : L2.St} {s : Shared} {dx dy : D} {x y : V} {v u : Value} {d : Bool} {Q : VK} (hu : X.A.units + 64 < cLine) (I : Inv X pins σ H s) (rx : L2.RelV x v) (ry : L2.RelV y u) (S : SI X.K ga ms Γ μ H) (hx : Rep X.K ga ms Γ dx x) (hy : Rep X.K ga ms Γ dy y)
    (e : neX dx dy = some d) (q : Q (.bl d) H) : wpAny (model X.prog X.w) X.A (compareOp .NotEq v u) (EP X pins σ Q) X.xe s := by
  unfold neX at e
  split at e
  · cases e
    obtain ⟨a, rfl, hd⟩ := dic_at I S hx rx
    unfold Rep at hy
    obtain ⟨b, vs, rfl, h1, _, _⟩ := hy
    cases ry
    obtain ⟨its, rv, p, hz⟩ := I.tuple (h1.mono S.sub).seq
    exact RcNeAt.dict_tuple hd p (by omega) X.prog X.w X.xe _ ⟨.bl true, H, I, rfl, q⟩
  · rename_i xs ys
    obtain ⟨r, e0, rfl⟩ := map_not e
    unfold Rep at hx hy
    obtain ⟨a, vs, rfl, h1, _, h3⟩ := hx
    obtain ⟨b, us, rfl, g1, _, g3⟩ := hy
    cases rx; cases ry
    obtain ⟨its, rv, p, hz⟩ := I.tuple (h1.mono S.sub).seq
    obtain ⟨its2, rv2, p2, hz2⟩ := I.tuple (g1.mono S.sub).seq
    have n1 : its.toArray.size = xs.length := by rw [List.size_toArray, ← rv.length, h3.length]
    have n2 : its2.toArray.size = ys.length := by rw [List.size_toArray, ← rv2.length, g3.length]
    refine SeqAt.RcNeAt.tuples (e := pairE xs ys) p p2 (by omega) (fun j j1 j2 => ?_) X.prog X.w X.xe _ ⟨.bl (!r), H, I, ?_, q⟩
    · have hx : xs[j]? = some xs[j] := List.getElem?_eq_getElem (by rw [← n1]; exact j1)
      have hy : ys[j]? = some ys[j] := List.getElem?_eq_getElem (by rw [← n2]; exact j2)
      obtain ⟨bb, z1, z2⟩ := zipE_at e0 j _ _ hx hy
      obtain ⟨x', w1, w2⟩ := h3.get hx
      obtain ⟨y', w3, w4⟩ := g3.get hy
      obtain ⟨u1, w5, w6⟩ := rv.get w1
      obtain ⟨u2, w7, w8⟩ := rv2.get w3
      rw [z2]
      have f1 : its.toArray[j] = u1 := by
        simpa using (List.getElem?_eq_some_iff.mp (show its[j]? = some u1 from w5)).2
      have f2 : its2.toArray[j] = u2 := by
        simpa using (List.getElem?_eq_some_iff.mp (show its2[j]? = some u2 from w7)).2
      rw [f1, f2]
      exact eqE_at hu I S w2 w4 w6 w8 z1
    · rw [zipE_eq e0, n1, n2]
      rfl
  · cases e
theorem same_paired {K : PySem.W.Frag} {ga : GA} {ms : List Addr} {Γ H : Hp} : ∀ {xs ys : List D} {vs us : List V}, sameLocs xs ys = true → Reps K ga ms Γ xs vs → Reps K ga ms Γ ys us → Paired (EqV K H 1) vs us
  | [], [], _, _, _, h3, g3 => by rw [h3.nil_iff, g3.nil_iff]; exact .nil
  | .loc a :: xs, .loc b :: ys, _, _, h, h3, g3 => by
    have h := Bool.and_eq_true_iff.mp (show (a == b && sameLocs xs ys) = true from h)
    obtain ⟨v, r, rfl, h4, h5⟩ := h3.cons_iff
    obtain ⟨v', r', rfl, g4, g5⟩ := g3.cons_iff
    have e : a = b := by simpa using h.1
    subst e
    unfold Rep at h4 g4
    obtain ⟨p, rfl, h4⟩ := h4
    obtain ⟨p', rfl, g4⟩ := g4
    have e : p = p' := Option.some.inj (h4.symm.trans g4)
    subst e
    exact .cons (.inr (.inl ⟨p, rfl, rfl⟩)) (same_paired h.2 h5 g5)
  | [], _ :: _, _, _, h, _, _ => by simp [sameLocs] at h
  | _ :: _, [], _, _, h, _, _ => by simp [sameLocs] at h
  | .non :: _, _ :: _, _, _, h, _, _ => by simp [sameLocs] at h
  | .bl _ :: _, _ :: _, _, _, h, _, _ => by simp [sameLocs] at h
  | .int _ :: _, _ :: _, _, _, h, _, _ => by simp [sameLocs] at h
  | .str _ :: _, _ :: _, _, _, h, _, _ => by simp [sameLocs] at h
  | .tup _ :: _, _ :: _, _, _, h, _, _ => by simp [sameLocs] at h
  | .lst _ :: _, _ :: _, _, _, h, _, _ => by simp [sameLocs] at h
  | .dct _ :: _, _ :: _, _, _, h, _, _ => by simp [sameLocs] at h
  | .ins _ _ :: _, _ :: _, _, _, h, _, _ => by simp [sameLocs] at h
  | .ty _ :: _, _ :: _, _, _, h, _, _ => by simp [sameLocs] at h
  | .glob _ :: _, _ :: _, _, _, h, _, _ => by simp [sameLocs] at h
  | .scr _ :: _, _ :: _, _, _, h, _, _ => by simp [sameLocs] at h
  | .loc _ :: _, .non :: _, _, _, h, _, _ => by simp [sameLocs] at h
  | .loc _ :: _, .bl _ :: _, _, _, h, _, _ => by simp [sameLocs] at h
  | .loc _ :: _, .int _ :: _, _, _, h, _, _ => by simp [sameLocs] at h
  | .loc _ :: _, .str _ :: _, _, _, h, _, _ => by simp [sameLocs] at h
  | .loc _ :: _, .tup _ :: _, _, _, h, _, _ => by simp [sameLocs] at h
  | .loc _ :: _, .lst _ :: _, _, _, h, _, _ => by simp [sameLocs] at h
  | .loc _ :: _, .dct _ :: _, _, _, h, _, _ => by simp [sameLocs] at h
  | .loc _ :: _, .ins _ _ :: _, _, _, h, _, _ => by simp [sameLocs] at h
  | .loc _ :: _, .ty _ :: _, _, _, h, _, _ => by simp [sameLocs] at h
  | .loc _ :: _, .glob _ :: _, _, _, h, _, _ => by simp [sameLocs] at h
  | .loc _ :: _, .scr _ :: _, _, _, h, _, _ => by simp [sameLocs] at h
theorem op_cmp (ga : GA) (op : COp) (hu : X.A.units + 64 < cLine) : OpR X (compareOp (opC op)) (r2B X ga (cmpop op)) := by
  intro pins s σ H x y v u Q I rx ry h
  obtain ⟨ms, Γ, μ, dx, dy, d, ⟨S, hx, hy⟩, e, q⟩ := h
  have q := q.bl S
  have eqv_of : ∀ {k : Bool}, eqD dx dy = some k → ∃ p p', Dp X.K H x p ∧ Dp X.K H y p' ∧ SeqAt.shaped p = true ∧ SeqAt.shaped p' = true ∧ k = PyData.eqv p p' := fun {k} h => by
    obtain ⟨p, p', e1, e2, s1, s2, e3⟩ := eqD_some h
    exact ⟨p, p', rep_dp S.sub _ _ _ hx e1, rep_dp S.sub _ _ _ hy e2, s1, s2, e3⟩
  unfold cmpop at e
  split at e
  · unfold eqX at e
    cases e0 : eqD dx dy with
    | some b =>
      rw [e0] at e
      cases e
      obtain ⟨p, p', h1, h2, s1, s2, e3⟩ := eqv_of e0
      subst e3
      exact op_eqD hu pins s σ H x y v u Q I rx ry ⟨p, p', h1, h2, s1, s2, q⟩
    | none =>
      rw [e0] at e
      dsimp only at e
      split at e
      · split at e
        · rename_i hz
          cases e
          unfold Rep at hx hy
          obtain ⟨a, vs, rfl, h1, h2, h3⟩ := hx
          obtain ⟨b, us, rfl, g1, g2, g3⟩ := hy
          exact op_eqV hu pins s σ H _ _ v u Q I rx ry ⟨1, by omega, .inl ⟨a, b, vs, us, rfl, rfl, SqL.of (S.sub _ _ h1), SqL.of (S.sub _ _ g1), same_paired hz h3 g3⟩, q⟩
        · cases e
      · cases e
  · unfold neD at e
    cases e0 : eqD dx dy with
    | some b =>
      rw [e0] at e
      cases e
      obtain ⟨p, p', h1, h2, s1, s2, e3⟩ := eqv_of e0
      subst e3
      exact op_neD hu pins s σ H x y v u Q I rx ry ⟨p, p', h1, h2, s1, s2, q⟩
    | none =>
      rw [e0] at e
      exact op_neX hu I rx ry S hx hy (show neX dx dy = some d from e) q
  · cases e; unfold Rep at hx hy
    exact op_lt pins s σ H x y v u Q I rx ry ⟨_, _, hx, hy, q⟩
  · cases e; unfold Rep at hx hy
    exact op_le pins s σ H x y v u Q I rx ry ⟨_, _, hx, hy, q⟩
  · cases e; unfold Rep at hx hy
    exact op_gt pins s σ H x y v u Q I rx ry ⟨_, _, hx, hy, q⟩
  · cases e; unfold Rep at hx hy
    exact op_ge pins s σ H x y v u Q I rx ry ⟨_, _, hx, hy, q⟩
  · cases e; unfold Rep at hx hy
    exact op_lt_str pins s σ H x y v u Q I rx ry ⟨_, _, hx.1, hy.1, q⟩
  · cases e; unfold Rep at hx hy
    exact op_isBl pins s σ H x y v u Q I rx ry ⟨_, _, hx, hy, q⟩
  · cases e; unfold Rep at hx hy
    exact op_notBl pins s σ H x y v u Q I rx ry ⟨_, _, hx, hy, q⟩
  · cases e
    have hy' := hy
    unfold Rep at hy'
    exact op_isN pins s σ H x y v u Q I rx ry ⟨hy', by rw [rep_isNon hx]; exact q⟩
  · cases e
    have hy' := hy
    unfold Rep at hy'
    exact op_notN pins s σ H x y v u Q I rx ry ⟨hy', by rw [rep_isNon hx]; exact q⟩
  · rcases inSeq_some e with ⟨f1, f2, rfl⟩ | ⟨p, qs, e1, e2, s1, s2, s3, rfl⟩
    · unfold Rep at hy
      obtain ⟨a, vs, rfl, h1, h2, h3⟩ := hy
      refine op_in_seq pins s σ H x _ v u Q I rx ry ⟨a, vs, rfl, .inr (h1.mono S.sub).seq, flat_rep hx f1, flats_rep h3 f2, ?_⟩
      rw [any_rep hx f1 h3 f2]; exact q
    · exact op_inP hu pins s σ H x y v u Q I rx ry ⟨p, qs, rep_dp S.sub _ _ _ hx e1, .inl (rep_dp S.sub (.tup _) _ _ hy (by unfold toP; rw [e2]; rfl)), s1, s2, s3, q⟩
  · rcases inSeq_some e with ⟨f1, f2, rfl⟩ | ⟨p, qs, e1, e2, s1, s2, s3, rfl⟩
    · unfold Rep at hy
      obtain ⟨a, vs, rfl, h1, h2, h3⟩ := hy
      refine op_in_seq pins s σ H x _ v u Q I rx ry ⟨a, vs, rfl, .inl (SqL.of (S.sub _ _ h1)), flat_rep hx f1, flats_rep h3 f2, ?_⟩
      rw [any_rep hx f1 h3 f2]; exact q
    · exact op_inP hu pins s σ H x y v u Q I rx ry ⟨p, qs, rep_dp S.sub _ _ _ hx e1, .inr (rep_dp S.sub (.lst _) _ _ hy (by unfold toP; rw [e2]; rfl)), s1, s2, s3, q⟩
  · obtain ⟨b, e0, rfl⟩ := map_not e
    rcases inSeq_some e0 with ⟨f1, f2, rfl⟩ | ⟨p, qs, e1, e2, s1, s2, s3, rfl⟩
    · unfold Rep at hy
      obtain ⟨a, vs, rfl, h1, h2, h3⟩ := hy
      refine op_notIn_seq pins s σ H x _ v u Q I rx ry ⟨a, vs, rfl, .inr (h1.mono S.sub).seq, flat_rep hx f1, flats_rep h3 f2, ?_⟩
      rw [any_rep hx f1 h3 f2]; exact q
    · exact op_notInP hu pins s σ H x y v u Q I rx ry ⟨p, qs, rep_dp S.sub _ _ _ hx e1, .inl (rep_dp S.sub (.tup _) _ _ hy (by unfold toP; rw [e2]; rfl)), s1, s2, s3, q⟩
  · obtain ⟨b, e0, rfl⟩ := map_not e
    rcases inSeq_some e0 with ⟨f1, f2, rfl⟩ | ⟨p, qs, e1, e2, s1, s2, s3, rfl⟩
    · unfold Rep at hy
      obtain ⟨a, vs, rfl, h1, h2, h3⟩ := hy
      refine op_notIn_seq pins s σ H x _ v u Q I rx ry ⟨a, vs, rfl, .inl (SqL.of (S.sub _ _ h1)), flat_rep hx f1, flats_rep h3 f2, ?_⟩
      rw [any_rep hx f1 h3 f2]; exact q
    · exact op_notInP hu pins s σ H x y v u Q I rx ry ⟨p, qs, rep_dp S.sub _ _ _ hx e1, .inr (rep_dp S.sub (.lst _) _ _ hy (by unfold toP; rw [e2]; rfl)), s1, s2, s3, q⟩
  · obtain ⟨c, e1, rfl⟩ := strIn_some e
    unfold Rep at hx hy
    refine op_in_sign pins s σ H x y v u Q I rx ry ⟨c, _, ?_, hy.1, q⟩
    rw [← e1]; exact hx.1
  · obtain ⟨b, e0, rfl⟩ := map_not e
    obtain ⟨c, e1, rfl⟩ := strIn_some e0
    unfold Rep at hx hy
    refine op_notIn_sign pins s σ H x y v u Q I rx ry ⟨c, _, ?_, hy.1, q⟩
    rw [← e1]; exact hx.1
  · cases e
/-! ### truth -/
theorem tru_rep {d : D} {v : V} {k : Bool} (le : Same Γ H) (h : Rep X.K ga ms Γ d v) (e : truthy d = some k) : TruV X.K v H k := by
  cases d with
  | non => cases e; unfold Rep at h; subst h; rfl
  | bl b => cases e; unfold Rep at h; subst h; rfl
  | int i => cases e; unfold Rep at h; subst h; rfl
  | str z =>
    cases e; unfold Rep at h
    obtain ⟨h, hz⟩ := h
    subst h
    refine ⟨hz, ?_⟩
    cases z.length with
    | zero => rfl
    | succ n => simp; omega
  | tup xs =>
    cases e; unfold Rep at h
    obtain ⟨a, vs, rfl, h1, _, h3⟩ := h
    refine .inr (.inl ⟨vs, (h1.mono le).seq, ?_⟩)
    cases xs with
    | nil => rw [h3.nil_iff]; rfl
    | cons x xs => obtain ⟨_, _, rfl, _⟩ := h3.cons_iff; rfl
  | lst xs =>
    cases e; unfold Rep at h
    obtain ⟨a, vs, rfl, h1, _, h3⟩ := h
    refine .inl ⟨vs, SqL.of (le _ _ h1), ?_⟩
    cases xs with
    | nil => rw [h3.nil_iff]; rfl
    | cons x xs => obtain ⟨_, _, rfl, _⟩ := h3.cons_iff; rfl
  | _ => cases e
/-! ### subscripts -/
def r2I (X : Cx) (ga : GA) : R2 := fun x y H Q => ∃ ms Γ μ dx dy d, At2 X ga ms Γ μ H dx dy x y ∧ idxD dx dy μ = some d ∧ PD X ga ms Γ μ H d Q
theorem atI_rep {xs : List D} {vs : List V} {i : Int} {d : D} (r : Reps X.K ga ms Γ xs vs) (h : L2.atI xs i = some d) : ∃ v, L2.atI vs i = some v ∧ Rep X.K ga ms Γ d v := by
  unfold L2.atI at h ⊢
  rw [← r.length]
  cases e : L2.ixN xs.length i with
  | none => rw [e] at h; cases h
  | some j =>
    rw [e] at h
    have h : xs[j]? = some d := h
    obtain ⟨v, h1, h2⟩ := r.get h
    exact ⟨v, h1, h2⟩
theorem map_some {α β : Type} {o : Option α} {f : α → β} {b : β} (h : o.map f = some b) : ∃ a, o = some a ∧ b = f a := by
  cases o with
  | none => cases h
  | some a => cases h; exact ⟨a, rfl, rfl⟩
theorem op_idx (ga : GA) : IxR X (r2I X ga) := by
  intro value slice pins s σ H x y v u Q I rx ry h hs
  obtain ⟨ms, Γ, μ, dx, dy, d, ⟨S, hx, hy⟩, e, q⟩ := h
  unfold idxD at e
  split at e
  · unfold Rep at hx hy
    obtain ⟨a, vs, rfl, h1, _, h3⟩ := hx
    obtain ⟨w, e1, e2⟩ := atI_rep h3 e
    exact ix_tup value slice pins s σ H _ y v u Q I rx ry ⟨a, vs, _, w, rfl, hy, (h1.mono S.sub).seq, e1, q.here S e2⟩ hs
  · unfold Rep at hx hy
    obtain ⟨a, vs, rfl, h1, _, h3⟩ := hx
    obtain ⟨w, e1, e2⟩ := atI_rep h3 e
    exact ix_list value slice pins s σ H _ y v u Q I rx ry ⟨a, vs, _, w, rfl, hy, SqL.of (S.sub _ _ h1), e1, q.here S e2⟩ hs
  · unfold Rep at hx hy
    obtain ⟨a, rfl, h1, _⟩ := hx
    obtain ⟨n, e0, rfl⟩ := map_some e
    refine ix_list value slice pins s σ H _ y v u Q I rx ry ⟨a, _, _, .int n, rfl, hy, S.sub.seq h1, ?_, q.int S⟩ hs
    unfold L2.atI at e0 ⊢
    rw [List.length_map]
    rename_i ns i _
    cases e1 : L2.ixN ns.length i with
    | none => rw [e1] at e0; cases e0
    | some j =>
      rw [e1] at e0
      have e2 : ns[j]? = some n := e0
      show (List.map V.int ns)[j]? = _
      rw [List.getElem?_map, e2]
      rfl
  · unfold Rep at hx hy
    obtain ⟨c, e0, rfl⟩ := map_some e
    exact ix_str value slice pins s σ H x y v u Q I rx ry ⟨_, _, c, hx.1, hy, hx.2, e0, q.str S (by show 1 ≤ sizeLine; rw [sizeLine_eq]; decide)⟩ hs
  · split at e
    · rename_i xs hl
      unfold Rep at hx hy
      obtain ⟨a, rfl, h1⟩ := hx
      obtain ⟨vs, h2, _, h3⟩ := S.st _ _ a hl h1
      obtain ⟨w, e1, e2⟩ := atI_rep h3 e
      exact ix_list value slice pins s σ H _ y v u Q I rx ry ⟨a, vs, _, w, rfl, hy, SqL.of h2, e1, q.here S e2⟩ hs
    · cases e
  · cases e
/-! ### built-in functions -/
def bltVal : Blt → Value
  | .len => .builtin "len" | .abs => .builtin "abs" | .max2 => .builtin "max" | .min2 => .builtin "min" | .int1 => .type "int" | .list1 => .type "list" | .tuple1 => .type "tuple"
  | .isinst => .builtin "isinstance" | .all1 => .builtin "all" | .any1 => .builtin "any" | .sorted1 => .builtin "sorted"
def rBlt (X : Cx) (ga : GA) (f : Blt) : List V → Hp → VK → Prop := fun vs H Q => ∃ ms Γ μ ds d, SI X.K ga ms Γ μ H ∧ Reps X.K ga ms Γ ds vs ∧ blt f ds = some d ∧ PD X ga ms Γ μ H d Q
theorem isB_ok {t T : String} {b : Bool} (ht : t ∈ ["NoneType", "bool", "int", "str", "tuple", "list", "dict"]) (h : isB t T = some b) : kitB t T = some b := by
  have key : ∀ t ∈ ["NoneType", "bool", "int", "str", "tuple", "list", "dict"], ∀ T ∈ ["int", "bool", "str", "tuple", "list", "dict"], kitB t T = isB t T := by decide +kernel
  have hT : T ∈ ["int", "bool", "str", "tuple", "list", "dict"] := by
    unfold isB at h
    split at h
    · rename_i e; subst e; decide
    · split at h
      · rename_i e; subst e; decide
      · split at h
        · rename_i e; subst e; decide
        · split at h
          · rename_i e; subst e; decide
          · split at h
            · rename_i e; subst e; decide
            · split at h
              · rename_i e; subst e; decide
              · cases h
  rw [key t ht T hT, h]
theorem ty_rep {d : D} {v : V} {t : String} (le : Same Γ H) (h : Rep X.K ga ms Γ d v) (e : tyN d = some t) : TyX X.K H v (.type t) ∧ t ∈ ["NoneType", "bool", "int", "str", "tuple", "list", "dict"] := by
  cases d with
  | non => cases e; unfold Rep at h; subst h; exact ⟨.base .non, by decide⟩
  | bl b => cases e; unfold Rep at h; subst h; exact ⟨.base (.bl b), by decide⟩
  | int b => cases e; unfold Rep at h; subst h; exact ⟨.base (.int b), by decide⟩
  | str b => cases e; unfold Rep at h; obtain ⟨h, _⟩ := h; subst h; exact ⟨.base (.str b), by decide⟩
  | tup b =>
    cases e; unfold Rep at h
    obtain ⟨a, vs, rfl, h1, _⟩ := h
    rcases h1 with ⟨o, h1, _⟩ | ⟨o, its, n, h1, h2, _⟩
    · exact ⟨.fTuple (le _ _ h1), by decide⟩
    · exact ⟨.kTuple h1 h2, by decide⟩
  | lst b =>
    cases e; unfold Rep at h
    obtain ⟨a, vs, rfl, h1, _⟩ := h
    exact ⟨.base (.lst (le _ _ h1)), by decide⟩
  | dct b =>
    cases e; unfold Rep at h
    obtain ⟨a, vs, rfl, h1, _⟩ := h
    exact ⟨.base (.dK (le _ _ h1)), by decide⟩
  | _ => cases e
theorem bools_rep : ∀ {ds : List D} {vs : List V} {bs : List Bool}, Reps X.K ga ms Γ ds vs → bools ds = some bs → vs = bs.map V.bl
  | [], vs, bs, h, e => by unfold bools at e; cases e; exact h.nil_iff
  | d :: ds, vs, bs, h, e => by
    obtain ⟨v, r, rfl, h1, h2⟩ := h.cons_iff
    cases d with
    | bl b =>
      obtain ⟨cs, e1, rfl⟩ := map_some (show (bools ds).map (b :: ·) = some bs from e)
      unfold Rep at h1
      subst h1
      rw [bools_rep h2 e1]
      rfl
    | _ => simp [bools] at e
theorem reps1 {d : D} {vs : List V} (h : Reps X.K ga ms Γ [d] vs) : ∃ v, vs = [v] ∧ Rep X.K ga ms Γ d v := by
  obtain ⟨v, r, rfl, h1, h2⟩ := h.cons_iff
  rw [h2.nil_iff]
  exact ⟨v, rfl, h1⟩
theorem reps2 {d e : D} {vs : List V} (h : Reps X.K ga ms Γ [d, e] vs) : ∃ v u, vs = [v, u] ∧ Rep X.K ga ms Γ d v ∧ Rep X.K ga ms Γ e u := by
  obtain ⟨v, r, rfl, h1, h2⟩ := h.cons_iff
  obtain ⟨u, rfl, h3⟩ := reps1 h2
  exact ⟨v, u, rfl, h1, h3⟩
theorem strl_rep {K : PySem.W.Frag} {ga : GA} {ms : List Addr} {Γ : Hp} : ∀ cs : List Nat, Reps K ga ms Γ (cs.map fun c => D.str ⟨#[c]⟩) (cs.map fun c => V.str ⟨#[c]⟩)
  | [] => Reps.nil
  | c :: cs => Reps.cons (by unfold Rep; exact ⟨rfl, by show 1 ≤ sizeLine; rw [sizeLine_eq]; decide⟩) (strl_rep cs)
theorem signs_vals {z : Str} : ∀ {acc : List Value} {cs : List Nat}, acc.length = cs.length → (∀ (j : Nat) (v : Value), acc[j]? = some v → ∃ (c : Nat) (u : Tok), cs[j]? = some c ∧ v = Value.str ⟨#[c]⟩ u) → Vals (cs.map fun c => V.str ⟨#[c]⟩) acc
  | [], [], _, _ => .nil
  | [], _ :: _, h, _ => by simp at h
  | _ :: _, [], h, _ => by simp at h
  | v :: acc, c :: cs, h, f => by
    obtain ⟨c', u, e1, e2⟩ := f 0 v rfl
    have e1 : c = c' := by simpa using e1
    subst e1
    exact .cons ⟨u, e2⟩ (signs_vals (z := z) (by simpa using h) fun j w hj => by
      obtain ⟨c2, u2, e3, e4⟩ := f (j + 1) w (by simpa using hj)
      exact ⟨c2, u2, by simpa using e3, e4⟩)
theorem call_list_strL (hc : X.calm = true) : CallR X (.type "list") (fun xs H Q => ∃ z, xs = [.str z] ∧ z.length ≤ sizeLine ∧ ∀ l, H l = none → Q (.ref l) (upd H l (.lst (z.cps.toList.map fun c => V.str ⟨#[c]⟩)))) := by
  intro pins s σ H xs us Q I r h
  obtain ⟨z, rfl, hz, q⟩ := h
  obtain ⟨u, rfl, t, rfl⟩ := vals1 r
  refine PySem.call_list_str (I.ok.hd hc) z t (fun h' tk acc c' kp e hi => ?_) (by simpa [Str.length] using hz)
  have hv : Vals (z.cps.toList.map fun c => V.str ⟨#[c]⟩) acc.toList := by
    refine signs_vals (z := z) (by simpa using hi.1) fun j v hj => ?_
    obtain ⟨c, u, e1, e2⟩ := hi.2 j v (by simpa using hj)
    exact ⟨c, u, by simpa using e1, e2⟩
  refine ⟨.ref s.heap.objs.size, _, I.laid (t' := tk) (o := .lst (z.cps.toList.map fun c => V.str ⟨#[c]⟩)) kp (Nat.le_refl _) ?_, rfl, q _ (I.hok.fresh (Nat.le_refl _))⟩
  exact ⟨by rw [List.length_map]; simpa [Str.length] using hz, acc.toList, c', hv, by simpa using e⟩
theorem strs_rep : ∀ {ds : List D} {vs : List V} {ys : List Str}, Reps X.K ga ms Γ ds vs → strsD ds = some ys → vs = ys.map V.str
  | [], vs, ys, h, e => by unfold strsD at e; cases e; exact h.nil_iff
  | d :: ds, vs, ys, h, e => by
    obtain ⟨v, r, rfl, h1, h2⟩ := h.cons_iff
    cases d with
    | str b =>
      obtain ⟨cs, e1, rfl⟩ := map_some (show (strsD ds).map (b :: ·) = some ys from e)
      unfold Rep at h1
      obtain ⟨h1, _⟩ := h1
      subst h1
      rw [strs_rep h2 e1]
      rfl
    | _ => simp [strsD] at e
theorem strs_len : ∀ {ds : List D} {vs : List V} {ys : List Str}, Reps X.K ga ms Γ ds vs → strsD ds = some ys → ∀ z ∈ ys, z.length ≤ sizeLine
  | [], vs, ys, h, e => by unfold strsD at e; cases e; intro z hz; cases hz
  | d :: ds, vs, ys, h, e => by
    obtain ⟨v, r, rfl, h1, h2⟩ := h.cons_iff
    cases d with
    | str b =>
      obtain ⟨cs, e1, rfl⟩ := map_some (show (strsD ds).map (b :: ·) = some ys from e)
      unfold Rep at h1
      intro z hz
      rcases List.mem_cons.mp hz with rfl | hz
      · exact h1.2
      · exact strs_len h2 e1 z hz
    | _ => simp [strsD] at e
theorem strs_reps {K : PySem.W.Frag} {ga : GA} {ms : List Addr} {Γ : Hp} : ∀ {zs : List Str}, (∀ z ∈ zs, z.length ≤ sizeLine) → Reps K ga ms Γ (zs.map D.str) (zs.map V.str)
  | [], _ => Reps.nil
  | z :: zs, h => Reps.cons (by unfold Rep; exact ⟨rfl, h z (List.mem_cons_self ..)⟩) (strs_reps fun y hy => h y (List.mem_cons_of_mem _ hy))
theorem op_blt (ga : GA) (hc : X.calm = true) (f : Blt) : CallR X (bltVal f) (rBlt X ga f) := by
  intro pins s σ H vs us Q I r h
  obtain ⟨ms, Γ, μ, ds, d, S, hr, e, q⟩ := h
  unfold blt at e
  split at e
  · obtain ⟨n, e0, rfl⟩ := map_some e
    obtain ⟨v, rfl, hx⟩ := reps1 hr
    refine call_len pins s σ H _ us Q I r ⟨v, n, rfl, ?_, q.int S⟩
    rename_i x
    cases x with
    | str z => cases e0; unfold Rep at hx; obtain ⟨hx, hz⟩ := hx; subst hx; exact ⟨hz, rfl⟩
    | tup xs =>
      cases e0; unfold Rep at hx
      obtain ⟨a, vs, rfl, h1, _, h3⟩ := hx
      exact .inr ⟨vs, (h1.mono S.sub).seq, h3.length⟩
    | lst xs =>
      cases e0; unfold Rep at hx
      obtain ⟨a, vs, rfl, h1, _, h3⟩ := hx
      exact .inl ⟨vs, SqL.of (S.sub _ _ h1), h3.length⟩
    | scr ns =>
      cases e0; unfold Rep at hx
      obtain ⟨a, rfl, h1, _⟩ := hx
      exact .inl ⟨_, S.sub.seq h1, by rw [List.length_map]⟩
    | _ => cases e0
  · cases e
    obtain ⟨v, rfl, hx⟩ := reps1 hr
    unfold Rep at hx; subst hx
    exact call_abs pins s σ H _ us Q I r ⟨_, rfl, q.int S⟩
  · cases e
    obtain ⟨v, u, rfl, hx, hy⟩ := reps2 hr
    unfold Rep at hx hy; subst hx hy
    exact call_max2 hc pins s σ H _ us Q I r ⟨_, _, rfl, q.int S⟩
  · cases e
    obtain ⟨v, u, rfl, hx, hy⟩ := reps2 hr
    unfold Rep at hx hy; subst hx hy
    exact call_min2 hc pins s σ H _ us Q I r ⟨_, _, rfl, q.int S⟩
  · cases e
    obtain ⟨v, rfl, hx⟩ := reps1 hr
    unfold Rep at hx; subst hx
    exact call_int1 pins s σ H _ us Q I r (.inl ⟨_, rfl, q.int S⟩)
  · cases e
    obtain ⟨v, rfl, hx⟩ := reps1 hr
    unfold Rep at hx; subst hx
    exact call_int1 pins s σ H _ us Q I r (.inr ⟨_, rfl, q.int S⟩)
  · cases e
    obtain ⟨v, rfl, hx⟩ := reps1 hr
    unfold Rep at hx
    obtain ⟨a, vs, rfl, h1, h2, h3⟩ := hx
    exact call_list_of pins s σ H _ us Q I r ⟨a, vs, rfl, .inr (h1.mono S.sub).seq, q.newL S h3 h2⟩
  · cases e
    obtain ⟨v, rfl, hx⟩ := reps1 hr
    unfold Rep at hx
    obtain ⟨a, vs, rfl, h1, h2, h3⟩ := hx
    exact call_list_of pins s σ H _ us Q I r ⟨a, vs, rfl, .inl (SqL.of (S.sub _ _ h1)), q.newL S h3 h2⟩
  · cases e
    obtain ⟨v, rfl, hx⟩ := reps1 hr
    unfold Rep at hx
    obtain ⟨e, hz⟩ := hx
    subst e
    exact call_list_strL hc pins s σ H _ us Q I r ⟨_, rfl, hz, q.newL S (strl_rep _) (by rw [List.length_map]; simpa [Str.length] using hz)⟩
  · cases e
    obtain ⟨v, rfl, hx⟩ := reps1 hr
    have hx' := hx
    unfold Rep at hx
    obtain ⟨a, vs, rfl, h1, h2, h3⟩ := hx
    exact call_tuple_ofF pins s σ H _ us Q I r ⟨a, vs, rfl, .inr ⟨(h1.mono S.sub).seq, q.here S hx'⟩⟩
  · cases e
    obtain ⟨v, rfl, hx⟩ := reps1 hr
    unfold Rep at hx
    obtain ⟨a, vs, rfl, h1, h2, h3⟩ := hx
    exact call_tuple_ofF pins s σ H _ us Q I r ⟨a, vs, rfl, .inl ⟨SqL.of (S.sub _ _ h1), q.newT S h3 h2⟩⟩
  · obtain ⟨v, u, rfl, hx, hy⟩ := reps2 hr
    split at e
    · rename_i t ht
      obtain ⟨b, e0, rfl⟩ := map_some e
      obtain ⟨ty, hm⟩ := ty_rep S.sub hx ht
      unfold Rep at hy; subst hy
      exact call_isi pins s σ H _ us Q I r ⟨v, _, _, _, b, rfl, .ty _, ty, kit_ty (isB_ok hm e0), q.bl S⟩
    · cases e
  · obtain ⟨v, rfl, hx⟩ := reps1 hr
    obtain ⟨bs, e0, rfl⟩ := map_some e
    unfold Rep at hx
    obtain ⟨a, vs, rfl, h1, h2, h3⟩ := hx
    refine cr_all hc pins s σ H _ us Q I r ⟨a, bs, rfl, ?_, q.bl S⟩
    rw [← bools_rep h3 e0]
    exact SqL.of (S.sub _ _ h1)
  · obtain ⟨v, rfl, hx⟩ := reps1 hr
    obtain ⟨bs, e0, rfl⟩ := map_some e
    unfold Rep at hx
    obtain ⟨a, vs, rfl, h1, h2, h3⟩ := hx
    refine cr_any hc pins s σ H _ us Q I r ⟨a, bs, rfl, ?_, q.bl S⟩
    rw [← bools_rep h3 e0]
    exact SqL.of (S.sub _ _ h1)
  · obtain ⟨v, rfl, hx⟩ := reps1 hr
    split at e
    · rename_i ys hy
      split at e
      · rename_i hz
        cases e
        unfold Rep at hx
        obtain ⟨a, vs, rfl, h1, h2, h3⟩ := hx
        have ev := strs_rep h3 hy
        have hl := strs_len h3 hy
        refine cr_sortedS pins s σ H _ us Q I r ⟨a, ys, rfl, by rw [← ev]; exact SqL.of (S.sub _ _ h1), hz, fun zs p hp hs hn => ?_⟩
        rw [sorted_is hp hs]
        refine q.newL S (vs := (sortS ys).map V.str) (strs_reps fun z hm => hl z ((sort_perm ys).mem_iff.mp hm)) ?_ p hn
        rw [List.length_map, (sort_perm ys).length_eq]
        exact small64 hz
      · cases e
    · cases e
  · cases e
/-! ### methods -/
def rIndexT (K : PySem.W.Frag) : V → List V → Hp → VK → Prop := fun x xs H Q => ∃ (a : Addr) (ys : List V) (y : V) (j : Nat) (z : V), x = V.ref a ∧ xs = [y] ∧ SqT K H a ys ∧ flatV y = true ∧ ys.all flatV = true ∧ ys[j]? = some z ∧ eqV z y = true ∧
  (∀ (m : Nat) (z' : V), m < j → ys[m]? = some z' → eqV z' y = false) ∧ Q (.int (j : Nat)) H
theorem mt_tindex : MtR X "tuple.index" (rIndexT X.K) := by
  intro pins s σ H x xs v us Q I rx rxs h
  obtain ⟨a, ys, y, j, z, rfl, rfl, hs, fy, fys, hz, hzj, hno, q⟩ := h
  cases rx
  obtain ⟨uy, rfl, ry⟩ := vals1 rxs
  obtain ⟨its, rv, ⟨⟨cls, dd, data, sl⟩, ho, hc, n, hd⟩, hlen⟩ := I.tuple hs
  simp only at hc hd
  subst hc hd
  obtain ⟨u, hu, ru⟩ := rv.get hz
  obtain ⟨hjl, hje⟩ := List.getElem?_eq_some_iff.mp hu
  have hvl := rv.length
  have hj : j < its.toArray.size := by simpa using hjl
  refine call_meets PySem.F.slot_tuple_index ⟨_, ho, rfl⟩ PySem.F.entry_tuple_index (PySem.F.args_tuple_index_2 _ _)
    (TI.tuple_indexAt a its.toArray n dd sl uy (eqU y) j hj ?_ ?_) ⟨ho, fun u' hu' => mem_eqAt ry fy rv fys u' (by simpa using hu'), ?_⟩
  · have e1 : its.toArray[j] = u := by simpa using hje
    rw [e1, eqU_of ru (flat_at fys hz)]
    exact hzj
  · intro m hm hmj
    have hml : m < its.length := by simpa using hm
    have hmy : m < ys.length := by omega
    have hy' : ys[m]? = some ys[m] := List.getElem?_eq_getElem hmy
    obtain ⟨u2, hu2, ru2⟩ := rv.get hy'
    obtain ⟨_, hme⟩ := List.getElem?_eq_some_iff.mp hu2
    have e1 : its.toArray[m] = u2 := by simpa using hme
    rw [e1, eqU_of ru2 (flat_at fys hy')]
    exact hno m _ hmj hy'
  · exact ⟨.int (j : Nat), H, I.tok _, ⟨_, rfl⟩, q⟩
theorem index_rep {y : D} {w : V} (hy : Rep X.K ga ms Γ y w) (fy : flat y = true) : ∀ {ds : List D} {vs : List V} {n k : Nat}, Reps X.K ga ms Γ ds vs → ds.all flat = true → index y ds n = some k →
    n ≤ k ∧ ∃ z, vs[k - n]? = some z ∧ eqV z w = true ∧ ∀ (m : Nat) (z' : V), m < k - n → vs[m]? = some z' → eqV z' w = false
  | [], _, _, _, _, _, e => by unfold index at e; cases e
  | x :: xs, vs, n, k, h, f, e => by
    obtain ⟨v, r, rfl, h1, h2⟩ := h.cons_iff
    have f := Bool.and_eq_true_iff.mp (show (flat x && xs.all flat) = true from f)
    unfold index at e
    have ev := eqF_rep h1 hy f.1 fy
    split at e
    · rename_i he
      cases e
      refine ⟨Nat.le_refl _, v, by rw [Nat.sub_self]; rfl, by rw [ev]; exact he, fun m z' hm _ => ?_⟩
      rw [Nat.sub_self] at hm
      exact absurd hm (Nat.not_lt_zero _)
    · rename_i he
      obtain ⟨i1, z, i2, i3, i4⟩ := index_rep hy fy h2 f.2 e
      have e1 : k - n = (k - (n + 1)) + 1 := by omega
      refine ⟨by omega, z, by rw [e1, List.getElem?_cons_succ]; exact i2, i3, fun m z' hm hz => ?_⟩
      cases m with
      | zero =>
        have hz : v = z' := by simpa using hz
        subst hz
        rw [ev]
        exact Bool.eq_false_iff.mpr he
      | succ m => exact i4 m z' (by omega) (by simpa using hz)
def mthTy : Mth → String
  | .join => "str" | .tindex => "tuple" | .lindex => "list"
def mthNm : Mth → Str
  | .join => "join" | .tindex => "index" | .lindex => "index"
def mthId : Mth → String
  | .join => "str.join" | .tindex => "tuple.index" | .lindex => "list.index"
def rMth (X : Cx) (ga : GA) (m : Mth) : V → List V → Hp → VK → Prop := fun x vs H Q => ∃ ms Γ μ dx ds d, SI X.K ga ms Γ μ H ∧ Rep X.K ga ms Γ dx x ∧ Reps X.K ga ms Γ ds vs ∧ meth m dx ds = some d ∧ PD X ga ms Γ μ H d Q
theorem join_len (a : Str) (ys : List Str) (h : (ys.map (·.length)).sum + ys.length * a.length ≤ 16777216) : (Str.join a ys).length ≤ sizeLine := by
  rw [sizeLine_eq]
  exact Nat.le_trans (StrLaws.join_length_le a ys) h
theorem op_mth (ga : GA) (m : Mth) : MtR X (mthId m) (rMth X ga m) := by
  intro pins s σ H x vs v us Q I rx r h
  obtain ⟨ms, Γ, μ, dx, ds, d, S, hx, hr, e, q⟩ := h
  unfold meth at e
  split at e
  · split at e
    · rename_i ys he
      split at e
      · rename_i hz
        cases e
        obtain ⟨w, rfl, hy⟩ := reps1 hr
        unfold Rep at hx hy
        obtain ⟨p, vs, rfl, h1, h2, h3⟩ := hy
        refine mt_join pins s σ H x _ v us Q I rx r ⟨_, p, ys, hx.1, rfl, .inl ?_, hz, by rw [TL.join_eq]; exact q.str S (join_len _ _ hz)⟩
        rw [← strs_rep h3 he]
        exact SqL.of (S.sub _ _ h1)
      · cases e
    · cases e
  · split at e
    · rename_i hf
      obtain ⟨n, e0, rfl⟩ := map_some e
      obtain ⟨w, rfl, hy⟩ := reps1 hr
      obtain ⟨f1, f2⟩ := Bool.and_eq_true_iff.mp hf
      unfold Rep at hx
      obtain ⟨p, vs, rfl, h1, h2, h3⟩ := hx
      obtain ⟨_, z, i2, i3, i4⟩ := index_rep hy f1 h3 f2 e0
      exact mt_tindex pins s σ H _ _ v us Q I rx r ⟨p, vs, w, n, z, rfl, rfl, (h1.mono S.sub).seq, flat_rep hy f1, flats_rep h3 f2, i2, i3, i4, q.int S⟩
    · cases e
  · split at e
    · rename_i hf
      obtain ⟨n, e0, rfl⟩ := map_some e
      obtain ⟨w, rfl, hy⟩ := reps1 hr
      obtain ⟨f1, f2⟩ := Bool.and_eq_true_iff.mp hf
      unfold Rep at hx
      obtain ⟨p, vs, rfl, h1, h2, h3⟩ := hx
      obtain ⟨_, z, i2, i3, i4⟩ := index_rep hy f1 h3 f2 e0
      exact mt_index pins s σ H _ _ v us Q I rx r ⟨p, vs, w, n, z, rfl, rfl, SqL.of (S.sub _ _ h1), flat_rep hy f1, flats_rep h3 f2, i2, i3, i4, q.int S⟩
    · cases e
  · cases e
end
section
variable {X : Cx} {ga : GA} {ms : List Addr} {Γ : Hp} {μ : Store} {H : Hp}
/-! ### slices -/
theorem Reps.drop {K : PySem.W.Frag} : ∀ (n : Nat) {ds : List D} {vs : List V}, Reps K ga ms Γ ds vs → Reps K ga ms Γ (ds.drop n) (vs.drop n)
  | 0, _, _, h => h
  | n + 1, [], vs, h => by rw [h.nil_iff]; exact Reps.nil
  | n + 1, d :: ds, vs, h => by
    obtain ⟨v, r, rfl, _, h2⟩ := h.cons_iff
    exact Reps.drop n h2
theorem Reps.take {K : PySem.W.Frag} : ∀ (n : Nat) {ds : List D} {vs : List V}, Reps K ga ms Γ ds vs → Reps K ga ms Γ (ds.take n) (vs.take n)
  | 0, _, _, h => by rw [List.take_zero, List.take_zero]; exact Reps.nil
  | n + 1, [], vs, h => by rw [h.nil_iff]; exact Reps.nil
  | n + 1, d :: ds, vs, h => by
    obtain ⟨v, r, rfl, h1, h2⟩ := h.cons_iff
    exact Reps.cons h1 (Reps.take n h2)
theorem Reps.cut {K : PySem.W.Frag} {ds : List D} {vs : List V} (h : Reps K ga ms Γ ds vs) (lo hi : Option Int) : Reps K ga ms Γ (cutD ds lo hi) (L2.cutV vs lo hi) := by
  unfold cutD L2.cutV
  rw [h.length]
  exact (h.drop _).take _
theorem cutD_length {α : Type} (xs : List α) (lo hi : Option Int) : (cutD xs lo hi).length ≤ xs.length := by
  unfold cutD
  rw [List.length_take, List.length_drop]
  omega
def rSlD (X : Cx) (ga : GA) : V → Option Int → Option Int → Hp → VK → Prop := fun x lo hi H Q => ∃ ms Γ μ dx d, SI X.K ga ms Γ μ H ∧ Rep X.K ga ms Γ dx x ∧ sliceD dx (lo, hi) = some d ∧ PD X ga ms Γ μ H d Q
theorem op_sl (ga : GA) : SlR X (rSlD X ga) := by
  intro pins s σ H x v vl vu lo hi sl Q I rx hs pl pu h
  obtain ⟨ms, Γ, μ, dx, d, S, r, e, q⟩ := h
  cases dx with
  | str z =>
    cases e
    unfold Rep at r
    obtain ⟨rfl, hz⟩ := r
    exact sl_str pins s σ H _ v vl vu lo hi sl Q I rx hs pl pu ⟨z, rfl, hz, q.str S (Nat.le_trans (cutS_length z lo hi) hz)⟩
  | tup xs =>
    cases e
    have r' := r
    unfold Rep at r
    obtain ⟨a, vs, rfl, h1, h2, h3⟩ := r
    refine sl_tupF pins s σ H _ v vl vu lo hi sl Q I rx hs pl pu ⟨a, vs, rfl, (h1.mono S.sub).seq, fun hw => ?_, fun _ => q.newT S (h3.cut lo hi) (Nat.le_trans (cutD_length xs lo hi) h2)⟩
    rw [← h3.length] at hw
    refine q.here S ?_
    have e : cutD xs lo hi = xs := by
      unfold cutD
      rw [hw.1, hw.2, List.drop_zero, Nat.sub_zero, List.take_length]
    rw [e]
    exact r'
  | lst xs =>
    cases e
    unfold Rep at r
    obtain ⟨a, vs, rfl, h1, h2, h3⟩ := r
    exact sl_list pins s σ H _ v vl vu lo hi sl Q I rx hs pl pu ⟨a, vs, rfl, SqL.of (S.sub _ _ h1), q.newL S (h3.cut lo hi) (Nat.le_trans (cutD_length xs lo hi) h2)⟩
  | _ => cases e
end
end LD

set_option Elab.async false
set_option linter.all false
set_option maxRecDepth 100000
set_option maxHeartbeats 2000000
/-! LD5: the checker of expressions, and that expressions do what the interpreter says. -/
namespace LD
open PySem PySem.Spec PyProof.Rows L2 HT

/-! ### the checker -/
def visC (sc : Scope) (x : Str) : Bool := match sc.names.lookup x with
  | some .local => true | some .cell => true | some .free => true | _ => false
def locC (sc : Scope) (x : Str) : Bool := match sc.names.lookup x with
  | some .local => true | some .cell => true | _ => false
def cfC (sc : Scope) (x : Str) : Bool := match sc.names.lookup x with
  | some .cell => true | some .free => true | _ => false
def glC (sc : Scope) (x : Str) : Bool := match sc.names.lookup x with
  | some .globalImplicit => true | _ => false
def notStar : Expr → Bool
  | .Starred _ _ => false
  | _ => true
def notSet : Expr → Bool
  | .Set _ _ _ => false
  | _ => true
def plainIx : Expr → Bool
  | .Slice _ _ _ _ => false
  | _ => true
def notSuper : Expr → Bool
  | .Call (.Name _ _) [] [] _ => false
  | _ => true
def okName (x : Str) : Bool := !(x == ("__debug__" : Str)) && !(x == ("__classdict__" : Str)) && !(x == ("__name__" : Str))
def bltNm : Blt → Str
  | .len => "len" | .abs => "abs" | .max2 => "max" | .min2 => "min" | .int1 => "int" | .list1 => "list" | .tuple1 => "tuple" | .isinst => "isinstance" | .all1 => "all" | .any1 => "any" | .sorted1 => "sorted"
def types : List String := ["int", "bool", "str", "tuple", "list", "dict"]
def bltNames : List Str := ["len", "abs", "max", "min", "int", "list", "tuple", "isinstance", "all", "any", "range", "bool", "str", "dict", "sorted", "zip", "ValueError", "KeyError", "IndexError", "LookupError", "OverflowError"]
/-- built-in exception classes in isinstance -/
def xbN : List String := ["ValueError", "KeyError", "IndexError", "LookupError", "OverflowError"]
def xtC : XT → Str → Bool
  | .own c, z => decide (z = c)
  | .blt n, z => decide (z = Str.ofString n) && decide (n ∈ xbN)
def conC : D → Expr → Bool
  | .non, .Constant .none _ _ => true
  | .bl b, .Constant (.bool c) _ _ => b == c
  | .int i, .Constant (.int j) _ _ => decide (i = j)
  | .str s, .Constant (.str t) _ _ => decide (s = t) && decide (s.length ≤ LINE)
  | _, _ => false
def nIs (N : List Str) (sc : Scope) (i : Nat) (x : Str) : Bool := decide (N[i]? = some x) && visC sc x && okName x
def ownNames (N : List Str) (is : List Nat) : List (Str × Nat) := is.filterMap fun i => (N[i]?).map fun x => (x, i)
def tgsC (N : List Str) (sc : Scope) : List Nat → List Expr → Bool
  | [], [] => true
  | i :: is, .Name x _ :: es => decide (N[i]? = some x) && locC sc x && tgsC N sc is es
  | _, _ => false
def tgC (N : List Str) (sc : Scope) : Tg → Expr → Bool
  | .name i, .Name x _ => decide (N[i]? = some x) && locC sc x
  | .tup is, .Tuple es _ _ => tgsC N sc is es
  | _, _ => false
/-- a comprehension's block: its own names are those of the slots -/
def blkOkC (N : List Str) (sc scope : Scope) (is : List Nat) : Bool :=
  decide (scope.kind = .function) && (scope.names.all fun y => decide (scope.names.lookup y.1 = some y.2)) && (is.all fun i => (N[i]?).isSome) &&
    (scope.names.all fun y => match y.2 with
      | .free => cfC sc y.1
      | .local => decide (y.1 ∈ (ownNames N is).map (·.1)) || decide (y.1 ∉ N)
      | .cell => decide (y.1 ∈ (ownNames N is).map (·.1)) || decide (y.1 ∉ N)
      | _ => true)
def partsOf : SK → Option Expr → Option Expr → Option (List Expr)
  | .all, none, none => some []
  | .lo, some y, none => some [y]
  | .hi, none, some y => some [y]
  | .both, some y, some z => some [y, z]
  | _, _, _ => none
def isCS : Ex → Bool
  | .con (.str _) => true
  | _ => false
/-- zip's items are only taken apart -/
def zipT : IK → Tg → Bool
  | .zip, .name _ => false
  | _, _ => true
def zipX : IK → Expr → Bool
  | .zip, .Tuple _ _ _ => true
  | .zip, _ => false
  | _, _ => true
mutual
def chk (N : List Str) (T : Tb) : Scope → Ex → Expr → Bool
  | sc, .con (.ty T), .Name x _ => decide (x = Str.ofString T) && decide (T ∈ types) && glC sc x && okName x
  | _, .con d, e => conC d e
  | sc, .var i, .Name x _ => nIs N sc i x
  | sc, .glob x, .Name y _ => decide (x = y) && glC sc y && okName y
  | sc, .bin op a b, .BinOp x o y _ => decide (o = opB op) && chk N T sc a x && chk N T sc b y
  | sc, .neg a, .UnaryOp .USub x _ => chk N T sc a x
  | sc, .cmp op a b, .Compare x [o] [y] _ => decide (o = opC op) && chk N T sc a x && chk N T sc b y && notSet y
  | sc, .chain op op' a b c, .Compare x [o, o'] [y, z] _ => decide (o = opC op) && decide (o' = opC op') && chk N T sc a x && chk N T sc b y && chk N T sc c z && notSet z
  | sc, .and_ a b, .BoolOp .And [x, y] _ => chk N T sc a x && chk N T sc b y
  | sc, .and_ a b, .BoolOp .And (x :: y :: z :: r) p => chk N T sc a x && chk N T sc b (.BoolOp .And (y :: z :: r) p)
  | sc, .or_ a b, .BoolOp .Or [x, y] _ => chk N T sc a x && chk N T sc b y
  | sc, .or_ a b, .BoolOp .Or (x :: y :: z :: r) p => chk N T sc a x && chk N T sc b (.BoolOp .Or (y :: z :: r) p)
  | sc, .not_ a, .UnaryOp .Not x _ => chk N T sc a x
  | sc, .ite c a b, .IfExp t x y _ => chk N T sc c t && chk N T sc a x && chk N T sc b y
  | sc, .tup es, .Tuple xs _ _ => chks N T sc es xs
  | sc, .lst es, .List xs _ => chks N T sc es xs
  | sc, .newl es, .List xs _ => chks N T sc es xs
  | sc, .idx a b, .Subscript x y _ => chk N T sc a x && chk N T sc b y && plainIx y
  | sc, .bidx i b, .Subscript (.Name x _) y _ => nIs N sc i x && chk N T sc b y && plainIx y
  | sc, .rev a, .Subscript x (.Slice none none (some (.UnaryOp .USub (.Constant (.int i) _ _) _)) _) _ => decide (i = 1) && chk N T sc a x
  | sc, .popl o k, .Call (.Attribute x n ap) [y] [] cp => decide (n = ("pop" : Str)) && chk N T sc o x && notSuper x && chk N T sc k y && notStar y && decide (ap.endLine = cp.line)
  | sc, .llen a, .Call (.Name x _) [y] [] _ => decide (x = ("len" : Str)) && glC sc x && chk N T sc a y && notStar y
  | sc, .newc a, .Call (.Name x _) [y] [] _ => decide (x = ("list" : Str)) && glC sc x && chk N T sc a y && notStar y
  | sc, .dget o k, .Subscript x y _ => chk N T sc o x && chk N T sc k y && plainIx y
  | sc, .din neg k o, .Compare x [op] [y] _ => decide (op = if neg then CmpOp.NotIn else CmpOp.In) && chk N T sc k x && chk N T sc o y && notSet y
  | sc, .dsort o, .Call (.Name x _) [y] [] _ => decide (x = ("sorted" : Str)) && glC sc x && chk N T sc o y && notStar y
  | _, .newn, .Dict [] [] _ => true
  | sc, .attr o f cs, .Attribute y n _ => decide (n = f) && chk N T sc o y && notSuper y && cs.all fun c => decide ((c, f) ∈ T.fl)
  | sc, .mcall c m f o es, .Call (.Attribute y n ap) xs [] cp => decide (n = m) && chk N T sc o y && notSuper y && decide ((c, m, f, xs.length + 1) ∈ T.mt) && chks N T sc es xs && decide (ap.endLine = cp.line) && decide (xs.length < 30)
  | sc, .prop c m f o, .Attribute y n _ => decide (n = m) && chk N T sc o y && notSuper y && decide ((c, m, f) ∈ T.pr)
  | sc, .new c f es ds, .Call (.Name x _) xs [] _ => decide (x = c) && decide ((c, f, xs.length + 1 + ds.length, ds) ∈ T.nw) && glC sc x && okName x && chks N T sc es xs
  | sc, .olen c f o, .Call (.Name x _) [y] [] _ => decide (x = ("len" : Str)) && glC sc x && chk N T sc o y && notStar y && decide ((c, ("__len__" : Str), f, 1) ∈ T.mt)
  | sc, .oin c f neg k o, .Compare x [op] [y] _ => decide (op = if neg then CmpOp.NotIn else CmpOp.In) && chk N T sc k x && chk N T sc o y && notSet y && decide ((c, ("__contains__" : Str), f, 2) ∈ T.mt)
  | sc, .ostr c f o, .Call (.Name x _) [y] [] _ => decide (x = ("str" : Str)) && glC sc x && chk N T sc o y && notStar y && decide ((c, ("__str__" : Str), f, 1) ∈ T.mt)
  | sc, .fstr es, .JoinedStr xs _ => chkF N T sc es xs && decide (2 ≤ xs.length)
  | sc, .lin neg k o, .Compare x [op] [y] _ => decide (op = if neg then CmpOp.NotIn else CmpOp.In) && chk N T sc k x && chk N T sc o y && notSet y
  | sc, .lsort o, .Call (.Name x _) [y] [] _ => decide (x = ("sorted" : Str)) && glC sc x && chk N T sc o y && notStar y
  | _, .never, _ => true
  | sc, .newd es, .Dict ks vs _ => chkD N T sc es ks vs && decide (ks.length ≤ 15) && decide (ks.length = vs.length) && ks.all (·.isSome)
  | sc, .mkx c (some f) e, .Call (.Name x _) [y] [] _ => decide (x = c) && glC sc x && okName x && chk N T sc e y && notStar y && decide ((c, f) ∈ T.xm)
  | sc, .mkx c none e, .Call (.Name x _) [y] [] _ => decide (x = c) && glC sc x && okName x && chk N T sc e y && notStar y && decide ((c, 1000) ∈ T)
  | sc, .isx e t yes no, .Call (.Name x _) [y, .Name z _] [] _ => decide (x = ("isinstance" : Str)) && glC sc x && chk N T sc e y && notStar y && xtC t z && glC sc z && okName z && (yes.all fun c => decide ((c, t, true) ∈ T.xi)) && (no.all fun c => decide ((c, t, false) ∈ T.xi)) && !(yes ++ no).isEmpty
  | sc, .fldx e f cs, .Attribute y n _ => decide (n = f) && chk N T sc e y && notSuper y && cs.all fun c => decide ((c, f) ∈ T.xm)
  | sc, .call f es, .Call (.Name x _) xs [] _ => decide (f = x) && decide (xs.length ≠ 1000) && decide ((f, xs.length) ∈ T) && glC sc x && okName x && chks N T sc es xs
  | sc, .blt f es, .Call (.Name x _) (y :: ys) [] _ => decide (x = bltNm f) && glC sc x && chks N T sc es (y :: ys)
  | sc, .slice k a es, .Subscript x (.Slice lo hi none _) _ => chk N T sc a x && (match partsOf k lo hi with
    | some ys => chks N T sc es ys
    | none => false)
  | sc, .dict es, .Dict ks vs _ => chkD N T sc es ks vs && decide (ks.length ≤ 15) && decide (ks.length = vs.length) && ks.all (·.isSome)
  | sc, .meth m o es, .Call (.Attribute x n ap) [y] [] cp => decide (n = mthNm m) && chk N T sc o x && notSuper x && chks N T sc es [y] && decide (ap.endLine = cp.line)
  | sc, .comp elt t k its none, .ListComp e [⟨tg, it, [], as⟩] scope _ => zipT k t && decide (as = 0) && chk N T scope elt e && tgC N scope t tg && itC N T sc k its it && blkOkC N sc scope t.slots
  | sc, .comp elt t k its (some c), .ListComp e [⟨tg, it, [cc], as⟩] scope _ => zipT k t && decide (as = 0) && chk N T scope elt e && chk N T scope c cc && tgC N scope t tg && itC N T sc k its it && blkOkC N sc scope t.slots
  | sc, .comps elt t o none, .ListComp e [⟨tg, it, [], as⟩] scope _ => pureE elt && decide (as = 0) && chk N T scope elt e && tgC N scope t tg && chk N T sc o it && notSet it && blkOkC N sc scope t.slots
  | sc, .comps elt t o (some c), .ListComp e [⟨tg, it, [cc], as⟩] scope _ => pureE elt && pureE c && decide (as = 0) && chk N T scope elt e && chk N T scope c cc && tgC N scope t tg && chk N T sc o it && notSet it && blkOkC N sc scope t.slots
  | _, _, _ => false
def chks (N : List Str) (T : Tb) : Scope → Exs → List Expr → Bool
  | _, .nil, [] => true
  | sc, .cons e es, x :: xs => chk N T sc e x && notStar x && chks N T sc es xs
  | _, _, _ => false
def chkF (N : List Str) (T : Tb) : Scope → Exs → List Expr → Bool
  | _, .nil, [] => true
  | sc, .cons e es, .Constant (.str s) j p :: xs => isCS e && chk N T sc e (.Constant (.str s) j p) && chkF N T sc es xs
  | sc, .cons e es, .FormattedValue x c none _ :: xs => decide (c = -1) && chk N T sc e x && chkF N T sc es xs
  | _, _, _ => false
def chkD (N : List Str) (T : Tb) : Scope → Exs → List (Option Expr) → List Expr → Bool
  | _, .nil, [], [] => true
  | sc, .cons k (.cons v es), some x :: xs, y :: ys => chk N T sc k x && chk N T sc v y && chkD N T sc es xs ys
  | _, _, _, _ => false
def itC (N : List Str) (T : Tb) : Scope → IK → Exs → Expr → Bool
  | sc, .val, .cons e .nil, x => chk N T sc e x && notSet x
  | sc, .rng1, .cons a .nil, .Call (.Name x _) [y] [] _ => decide (x = ("range" : Str)) && glC sc x && chk N T sc a y && notStar y
  | sc, .zip, .cons a (.cons b .nil), .Call (.Name x _) [y, z] [] _ => decide (x = ("zip" : Str)) && glC sc x && chk N T sc a y && notStar y && chk N T sc b z && notStar z
  | sc, .rng2, .cons a (.cons b .nil), .Call (.Name x _) [y, z] [] _ => decide (x = ("range" : Str)) && glC sc x && chk N T sc a y && notStar y && chk N T sc b z && notStar z
  | _, _, _, _ => false
end

/-! ### outcomes -/
/-- an exception's class and its own dict stand for (c, fs) -/
def XRep (K : PySem.W.Frag) (ga : GA) (ms : List Addr) (Γ : Hp) (H : Hp) (c : D) (fs : List (Str × D)) (cls : Value) (dd : Option Addr) : Prop :=
  (match c with | .glob x => cls = .ref (ga x) | .ty n => cls = .type n | _ => False) ∧
    (fs = [] ∨ ∃ a vs, dd = some a ∧ H a = some (.xd vs) ∧ a ∉ ms ∧ ∀ f d, fs.lookup f = some d → ∃ v, vs.lookup f = some v ∧ Rep K ga ms Γ d v)
section
variable (X : Cx) (ga : GA) (ms : List Addr) (Γ : Hp) (H : Hp)
/-- what is wanted of an outcome: W of an exception (by the slots σ), Q of a value -/
def PO (o : Out D) (σ : L2.St) (W : WX) (Q : VK) : Prop := match o with
  | .ok d μ' => PD X ga ms Γ μ' H d Q
  | .exc c fs μ' => ∀ cls dd H' ms' Γ', After X.K ga ms Γ H ms' Γ' μ' H' → XRep X.K ga ms' Γ' H' c fs cls dd → W cls dd σ H'
  | .bad => False
def POs (o : Out (List D)) (σ : L2.St) (W : WX) (Q : List V → Hp → Prop) : Prop := match o with
  | .ok ds μ' => ∀ vs H' ms' Γ', After X.K ga ms Γ H ms' Γ' μ' H' → Reps X.K ga ms' Γ' ds vs → Q vs H'
  | .exc c fs μ' => ∀ cls dd H' ms' Γ', After X.K ga ms Γ H ms' Γ' μ' H' → XRep X.K ga ms' Γ' H' c fs cls dd → W cls dd σ H'
  | .bad => False
def POT (o : Out Bool) (σ : L2.St) (W : WX) (Q : Bool → Hp → Prop) : Prop := match o with
  | .ok b μ' => ∀ H' ms' Γ', After X.K ga ms Γ H ms' Γ' μ' H' → Q b H'
  | .exc c fs μ' => ∀ cls dd H' ms' Γ', After X.K ga ms Γ H ms' Γ' μ' H' → XRep X.K ga ms' Γ' H' c fs cls dd → W cls dd σ H'
  | .bad => False
end
section
variable {X : Cx} {ga : GA} {ms ms1 : List Addr} {Γ Γ1 : Hp} {μ μ1 : Store} {H H1 : Hp} {σ : L2.St} {W : WX}
theorem PD.shift {d : D} {Q : VK} {μ' : Store} (q : PD X ga ms Γ μ' H d Q) (A : After X.K ga ms Γ H ms1 Γ1 μ1 H1) : PD X ga ms1 Γ1 μ' H1 d Q := fun v H' ms' Γ' B r => q v H' ms' Γ' (A.trans B) r
theorem PO.shift {o : Out D} {Q : VK} (q : PO X ga ms Γ H o σ W Q) (A : After X.K ga ms Γ H ms1 Γ1 μ1 H1) : PO X ga ms1 Γ1 H1 o σ W Q := by
  cases o with
  | ok d μ' => exact PD.shift q A
  | exc c fs μ' => exact fun cls dd H' ms' Γ' B r => q cls dd H' ms' Γ' (A.trans B) r
  | bad => exact q
theorem POs.shift {o : Out (List D)} {Q : List V → Hp → Prop} (q : POs X ga ms Γ H o σ W Q) (A : After X.K ga ms Γ H ms1 Γ1 μ1 H1) : POs X ga ms1 Γ1 H1 o σ W Q := by
  cases o with
  | ok d μ' => exact fun v H' ms' Γ' B r => q v H' ms' Γ' (A.trans B) r
  | exc c fs μ' => exact fun cls dd H' ms' Γ' B r => q cls dd H' ms' Γ' (A.trans B) r
  | bad => exact q
theorem POT.shift {o : Out Bool} {Q : Bool → Hp → Prop} (q : POT X ga ms Γ H o σ W Q) (A : After X.K ga ms Γ H ms1 Γ1 μ1 H1) : POT X ga ms1 Γ1 H1 o σ W Q := by
  cases o with
  | ok d μ' => exact fun H' ms' Γ' B => q H' ms' Γ' (A.trans B)
  | exc c fs μ' => exact fun cls dd H' ms' Γ' B r => q cls dd H' ms' Γ' (A.trans B) r
  | bad => exact q
end
/-- the readings: of an expression, of arguments, of a test -/
def tE (X : Cx) (ga : GA) (G : GT) (W : WX) (e : Ex) : TE := fun σ H Q => ∃ ms Γ μ ρ, SI X.K ga ms Γ μ H ∧ ER X.K ga ms Γ H ρ σ ∧ PO X ga ms Γ H (ev G e ρ μ) σ W Q
def tA (X : Cx) (ga : GA) (G : GT) (W : WX) (es : Exs) : TA := fun σ H Q => ∃ ms Γ μ ρ, SI X.K ga ms Γ μ H ∧ ER X.K ga ms Γ H ρ σ ∧ POs X ga ms Γ H (evs G es ρ μ) σ W Q
def tT (X : Cx) (ga : GA) (G : GT) (W : WX) (e : Ex) : TT := fun σ H Q => ∃ ms Γ μ ρ, SI X.K ga ms Γ μ H ∧ ER X.K ga ms Γ H ρ σ ∧ POT X ga ms Γ H (testOf (ev G e ρ μ)) σ W Q
section
variable {X : Cx} {ga : GA} {G : GT} {W : WX} {ms : List Addr} {Γ : Hp} {μ : Store} {H : Hp} {σ : L2.St} {ρ : Env}
/-- an expression in a chain: what follows is a function f of its value -/
theorem step {e : Ex} {f : D → Store → Out D} {Q : VK} {T : VK} (S : SI X.K ga ms Γ μ H) (R : ER X.K ga ms Γ H ρ σ) (h : PO X ga ms Γ H ((ev G e ρ μ).bind f) σ W Q)
    (k : ∀ d μ1 v H1 ms1 Γ1, After X.K ga ms Γ H ms1 Γ1 μ1 H1 → Rep X.K ga ms1 Γ1 d v → ER X.K ga ms1 Γ1 H1 ρ σ → PO X ga ms1 Γ1 H1 (f d μ1) σ W Q → T v H1) : tE X ga G W e σ H T := by
  refine ⟨ms, Γ, μ, ρ, S, R, ?_⟩
  cases e1 : ev G e ρ μ with
  | ok d μ1 =>
    rw [e1] at h
    exact fun v H1 ms1 Γ1 A r => k d μ1 v H1 ms1 Γ1 A r (R.mono A) (PO.shift h A)
  | exc c fs μ1 => rw [e1] at h; exact h
  | bad => rw [e1] at h; exact h.elim
theorem stepT {e : Ex} {f : D → Store → Out Bool} {Q : Bool → Hp → Prop} {T : VK} (S : SI X.K ga ms Γ μ H) (R : ER X.K ga ms Γ H ρ σ) (h : POT X ga ms Γ H ((ev G e ρ μ).bind f) σ W Q)
    (k : ∀ d μ1 v H1 ms1 Γ1, After X.K ga ms Γ H ms1 Γ1 μ1 H1 → Rep X.K ga ms1 Γ1 d v → ER X.K ga ms1 Γ1 H1 ρ σ → POT X ga ms1 Γ1 H1 (f d μ1) σ W Q → T v H1) : tE X ga G W e σ H T := by
  refine ⟨ms, Γ, μ, ρ, S, R, ?_⟩
  cases e1 : ev G e ρ μ with
  | ok d μ1 =>
    rw [e1] at h
    exact fun v H1 ms1 Γ1 A r => k d μ1 v H1 ms1 Γ1 A r (R.mono A) (POT.shift h A)
  | exc c fs μ1 => rw [e1] at h; exact h
  | bad => rw [e1] at h; exact h.elim
theorem stepS {e : Ex} {f : D → Store → Out (List D)} {Q : List V → Hp → Prop} {T : VK} (S : SI X.K ga ms Γ μ H) (R : ER X.K ga ms Γ H ρ σ) (h : POs X ga ms Γ H ((ev G e ρ μ).bind f) σ W Q)
    (k : ∀ d μ1 v H1 ms1 Γ1, After X.K ga ms Γ H ms1 Γ1 μ1 H1 → Rep X.K ga ms1 Γ1 d v → ER X.K ga ms1 Γ1 H1 ρ σ → POs X ga ms1 Γ1 H1 (f d μ1) σ W Q → T v H1) : tE X ga G W e σ H T := by
  refine ⟨ms, Γ, μ, ρ, S, R, ?_⟩
  cases e1 : ev G e ρ μ with
  | ok d μ1 =>
    rw [e1] at h
    exact fun v H1 ms1 Γ1 A r => k d μ1 v H1 ms1 Γ1 A r (R.mono A) (POs.shift h A)
  | exc c fs μ1 => rw [e1] at h; exact h
  | bad => rw [e1] at h; exact h.elim
/-- arguments in a chain -/
theorem stepA {es : Exs} {f : List D → Store → Out D} {Q : VK} {T : List V → Hp → Prop} (S : SI X.K ga ms Γ μ H) (R : ER X.K ga ms Γ H ρ σ) (h : PO X ga ms Γ H ((evs G es ρ μ).bind f) σ W Q)
    (k : ∀ ds μ1 vs H1 ms1 Γ1, After X.K ga ms Γ H ms1 Γ1 μ1 H1 → Reps X.K ga ms1 Γ1 ds vs → ER X.K ga ms1 Γ1 H1 ρ σ → PO X ga ms1 Γ1 H1 (f ds μ1) σ W Q → T vs H1) : tA X ga G W es σ H T := by
  refine ⟨ms, Γ, μ, ρ, S, R, ?_⟩
  cases e1 : evs G es ρ μ with
  | ok d μ1 =>
    rw [e1] at h
    exact fun v H1 ms1 Γ1 A r => k d μ1 v H1 ms1 Γ1 A r (R.mono A) (PO.shift h A)
  | exc c fs μ1 => rw [e1] at h; exact h
  | bad => rw [e1] at h; exact h.elim
theorem stepAS {es : Exs} {f : List D → Store → Out (List D)} {Q : List V → Hp → Prop} {T : List V → Hp → Prop} (S : SI X.K ga ms Γ μ H) (R : ER X.K ga ms Γ H ρ σ) (h : POs X ga ms Γ H ((evs G es ρ μ).bind f) σ W Q)
    (k : ∀ ds μ1 vs H1 ms1 Γ1, After X.K ga ms Γ H ms1 Γ1 μ1 H1 → Reps X.K ga ms1 Γ1 ds vs → ER X.K ga ms1 Γ1 H1 ρ σ → POs X ga ms1 Γ1 H1 (f ds μ1) σ W Q → T vs H1) : tA X ga G W es σ H T := by
  refine ⟨ms, Γ, μ, ρ, S, R, ?_⟩
  cases e1 : evs G es ρ μ with
  | ok d μ1 =>
    rw [e1] at h
    exact fun v H1 ms1 Γ1 A r => k d μ1 v H1 ms1 Γ1 A r (R.mono A) (POs.shift h A)
  | exc c fs μ1 => rw [e1] at h; exact h
  | bad => rw [e1] at h; exact h.elim
/-- a test in a chain -/
theorem stepB {e : Ex} {f : Bool → Store → Out D} {Q : VK} {T : Bool → Hp → Prop} (S : SI X.K ga ms Γ μ H) (R : ER X.K ga ms Γ H ρ σ) (h : PO X ga ms Γ H ((testOf (ev G e ρ μ)).bind f) σ W Q)
    (k : ∀ b μ1 H1 ms1 Γ1, After X.K ga ms Γ H ms1 Γ1 μ1 H1 → ER X.K ga ms1 Γ1 H1 ρ σ → PO X ga ms1 Γ1 H1 (f b μ1) σ W Q → T b H1) : tT X ga G W e σ H T := by
  refine ⟨ms, Γ, μ, ρ, S, R, ?_⟩
  cases e1 : testOf (ev G e ρ μ) with
  | ok b μ1 =>
    rw [e1] at h
    exact fun H1 ms1 Γ1 A => k b μ1 H1 ms1 Γ1 A (R.mono A) (PO.shift h A)
  | exc c fs μ1 => rw [e1] at h; exact h
  | bad => rw [e1] at h; exact h.elim
theorem stepBT {e : Ex} {f : Bool → Store → Out Bool} {Q : Bool → Hp → Prop} {T : Bool → Hp → Prop} (S : SI X.K ga ms Γ μ H) (R : ER X.K ga ms Γ H ρ σ) (h : POT X ga ms Γ H ((testOf (ev G e ρ μ)).bind f) σ W Q)
    (k : ∀ b μ1 H1 ms1 Γ1, After X.K ga ms Γ H ms1 Γ1 μ1 H1 → ER X.K ga ms1 Γ1 H1 ρ σ → POT X ga ms1 Γ1 H1 (f b μ1) σ W Q → T b H1) : tT X ga G W e σ H T := by
  refine ⟨ms, Γ, μ, ρ, S, R, ?_⟩
  cases e1 : testOf (ev G e ρ μ) with
  | ok b μ1 =>
    rw [e1] at h
    exact fun H1 ms1 Γ1 A => k b μ1 H1 ms1 Γ1 A (R.mono A) (POT.shift h A)
  | exc c fs μ1 => rw [e1] at h; exact h
  | bad => rw [e1] at h; exact h.elim
theorem PO.opt {o : Option D} {Q : VK} (h : PO X ga ms Γ H (opt o μ) σ W Q) : ∃ d, o = some d ∧ PD X ga ms Γ μ H d Q := by
  cases o with
  | none => exact False.elim h
  | some d => exact ⟨d, rfl, h⟩
end

/-! ### the context -/
/-- a def's promise, by what the interpreter says of its call -/
def spC (K : PySem.W.Frag) (ga : GA) (c : List D → Store → Out D) : Sp := fun vs H Q E => ∃ ms Γ μ ds, SI K ga ms Γ μ H ∧ Reps K ga ms Γ ds vs ∧
  match c ds μ with
  | .ok d μ' => ∀ v H' ms' Γ', After K ga ms Γ H ms' Γ' μ' H' → Rep K ga ms' Γ' d v → Q v H'
  | .exc c fs μ' => ∀ cls dd H' ms' Γ', After K ga ms Γ H ms' Γ' μ' H' → XRep K ga ms' Γ' H' c fs cls dd → E cls dd H'
  | .bad => False
/-- what is known of the functions that may be called here, with ar arguments each -/
structure FnAt (X : Cx) (ga : GA) (G : GT) (f : Str) (n : Nat) : Prop where
  ex : ∃ (k : Nat) (a : Addr) (fd : FuncData) (ps : List Str), X.mg f = some (.ref a) ∧ PySem.W.keepIn X.K (.ref a) = true ∧ ps.length = n ∧
    FnOk X.prog X.w X.K X.mg X.base (L2.CX X.prog X.w) k a fd ps (spC X.K ga (G.call f)) ∧ Room k X.A ∧ Binds X.K fd ps []
/-- an own exception class, made with a text -/
structure XcAt (K : PySem.W.Frag) (mg : Str → Option Value) (ga : GA) (c : Str) : Prop where
  mg : mg c = some (.ref (ga c))
  exc : PySem.W.excIn K (ga c) He.veBase "ValueError.__new__" = true
  keep : PySem.W.keepIn K (.ref (ga c)) = true
  sub : PySem.W.subIn K (.ref (ga c)) (.type "BaseException") = some true
  ty : PySem.W.typeIn K (.ref (ga c)) = some (.type "type")
  exm : PySem.W.exmOne K (.ref (ga c)) (.ref (ga c)) = some true
/-- an own exception class with an own __init__ that keeps its field f -/
structure XmAt (X : Cx) (ga : GA) (c f : Str) : Prop where
  ex : ∃ (bk : PySem.XLD.BK) (k : Nat) (fI : Addr) (fd : FuncData) (ps : List Str), X.mg c = some (.ref (ga c)) ∧ PySem.XLD.Ox X.K (ga c) bk ∧ XfC X.K (ga c) ∧ PySem.W.findIn X.K (.ref (ga c)) f = some none ∧
    PySem.W.findIn X.K (.ref (ga c)) "__init__" = some (some (.ref fI)) ∧ PySem.W.typeIn X.K (.ref fI) = some (.type "function") ∧ FnOk X.prog X.w X.K X.mg X.base (L2.CX X.prog X.w) k fI fd ps (LX.spXi (ga c) f) ∧ Room (k + 1) X.A ∧ Binds X.K fd ps []
def XT.val (ga : Str → Addr) : XT → Value
  | .own c => .ref (ga c)
  | .blt n => .type n
/-- isinstance(an instance of c, t) = b -/
structure XiAt (K : PySem.W.Frag) (mg : Str → Option Value) (ga : GA) (c : Str) (t : XT) (b : Bool) : Prop where
  tv : ∀ n, t = .own n → mg n = some (.ref (ga n))
  kit : PySem.W.kitOne K (.ref (ga c)) (t.val ga.f) = some b
  cl : (PySem.W.clsIn K (ga c)).isSome = true
  hga : PySem.W.findIn K (.ref (ga c)) "__getattribute__" = some (some (.builtin "BaseException.__getattribute__"))
  hgt : PySem.W.findIn K (.ref (ga c)) "__getattr__" = some none
  sub : PySem.W.subIn K (.ref (ga c)) (.type "BaseException") = some true
  at_ : PySem.W.findIn K (.ref (ga c)) "__class__" = some (some (.builtin "object.__class__"))
  sp : PySem.W.specialIn K (.builtin "object.__class__") "__get__" = some (some (.builtin "getset_descriptor.__get__"))
  tk : PySem.W.takesIn K (.builtin "object.__class__") = some true
  mro : PySem.W.mroIn K (ga c) (.type "object") = some true
/-- a method: the class' facts, the def's promise -/
structure MtAt (X : Cx) (ga : GA) (G : GT) (c m f : Str) (n : Nat) : Prop where
  ex : ∃ (k : Nat) (a : Addr) (fd : FuncData) (ps : List Str), Cls X.K (ga c) ∧ Meth X.K (ga c) m a ∧ ps.length = n ∧
    FnOk X.prog X.w X.K X.mg X.base (L2.CX X.prog X.w) k a fd ps (spC X.K ga (G.call f)) ∧ Room (k + 2) X.A ∧ Binds X.K fd ps []
structure PrAt (X : Cx) (ga : GA) (G : GT) (c m f : Str) : Prop where
  ex : ∃ (k : Nat) (p a : Addr) (fd : FuncData) (ps : List Str), Cls X.K (ga c) ∧ PropOf X.K (ga c) m p a ∧ ps.length = 1 ∧
    FnOk X.prog X.w X.K X.mg X.base (L2.CX X.prog X.w) k a fd ps (spC X.K ga (G.call f)) ∧ Room (k + 2) X.A ∧ Binds X.K fd ps []
/-- the value of a default -/
def Dfl.v : Dfl → V
  | .non => .non
  | .bl b => .bl b
  | .int i => .int i
structure NwAt (X : Cx) (ga : GA) (G : GT) (c f : Str) (n : Nat) (ds : List Dfl) : Prop where
  ex : ∃ (k : Nat) (a : Addr) (fd : FuncData) (ps : List Str) (dv : List Value), X.mg c = some (.ref (ga c)) ∧ Mk X.K (ga c) a ∧ ps.length = n ∧
    FnOk X.prog X.w X.K X.mg X.base (L2.CX X.prog X.w) k a fd ps (spC X.K ga (G.call f)) ∧ Room (k + 2) X.A ∧ Binds X.K fd ps dv ∧ Vals (ds.map Dfl.v) dv
structure FlAt (K : PySem.W.Frag) (ga : GA) (c f : Str) : Prop where
  cl : Cls K (ga c)
  no : NoAttr K (ga c) f
structure GC (X : Cx) (ga : GA) (G : GT) (N : List Str) (T : Tb) (sc : Scope) : Prop where
  hN : X.N = N
  nd : N.Nodup
  kind : X.env.scope.kind = .function
  vis : ∀ x, visC sc x = true → Vis X.env.scope x
  loc : ∀ x, locC sc x = true → Loc X.env.scope x ∧ (X.fn x = true ∨ X.env.scope.names.lookup x = some .local)
  cf : ∀ x, cfC sc x = true → X.env.scope.names.lookup x = some .cell ∨ X.env.scope.names.lookup x = some .free
  gl : ∀ x, glC sc x = true → L2.Gl X x
  calm : X.calm = true
  hu : X.A.units + 64 < cLine
  blt : ∀ x ∈ bltNames, X.mg x = none
  con : ∀ x d, G.con x = some d → ∃ u v, X.mg x = some u ∧ RelV v u ∧ ∀ ms, Rep X.K ga ms (fun _ => none) d v
  fn : ∀ f n, (f, n) ∈ T → n ≠ 1000 → FnAt X ga G f n
  xc : ∀ c, (c, 1000) ∈ T → XcAt X.K X.mg ga c
  xm : ∀ c f, (c, f) ∈ T.xm → XmAt X ga c f
  xi : ∀ c t b, (c, t, b) ∈ T.xi → XiAt X.K X.mg ga c t b
  hw : ga.w = X.w
  mt : ∀ c m f n, (c, m, f, n) ∈ T.mt → MtAt X ga G c m f n
  pr : ∀ c m f, (c, m, f) ∈ T.pr → PrAt X ga G c m f
  nw : ∀ c f n ds, (c, f, n, ds) ∈ T.nw → NwAt X ga G c f n ds
  fl : ∀ c f, (c, f) ∈ T.fl → FlAt X.K ga c f
end LD

set_option Elab.async false
set_option linter.all false
set_option maxRecDepth 100000
set_option maxHeartbeats 2000000
/-! LD6: each form of expression. -/
namespace LD
open PySem PySem.Spec PyProof.Rows L2 HT

theorem _root_.L2.PE.mono {X : Cx} {e : Expr} {t t' : TE} (h : PE X e t) (k : ∀ σ H Q, t' σ H Q → t σ H Q) : PE X e t' := ⟨fun pins s σ H Q I hw => h.run pins s σ H Q I (k σ H Q hw)⟩
theorem _root_.L2.PT.mono {X : Cx} {e : Expr} {t t' : TT} (h : PT X e t) (k : ∀ σ H Q, t' σ H Q → t σ H Q) : PT X e t' := ⟨fun pins s σ H Q I hw => h.run pins s σ H Q I (k σ H Q hw)⟩
theorem _root_.L2.PW.mono {X : Cx} {e : Expr} {t t' : TT} (h : PW X e t) (k : ∀ σ H Q, t' σ H Q → t σ H Q) : PW X e t' := ⟨fun wh pins s σ H Q I hw => h.run wh pins s σ H Q I (k σ H Q hw)⟩
theorem _root_.L2.PA.mono {X : Cx} {es : List Expr} {t t' : TA} (h : PA X es t) (k : ∀ σ H Q, t' σ H Q → t σ H Q) : PA X es t' := ⟨fun pos pins s σ H Q I hw => h.run pos pins s σ H Q I (k σ H Q hw)⟩
theorem _root_.L2.PI.mono {X : Cx} {tg it : Expr} {t t' : TI} (h : PI X tg it t) (k : ∀ σ H R, t' σ H R → t σ H R) : PI X tg it t' := ⟨fun pins s σ H Q I hw => h.run pins s σ H Q I (k σ H Q hw)⟩

section
variable (ga : GA) (G : GT) (N : List Str) (T : Tb)
def SE (e : Ex) : Prop := ∀ (X : Cx) (sc : Scope) (x : Expr) (W : WX), GC X ga G N T sc → Takes X W → chk N T sc e x = true → PE X x (tE X ga G W e)
def ST (e : Ex) : Prop := ∀ (X : Cx) (sc : Scope) (x : Expr) (W : WX), GC X ga G N T sc → Takes X W → chk N T sc e x = true → PT X x (tT X ga G W e)
def SW (e : Ex) : Prop := ∀ (X : Cx) (sc : Scope) (op : BoolOp) (xs : List Expr) (p : Pos) (W : WX), GC X ga G N T sc → Takes X W → chk N T sc e (.BoolOp op xs p) = true → PW X (.BoolOp op xs p) (tT X ga G W e)
def SA (es : Exs) : Prop := ∀ (X : Cx) (sc : Scope) (xs : List Expr) (W : WX), GC X ga G N T sc → Takes X W → chks N T sc es xs = true → PA X xs (tA X ga G W es)
end

section
variable {X : Cx} {ga : GA} {G : GT} {N : List Str} {T : Tb} {sc : Scope} {W : WX}
theorem and3 {a b c : Bool} (h : (a && b && c) = true) : a = true ∧ b = true ∧ c = true := by
  rw [Bool.and_eq_true, Bool.and_eq_true] at h
  exact ⟨h.1.1, h.1.2, h.2⟩
theorem okName_debug {x : Str} (h : okName x = true) : (x == ("__debug__" : Str)) = false ∧ (x == ("__classdict__" : Str)) = false ∧ x ≠ "__name__" := by
  unfold okName at h
  rw [Bool.and_eq_true, Bool.and_eq_true] at h
  refine ⟨by simpa using h.1.1, by simpa using h.1.2, ?_⟩
  have := h.2
  simpa using this
theorem star_cons (e : Expr) (es : List Expr) (env : PySem.Env) (h : notStar e = true) : starEach (e :: es) env = (false, eval e env) :: starEach es env := by
  cases e <;> first | rfl | exact absurd h Bool.false_ne_true
theorem plain_any {es : List Expr} {env : PySem.Env} {pos : Pos} (h : es.all notStar = true) : (backTo pos (starEach es env)).any (·.1) = false := by
  induction es with
  | nil => rfl
  | cons e es ih =>
    have h := Bool.and_eq_true_iff.mp (show (notStar e && es.all notStar) = true from h)
    rw [star_cons e es env h.1]
    show (false || (backTo pos (starEach es env)).any (·.1)) = false
    rw [ih h.2]
    rfl
theorem chks_star : ∀ {es : Exs} {xs : List Expr}, chks N T sc es xs = true → xs.all notStar = true
  | .nil, [], _ => rfl
  | .nil, _ :: _, h => by simp [chks] at h
  | .cons e es, [], h => by simp [chks] at h
  | .cons e es, x :: xs, h => by
    obtain ⟨_, h2, h3⟩ := and3 (show (chk N T sc e x && notStar x && chks N T sc es xs) = true from h)
    show (notStar x && xs.all notStar) = true
    rw [h2, chks_star h3]
    rfl

/-! ### constants, names -/
theorem se_con (d : D) : SE ga G N T (.con d) := by
  intro X sc x W C tk h
  have fin : ∀ (v : V), (∀ ms Γ, Rep X.K ga ms Γ d v) → PE X x (tC v) → PE X x (tE X ga G W (.con d)) := fun v hv hp => hp.mono fun σ H Q ⟨ms, Γ, μ, ρ, S, R, q⟩ => PD.here q S (hv ms Γ)
  cases x with
  | Constant c j pos =>
    have h : conC d (.Constant c j pos) = true := by
      cases d <;> exact h
    cases d with
    | non =>
      cases c with
      | none => exact fin .non (fun _ _ => by unfold Rep; rfl) pe_non
      | _ => exact absurd h (by simp [conC])
    | bl b =>
      cases c with
      | bool b' =>
        have e : b = b' := by simpa [conC] using h
        subst e
        exact fin (.bl b) (fun _ _ => by unfold Rep; rfl) pe_bl
      | _ => exact absurd h (by simp [conC])
    | int b =>
      cases c with
      | int b' =>
        have e : b = b' := by simpa [conC] using h
        subst e
        exact fin (.int b) (fun _ _ => by unfold Rep; rfl) pe_int
      | _ => exact absurd h (by simp [conC])
    | str b =>
      cases c with
      | str b' =>
        have h2 := Bool.and_eq_true_iff.mp (show (decide (b = b') && decide (b.length ≤ LINE)) = true from h)
        have e : b = b' := of_decide_eq_true h2.1
        have e2 := of_decide_eq_true h2.2
        rw [line_eq] at e2
        subst e
        exact fin (.str b) (fun _ _ => by unfold Rep; exact ⟨rfl, e2⟩) pe_str
      | _ => exact absurd h (by simp [conC])
    | _ => exact absurd h (by simp [conC])
  | Name y pos =>
    cases d with
    | ty T =>
      have h2 : (decide (y = Str.ofString T) && decide (T ∈ types) && glC sc y && okName y) = true := h
      rw [Bool.and_eq_true, Bool.and_eq_true, Bool.and_eq_true] at h2
      obtain ⟨⟨⟨h1, h2⟩, h3⟩, h4⟩ := h2
      have e := of_decide_eq_true h1
      have ht := of_decide_eq_true h2
      subst e
      obtain ⟨o1, o2, o3⟩ := okName_debug h4
      have hb : bootBuiltins (Str.ofString T) = some (.type T) ∧ Str.ofString T ∈ bltNames := by
        have key : ∀ T ∈ types, bootBuiltins (Str.ofString T) = some (.type T) ∧ Str.ofString T ∈ bltNames := by decide +kernel
        exact key T ht
      exact fin (.ty T) (fun _ _ => by unfold Rep; rfl) (pe_bltn (C.gl _ h3) (C.blt _ hb.2) hb.1 rfl o3 o1)
    | _ => exact absurd h (by simp [chk, conC])
  | _ => cases d <;> exact absurd h (by simp [chk, conC])
theorem nIs_ok {i : Nat} {x : Str} (h : nIs N sc i x = true) : N[i]? = some x ∧ visC sc x = true ∧ (x == ("__debug__" : Str)) = false ∧ (x == ("__classdict__" : Str)) = false := by
  obtain ⟨h1, h2, h3⟩ := and3 (show (decide (N[i]? = some x) && visC sc x && okName x) = true from h)
  obtain ⟨o1, o2, _⟩ := okName_debug h3
  exact ⟨of_decide_eq_true h1, h2, o1, o2⟩
theorem se_var (i : Nat) : SE ga G N T (.var i) := by
  intro X sc x W C tk h
  cases x with
  | Name y pos =>
    obtain ⟨h1, h2, h3, h4⟩ := nIs_ok (show nIs N sc i y = true from h)
    refine (pe_var (i := i) (by rw [C.hN]; exact h1) (C.vis _ h2) h3 h4).mono fun σ H Q ⟨ms, Γ, μ, ρ, S, R, q⟩ => ?_
    obtain ⟨d, e, q⟩ := PO.opt (show PO X ga ms Γ H (opt (ρ.get i) μ) σ W Q from q)
    obtain ⟨v, e1, r⟩ := R.get e
    exact ⟨v, e1, q.here S r⟩
  | _ => exact absurd h (by simp [chk])
theorem se_glob (y : Str) : SE ga G N T (.glob y) := by
  intro X sc x W C tk h
  cases x with
  | Name z pos =>
    obtain ⟨h1, h2, h3⟩ := and3 (show (decide (y = z) && glC sc z && okName z) = true from h)
    have e := of_decide_eq_true h1
    subst e
    cases hc : G.con y with
    | none => exact ⟨fun pins s σ H Q I ⟨ms, Γ, μ, ρ, S, R, q⟩ => by
        have q : PO X ga ms Γ H (opt (G.con y) μ) σ W Q := q
        rw [hc] at q
        exact False.elim q⟩
    | some d =>
      obtain ⟨u, v, hm, r, hr⟩ := C.con y d hc
      refine (pe_glob (C.gl _ h2) hm r (okName_debug h3).1).mono fun σ H Q ⟨ms, Γ, μ, ρ, S, R, q⟩ => ?_
      have q : PO X ga ms Γ H (opt (G.con y) μ) σ W Q := q
      rw [hc] at q
      exact PD.here q S ((hr ms).mono (fun _ _ e => by cases e) List.prefix_rfl)
  | _ => exact absurd h (by simp [chk])
/-! ### operators -/
theorem se_bin (op : BOp) {a b : Ex} (ha : SE ga G N T a) (hb : SE ga G N T b) : SE ga G N T (.bin op a b) := by
  intro X sc x W C tk h
  cases x with
  | BinOp p o q pos =>
    obtain ⟨h1, h2, h3⟩ := and3 (show (decide (o = opB op) && chk N T sc a p && chk N T sc b q) = true from h)
    have e := of_decide_eq_true h1
    subst e
    refine (pe_op (op_bin ga op) (ha X sc p W C tk h2) (hb X sc q W C tk h3)).mono fun σ H Q ⟨ms, Γ, μ, ρ, S, R, q⟩ => ?_
    refine step S R q fun d μ1 v H1 ms1 Γ1 A r R1 q1 => step A.si R1 q1 fun d2 μ2 v2 H2 ms2 Γ2 A2 r2 R2 q2 => ?_
    obtain ⟨d3, e, q3⟩ := PO.opt q2
    exact ⟨ms2, Γ2, μ2, d, d2, d3, ⟨A2.si, r.mono A2.le A2.pre, r2⟩, e, q3⟩
  | _ => exact absurd h (by simp [chk])
theorem se_neg {a : Ex} (ha : SE ga G N T a) : SE ga G N T (.neg a) := by
  intro X sc x W C tk h
  cases x with
  | UnaryOp o p pos =>
    cases o with
    | USub =>
      refine (pe_un un_neg (ha X sc p W C tk h)).mono fun σ H Q ⟨ms, Γ, μ, ρ, S, R, q⟩ => ?_
      refine step S R q fun d μ1 v H1 ms1 Γ1 A r R1 q1 => ?_
      cases d with
      | int i =>
        unfold Rep at r
        exact ⟨i, r, PD.int q1 A.si⟩
      | _ => exact False.elim q1
    | _ => exact absurd h (by simp [chk])
  | _ => exact absurd h (by simp [chk])
theorem mark_ok {op : COp} {b : Expr} (h : notSet b = true) : behindInMarks (opC op) b = false := by
  cases b <;> first | rfl | exact absurd h Bool.false_ne_true
theorem se_cmp (op : COp) {a b : Ex} (ha : SE ga G N T a) (hb : SE ga G N T b) : SE ga G N T (.cmp op a b) ∧ ST ga G N T (.cmp op a b) := by
  have key : ∀ (X : Cx) (sc : Scope) (x : Expr) (W : WX), GC X ga G N T sc → Takes X W → chk N T sc (.cmp op a b) x = true → ∃ p q pos, x = .Compare p [opC op] [q] pos ∧ PE X p (tE X ga G W a) ∧ PE X q (tE X ga G W b) ∧ notSet q = true := by
    intro X sc x W C tk h
    cases x with
    | Compare p os qs pos =>
      match os, qs, h with
      | [o], [q], h =>
        have h : (decide (o = opC op) && chk N T sc a p && chk N T sc b q && notSet q) = true := h
        rw [Bool.and_eq_true, Bool.and_eq_true, Bool.and_eq_true] at h
        obtain ⟨⟨⟨h1, h2⟩, h3⟩, h4⟩ := h
        have e := of_decide_eq_true h1
        subst e
        exact ⟨p, q, pos, rfl, ha X sc p W C tk h2, hb X sc q W C tk h3, h4⟩
      | [], _, h => simp [chk] at h
      | [_], [], h => simp [chk] at h
      | [_], _ :: _ :: _, h => simp [chk] at h
      | _ :: _ :: _, _, h => simp [chk] at h
    | _ => exact absurd h (by simp [chk])
  refine ⟨fun X sc x W C tk h => ?_, fun X sc x W C tk h => ?_⟩
  · obtain ⟨p, q, pos, rfl, hp, hq, hn⟩ := key X sc x W C tk h
    refine (pe_cmpR (op_cmp ga op C.hu) hp hq (mark_ok hn)).mono fun σ H Q ⟨ms, Γ, μ, ρ, S, R, q⟩ => ?_
    refine step S R q fun d μ1 v H1 ms1 Γ1 A r R1 q1 => step A.si R1 q1 fun d2 μ2 v2 H2 ms2 Γ2 A2 r2 R2 q2 => ?_
    obtain ⟨d3, e, q3⟩ := PO.opt q2
    obtain ⟨k, e0, rfl⟩ := map_some e
    exact ⟨ms2, Γ2, μ2, d, d2, k, ⟨A2.si, r.mono A2.le A2.pre, r2⟩, e0, q3⟩
  · obtain ⟨p, q, pos, rfl, hp, hq, hn⟩ := key X sc x W C tk h
    refine (pt_cmpR (op_cmp ga op C.hu) hp hq (mark_ok hn)).mono fun σ H Q ⟨ms, Γ, μ, ρ, S, R, q⟩ => ?_
    have q : POT X ga ms Γ H (((ev G a ρ μ).bind fun x μ => (ev G b ρ μ).bind fun y μ => opt ((cmpop op x y).map .bl) μ).bind fun d μ => match truthy d with
      | some b => .ok b μ
      | none => .bad) σ W Q := q
    have as1 : ∀ {α β γ : Type} (o : Out α) (f : α → Store → Out β) (g : β → Store → Out γ), (o.bind f).bind g = o.bind fun a μ => (f a μ).bind g := fun o f g => by cases o <;> rfl
    rw [as1] at q
    refine stepT S R q fun d μ1 v H1 ms1 Γ1 A r R1 q1 => ?_
    rw [as1] at q1
    refine stepT A.si R1 q1 fun d2 μ2 v2 H2 ms2 Γ2 A2 r2 R2 q2 => ?_
    cases e : cmpop op d d2 with
    | none => rw [e] at q2; exact False.elim q2
    | some k =>
      rw [e] at q2
      refine ⟨ms2, Γ2, μ2, d, d2, k, ⟨A2.si, r.mono A2.le A2.pre, r2⟩, e, fun v' H' ms' Γ' A' r' => ?_⟩
      unfold Rep at r'
      exact ⟨k, r', q2 H' ms' Γ' A'⟩
/-! ### a test from a value -/
theorem tT_of {e : Ex} {σ : L2.St} {H : Hp} {Q : Bool → Hp → Prop} (h : tT X ga G W e σ H Q) : tE X ga G W e σ H fun x H' => ∃ k, TruV X.K x H' k ∧ Q k H' := by
  obtain ⟨ms, Γ, μ, ρ, S, R, q⟩ := h
  have q : POT X ga ms Γ H ((ev G e ρ μ).bind fun d μ => match truthy d with
      | some b => .ok b μ
      | none => .bad) σ W Q := q
  refine stepT S R q fun d μ1 v H1 ms1 Γ1 A r R1 q1 => ?_
  cases e : truthy d with
  | none => rw [e] at q1; exact False.elim q1
  | some k =>
    rw [e] at q1
    exact ⟨k, tru_rep A.si.sub r e, q1 H1 ms1 Γ1 (After.refl A.si)⟩
theorem pt_of {e : Ex} {x : Expr} (h : PE X x (tE X ga G W e)) (he : ∀ whole, isTrue x X.env whole = (do let v ← whole; standAt x.pos; holding [v] (PySem.truthy v))) : PT X x (tT X ga G W e) :=
  (pt_truth h he).mono fun σ H Q q => tT_of q
/-- and, or of values -/
theorem se_and {a b : Ex} (ha : SE ga G N T a) (hb : SE ga G N T b) : SE ga G N T (.and_ a b) := by
  intro X sc x W C tk h
  have main : ∀ {x y : Expr} {r : List Expr} {pos : Pos}, PE X x (tE X ga G W a) → PE X (.BoolOp .And (y :: r) pos) (tE X ga G W b) → PE X (.BoolOp .And (x :: y :: r) pos) (tE X ga G W (.and_ a b)) := fun h1 h2 => by
    refine (pe_andT h1 h2).mono fun σ H Q ⟨ms, Γ, μ, ρ, S, R, q⟩ => ?_
    refine step S R q fun d μ1 v H1 ms1 Γ1 A r R1 q1 => ?_
    cases e : truthy d with
    | none => rw [e] at q1; exact False.elim q1
    | some k =>
      rw [e] at q1
      refine ⟨k, tru_rep A.si.sub r e, ?_⟩
      cases k with
      | true => rw [if_pos rfl]; exact ⟨ms1, Γ1, μ1, ρ, A.si, R1, q1⟩
      | false => rw [if_neg Bool.false_ne_true]; exact PD.here q1 A.si r
  cases x with
  | BoolOp op xs pos =>
    match op, xs, h with
    | .And, [x, y], h =>
      have h := Bool.and_eq_true_iff.mp (show (chk N T sc a x && chk N T sc b y) = true from h)
      exact main (ha X sc x W C tk h.1) (pe_one (hb X sc y W C tk h.2))
    | .And, x :: y :: z :: r, h =>
      have h := Bool.and_eq_true_iff.mp (show (chk N T sc a x && chk N T sc b (.BoolOp .And (y :: z :: r) pos)) = true from h)
      exact main (ha X sc x W C tk h.1) (hb X sc _ W C tk h.2)
    | .And, [], h => simp [chk] at h
    | .And, [_], h => simp [chk] at h
    | .Or, _, h => simp [chk] at h
  | _ => exact absurd h (by simp [chk])
theorem se_or {a b : Ex} (ha : SE ga G N T a) (hb : SE ga G N T b) : SE ga G N T (.or_ a b) := by
  intro X sc x W C tk h
  have main : ∀ {x y : Expr} {r : List Expr} {pos : Pos}, PE X x (tE X ga G W a) → PE X (.BoolOp .Or (y :: r) pos) (tE X ga G W b) → PE X (.BoolOp .Or (x :: y :: r) pos) (tE X ga G W (.or_ a b)) := fun h1 h2 => by
    refine (pe_orT h1 h2).mono fun σ H Q ⟨ms, Γ, μ, ρ, S, R, q⟩ => ?_
    refine step S R q fun d μ1 v H1 ms1 Γ1 A r R1 q1 => ?_
    cases e : truthy d with
    | none => rw [e] at q1; exact False.elim q1
    | some k =>
      rw [e] at q1
      refine ⟨k, tru_rep A.si.sub r e, ?_⟩
      cases k with
      | true => rw [if_pos rfl]; exact PD.here q1 A.si r
      | false => rw [if_neg Bool.false_ne_true]; exact ⟨ms1, Γ1, μ1, ρ, A.si, R1, q1⟩
  cases x with
  | BoolOp op xs pos =>
    match op, xs, h with
    | .Or, [x, y], h =>
      have h := Bool.and_eq_true_iff.mp (show (chk N T sc a x && chk N T sc b y) = true from h)
      exact main (ha X sc x W C tk h.1) (pe_one (hb X sc y W C tk h.2))
    | .Or, x :: y :: z :: r, h =>
      have h := Bool.and_eq_true_iff.mp (show (chk N T sc a x && chk N T sc b (.BoolOp .Or (y :: z :: r) pos)) = true from h)
      exact main (ha X sc x W C tk h.1) (hb X sc _ W C tk h.2)
    | .Or, [], h => simp [chk] at h
    | .Or, [_], h => simp [chk] at h
    | .And, _, h => simp [chk] at h
  | _ => exact absurd h (by simp [chk])
theorem bind_assoc' {α β γ : Type} (o : Out α) (f : α → Store → Out β) (g : β → Store → Out γ) : (o.bind f).bind g = o.bind fun a μ => (f a μ).bind g := by cases o <;> rfl
theorem testOf_and (a b : Ex) (ρ : Env) (μ : Store) : testOf (ev G (.and_ a b) ρ μ) = (testOf (ev G a ρ μ)).bind fun k μ => if k = true then testOf (ev G b ρ μ) else .ok false μ := by
  show Out.bind (Out.bind (ev G a ρ μ) _) _ = Out.bind (Out.bind (ev G a ρ μ) _) _
  rw [bind_assoc', bind_assoc']
  cases ev G a ρ μ with
  | ok d μ1 =>
    show Out.bind (match truthy d with | some true => _ | some false => _ | none => _) _ = Out.bind (match truthy d with | some b => _ | none => _) _
    cases e : truthy d with
    | none => rfl
    | some k =>
      cases k with
      | true => rfl
      | false => show (match truthy d with | some b => Out.ok b μ1 | none => .bad) = _; rw [e]; rfl
  | exc c fs μ1 => rfl
  | bad => rfl
theorem testOf_or (a b : Ex) (ρ : Env) (μ : Store) : testOf (ev G (.or_ a b) ρ μ) = (testOf (ev G a ρ μ)).bind fun k μ => if k = true then .ok true μ else testOf (ev G b ρ μ) := by
  show Out.bind (Out.bind (ev G a ρ μ) _) _ = Out.bind (Out.bind (ev G a ρ μ) _) _
  rw [bind_assoc', bind_assoc']
  cases ev G a ρ μ with
  | ok d μ1 =>
    show Out.bind (match truthy d with | some true => _ | some false => _ | none => _) _ = Out.bind (match truthy d with | some b => _ | none => _) _
    cases e : truthy d with
    | none => rfl
    | some k =>
      cases k with
      | false => rfl
      | true => show (match truthy d with | some b => Out.ok b μ1 | none => .bad) = _; rw [e]; rfl
  | exc c fs μ1 => rfl
  | bad => rfl
theorem testOf_not (a : Ex) (ρ : Env) (μ : Store) : testOf (ev G (.not_ a) ρ μ) = (testOf (ev G a ρ μ)).bind fun k μ => .ok (!k) μ := by
  show Out.bind (Out.bind (ev G a ρ μ) _) _ = Out.bind (Out.bind (ev G a ρ μ) _) _
  rw [bind_assoc', bind_assoc']
  cases ev G a ρ μ with
  | ok d μ1 =>
    show Out.bind (opt ((truthy d).map fun b => D.bl (!b)) μ1) _ = Out.bind (match truthy d with | some b => _ | none => _) _
    cases e : truthy d <;> rfl
  | exc c fs μ1 => rfl
  | bad => rfl
theorem testOf_ite (c a b : Ex) (ρ : Env) (μ : Store) : testOf (ev G (.ite c a b) ρ μ) = (testOf (ev G c ρ μ)).bind fun k μ => if k = true then testOf (ev G a ρ μ) else testOf (ev G b ρ μ) := by
  show Out.bind (Out.bind (ev G c ρ μ) _) _ = Out.bind (Out.bind (ev G c ρ μ) _) _
  rw [bind_assoc', bind_assoc']
  cases ev G c ρ μ with
  | ok d μ1 =>
    show Out.bind (match truthy d with | some true => _ | some false => _ | none => _) _ = Out.bind (match truthy d with | some b => _ | none => _) _
    cases e : truthy d with
    | none => rfl
    | some k => cases k <;> rfl
  | exc c fs μ1 => rfl
  | bad => rfl
theorem ev_ite (c a b : Ex) (ρ : Env) (μ : Store) : ev G (.ite c a b) ρ μ = (testOf (ev G c ρ μ)).bind fun k μ => if k = true then ev G a ρ μ else ev G b ρ μ := by
  show Out.bind (ev G c ρ μ) _ = Out.bind (Out.bind (ev G c ρ μ) _) _
  rw [bind_assoc']
  cases ev G c ρ μ with
  | ok d μ1 =>
    show (match truthy d with | some true => _ | some false => _ | none => _) = Out.bind (match truthy d with | some b => _ | none => _) _
    cases e : truthy d with
    | none => rfl
    | some k => cases k <;> rfl
  | exc c fs μ1 => rfl
  | bad => rfl
theorem sw_and {a b : Ex} (ha : ST ga G N T a) (hb : ST ga G N T b) (hw : SW ga G N T b) : SW ga G N T (.and_ a b) := by
  intro X sc op xs pos W C tk h
  have main : ∀ {x y : Expr} {r : List Expr} {pos : Pos}, PT X x (tT X ga G W a) → PW X (.BoolOp .And (y :: r) pos) (tT X ga G W b) → PW X (.BoolOp .And (x :: y :: r) pos) (tT X ga G W (.and_ a b)) := fun h1 h2 => by
    refine (pw_and h1 h2).mono fun σ H Q ⟨ms, Γ, μ, ρ, S, R, q⟩ => ?_
    rw [testOf_and] at q
    refine stepBT S R q fun k μ1 H1 ms1 Γ1 A R1 q1 => ?_
    cases k with
    | true => rw [if_pos rfl] at q1 ⊢; exact ⟨ms1, Γ1, μ1, ρ, A.si, R1, q1⟩
    | false => rw [if_neg Bool.false_ne_true] at q1 ⊢; exact q1 H1 ms1 Γ1 (After.refl A.si)
  match op, xs, h with
  | .And, [x, y], h =>
    have h := Bool.and_eq_true_iff.mp (show (chk N T sc a x && chk N T sc b y) = true from h)
    exact main (ha X sc x W C tk h.1) (pw_and1 (hb X sc y W C tk h.2))
  | .And, x :: y :: z :: r, h =>
    have h := Bool.and_eq_true_iff.mp (show (chk N T sc a x && chk N T sc b (.BoolOp .And (y :: z :: r) pos)) = true from h)
    exact main (ha X sc x W C tk h.1) (hw X sc _ _ _ W C tk h.2)
  | .And, [], h => simp [chk] at h
  | .And, [_], h => simp [chk] at h
  | .Or, _, h => simp [chk] at h
theorem sw_or {a b : Ex} (ha : ST ga G N T a) (hb : ST ga G N T b) (hw : SW ga G N T b) : SW ga G N T (.or_ a b) := by
  intro X sc op xs pos W C tk h
  have main : ∀ {x y : Expr} {r : List Expr} {pos : Pos}, PT X x (tT X ga G W a) → PW X (.BoolOp .Or (y :: r) pos) (tT X ga G W b) → PW X (.BoolOp .Or (x :: y :: r) pos) (tT X ga G W (.or_ a b)) := fun h1 h2 => by
    refine (pw_or h1 h2).mono fun σ H Q ⟨ms, Γ, μ, ρ, S, R, q⟩ => ?_
    rw [testOf_or] at q
    refine stepBT S R q fun k μ1 H1 ms1 Γ1 A R1 q1 => ?_
    cases k with
    | true => rw [if_pos rfl] at q1 ⊢; exact q1 H1 ms1 Γ1 (After.refl A.si)
    | false => rw [if_neg Bool.false_ne_true] at q1 ⊢; exact ⟨ms1, Γ1, μ1, ρ, A.si, R1, q1⟩
  match op, xs, h with
  | .Or, [x, y], h =>
    have h := Bool.and_eq_true_iff.mp (show (chk N T sc a x && chk N T sc b y) = true from h)
    exact main (ha X sc x W C tk h.1) (pw_or1 (hb X sc y W C tk h.2))
  | .Or, x :: y :: z :: r, h =>
    have h := Bool.and_eq_true_iff.mp (show (chk N T sc a x && chk N T sc b (.BoolOp .Or (y :: z :: r) pos)) = true from h)
    exact main (ha X sc x W C tk h.1) (hw X sc _ _ _ W C tk h.2)
  | .Or, [], h => simp [chk] at h
  | .Or, [_], h => simp [chk] at h
  | .And, _, h => simp [chk] at h
theorem se_not {a : Ex} (ha : SE ga G N T a) (ht : ST ga G N T a) : SE ga G N T (.not_ a) ∧ ST ga G N T (.not_ a) := by
  refine ⟨fun X sc x W C tk h => ?_, fun X sc x W C tk h => ?_⟩
  · cases x with
    | UnaryOp o p pos =>
      cases o with
      | Not =>
        refine (pe_notT (ha X sc p W C tk h)).mono fun σ H Q ⟨ms, Γ, μ, ρ, S, R, q⟩ => ?_
        refine step S R q fun d μ1 v H1 ms1 Γ1 A r R1 q1 => ?_
        obtain ⟨d3, e, q3⟩ := PO.opt q1
        obtain ⟨k, e0, rfl⟩ := map_some e
        exact ⟨k, tru_rep A.si.sub r e0, q3.bl A.si⟩
      | _ => exact absurd h (by simp [chk])
    | _ => exact absurd h (by simp [chk])
  · cases x with
    | UnaryOp o p pos =>
      cases o with
      | Not =>
        refine (pt_not (ht X sc p W C tk h)).mono fun σ H Q ⟨ms, Γ, μ, ρ, S, R, q⟩ => ?_
        rw [testOf_not] at q
        exact stepBT S R q fun k μ1 H1 ms1 Γ1 A R1 q1 => q1 H1 ms1 Γ1 (After.refl A.si)
      | _ => exact absurd h (by simp [chk])
    | _ => exact absurd h (by simp [chk])
theorem pt_ifExp {c a b : Expr} {tc ta tb : TT} {pos : Pos} (hc : PT X c tc) (ha : PT X a ta) (hb : PT X b tb) : PT X (.IfExp c a b pos) (fun σ H Q => tc σ H fun k H1 => if k = true then ta σ H1 Q else tb σ H1 Q) := by
  refine ⟨fun pins s σ H Q I h => ?_⟩
  show wpAny _ _ (isTrue c X.env (eval c X.env) >>= fun k => if k = true then isTrue a X.env (eval a X.env) else isTrue b X.env (eval b X.env)) _ _ _
  refine wpAny_bind (thn (hc.run pins s σ H _ I h) fun k s1 ⟨H1, I1, q1⟩ => ?_)
  cases k with
  | true => exact ha.run pins s1 σ H1 Q I1 q1
  | false => exact hb.run pins s1 σ H1 Q I1 q1
theorem se_ite {c a b : Ex} (hc : ST ga G N T c) (ha : SE ga G N T a) (hb : SE ga G N T b) (ha' : ST ga G N T a) (hb' : ST ga G N T b) : SE ga G N T (.ite c a b) ∧ ST ga G N T (.ite c a b) := by
  refine ⟨fun X sc x W C tk h => ?_, fun X sc x W C tk h => ?_⟩
  · cases x with
    | IfExp t p q pos =>
      obtain ⟨h1, h2, h3⟩ := and3 (show (chk N T sc c t && chk N T sc a p && chk N T sc b q) = true from h)
      refine (pe_ifExp (hc X sc t W C tk h1) (ha X sc p W C tk h2) (hb X sc q W C tk h3)).mono fun σ H Q ⟨ms, Γ, μ, ρ, S, R, q⟩ => ?_
      rw [ev_ite] at q
      refine stepB S R q fun k μ1 H1 ms1 Γ1 A R1 q1 => ?_
      cases k with
      | true => rw [if_pos rfl] at q1 ⊢; exact ⟨ms1, Γ1, μ1, ρ, A.si, R1, q1⟩
      | false => rw [if_neg Bool.false_ne_true] at q1 ⊢; exact ⟨ms1, Γ1, μ1, ρ, A.si, R1, q1⟩
    | _ => exact absurd h (by simp [chk])
  · cases x with
    | IfExp t p q pos =>
      obtain ⟨h1, h2, h3⟩ := and3 (show (chk N T sc c t && chk N T sc a p && chk N T sc b q) = true from h)
      refine (pt_ifExp (hc X sc t W C tk h1) (ha' X sc p W C tk h2) (hb' X sc q W C tk h3)).mono fun σ H Q ⟨ms, Γ, μ, ρ, S, R, q⟩ => ?_
      rw [testOf_ite] at q
      refine stepBT S R q fun k μ1 H1 ms1 Γ1 A R1 q1 => ?_
      cases k with
      | true => rw [if_pos rfl] at q1 ⊢; exact ⟨ms1, Γ1, μ1, ρ, A.si, R1, q1⟩
      | false => rw [if_neg Bool.false_ne_true] at q1 ⊢; exact ⟨ms1, Γ1, μ1, ρ, A.si, R1, q1⟩
    | _ => exact absurd h (by simp [chk])
theorem se_chain (op op' : COp) {a b c : Ex} (ha : SE ga G N T a) (hb : SE ga G N T b) (hc : SE ga G N T c) : SE ga G N T (.chain op op' a b c) ∧ ST ga G N T (.chain op op' a b c) := by
  have key : ∀ (X : Cx) (sc : Scope) (x : Expr) (W : WX), GC X ga G N T sc → Takes X W → chk N T sc (.chain op op' a b c) x = true → ∃ p q r pos, x = .Compare p [opC op, opC op'] [q, r] pos ∧ PE X p (tE X ga G W a) ∧ PE X q (tE X ga G W b) ∧ PE X r (tE X ga G W c) ∧ notSet r = true := by
    intro X sc x W C tk h
    cases x with
    | Compare p os qs pos =>
      match os, qs, h with
      | [o, o'], [q, r], h =>
        have h : (decide (o = opC op) && decide (o' = opC op') && chk N T sc a p && chk N T sc b q && chk N T sc c r && notSet r) = true := h
        simp only [Bool.and_eq_true] at h
        obtain ⟨⟨⟨⟨⟨h1, h1'⟩, h2⟩, h3⟩, h4⟩, h5⟩ := h
        have e := of_decide_eq_true h1
        have e' := of_decide_eq_true h1'
        subst e e'
        exact ⟨p, q, r, pos, rfl, ha X sc p W C tk h2, hb X sc q W C tk h3, hc X sc r W C tk h4, h5⟩
      | [], _, h => simp [chk] at h
      | [_], _, h => simp [chk] at h
      | [_, _], [], h => simp [chk] at h
      | [_, _], [_], h => simp [chk] at h
      | [_, _], _ :: _ :: _ :: _, h => simp [chk] at h
      | _ :: _ :: _ :: _, _, h => simp [chk] at h
    | _ => exact absurd h (by simp [chk])
  have lm : ∀ {q r : Expr}, notSet r = true → lastMarks [opC op, opC op'] [q, r] = false := fun {q r} h => mark_ok (op := op') h
  have main : ∀ {X : Cx} {W : WX} {σ : L2.St} {H : Hp} {Q : VK}, tE X ga G W (.chain op op' a b c) σ H Q → tChain (r2B X ga (cmpop op)) (r2B X ga (cmpop op')) (tE X ga G W a) (tE X ga G W b) (tE X ga G W c) σ H Q := by
    rintro X W σ H Q ⟨ms, Γ, μ, ρ, S, R, q⟩
    refine step S R q fun d μ1 v H1 ms1 Γ1 A r R1 q1 => step A.si R1 q1 fun d2 μ2 v2 H2 ms2 Γ2 A2 r2 R2 q2 => ?_
    cases e : cmpop op d d2 with
    | none => rw [e] at q2; exact False.elim q2
    | some k =>
      rw [e] at q2
      refine ⟨ms2, Γ2, μ2, d, d2, k, ⟨A2.si, r.mono A2.le A2.pre, r2⟩, e, fun v' H' ms' Γ' A' r' => ?_⟩
      unfold Rep at r'
      refine ⟨k, r', ?_⟩
      have q3 := PO.shift q2 A'
      cases k with
      | true =>
        rw [if_pos rfl]
        refine step A'.si (R2.mono A') q3 fun d3 μ3 v3 H3 ms3 Γ3 A3 r3 R3 q4 => ?_
        obtain ⟨d4, e4, q5⟩ := PO.opt q4
        obtain ⟨k2, e0, rfl⟩ := map_some e4
        exact ⟨ms3, Γ3, μ3, d2, d3, k2, ⟨A3.si, (r2.mono A'.le A'.pre).mono A3.le A3.pre, r3⟩, e0, q5⟩
      | false =>
        rw [if_neg Bool.false_ne_true]
        exact PD.bl q3 A'.si
  refine ⟨fun X sc x W C tk h => ?_, fun X sc x W C tk h => ?_⟩
  · obtain ⟨p, q, r, pos, rfl, hp, hq, hr, hn⟩ := key X sc x W C tk h
    exact (pe_chain (op_cmp ga op C.hu) (op_cmp ga op' C.hu) hp hq hr (lm hn)).mono fun σ H Q h => main h
  · obtain ⟨p, q, r, pos, rfl, hp, hq, hr, hn⟩ := key X sc x W C tk h
    refine (pt_chain (op_cmp ga op C.hu) (op_cmp ga op' C.hu) hp hq hr (lm hn)).mono fun σ H Q ⟨ms, Γ, μ, ρ, S, R, q⟩ => main ⟨ms, Γ, μ, ρ, S, R, ?_⟩
    have bl_only : ∀ {d : D} {μ' : Store}, ev G (.chain op op' a b c) ρ μ = .ok d μ' → ∃ k, d = .bl k := by
      intro d μ' e
      have e : (ev G a ρ μ).bind (fun x μ => (ev G b ρ μ).bind fun y μ => match cmpop op x y with
        | some true => (ev G c ρ μ).bind fun z μ => opt ((cmpop op' y z).map .bl) μ
        | some false => .ok (.bl false) μ
        | none => .bad) = .ok d μ' := e
      cases e1 : ev G a ρ μ with
      | ok x μ1 =>
        rw [e1] at e
        have e : (ev G b ρ μ1).bind (fun y μ => match cmpop op x y with
          | some true => (ev G c ρ μ).bind fun z μ => opt ((cmpop op' y z).map .bl) μ
          | some false => .ok (.bl false) μ
          | none => .bad) = .ok d μ' := e
        cases e2 : ev G b ρ μ1 with
        | ok y μ2 =>
          rw [e2] at e
          have e : (match cmpop op x y with
            | some true => (ev G c ρ μ2).bind fun z μ => opt ((cmpop op' y z).map .bl) μ
            | some false => .ok (.bl false) μ2
            | none => .bad) = Out.ok d μ' := e
          cases e3 : cmpop op x y with
          | none => rw [e3] at e; cases e
          | some k =>
            rw [e3] at e
            cases k with
            | false => cases e; exact ⟨_, rfl⟩
            | true =>
              have e : (ev G c ρ μ2).bind (fun z μ => opt ((cmpop op' y z).map .bl) μ) = Out.ok d μ' := e
              cases e4 : ev G c ρ μ2 with
              | ok z μ3 =>
                rw [e4] at e
                have e : opt ((cmpop op' y z).map .bl) μ3 = Out.ok d μ' := e
                cases e5 : cmpop op' y z with
                | none => rw [e5] at e; cases e
                | some k2 => rw [e5] at e; cases e; exact ⟨_, rfl⟩
              | exc _ _ _ => rw [e4] at e; cases e
              | bad => rw [e4] at e; cases e
        | exc _ _ _ => rw [e2] at e; cases e
        | bad => rw [e2] at e; cases e
      | exc _ _ _ => rw [e1] at e; cases e
      | bad => rw [e1] at e; cases e
    cases e : ev G (.chain op op' a b c) ρ μ with
    | ok d μ' =>
      obtain ⟨k, rfl⟩ := bl_only e
      rw [e] at q
      intro v H' ms' Γ' A' r'
      unfold Rep at r'
      exact ⟨k, r', q H' ms' Γ' A'⟩
    | exc c fs μ' => rw [e] at q; exact q
    | bad => rw [e] at q; exact q
end
end LD

set_option Elab.async false
set_option linter.all false
set_option maxRecDepth 100000
set_option maxHeartbeats 2000000
/-! LD6r: t[::-1], t a tuple. -/
namespace HT
open PySem PySem.Spec PyProof.Rows L2
section
variable {prog : Program} {w : World} {A : Around} {E : Value → Shared → Prop} {s : Shared}
theorem sliceApplied_rev {sl : Addr} {vk : Value} {n : Nat} {Q : Int × Int × Nat → Shared → Prop} (hs : s.heap.IsSliceOf sl .none .none vk) (pk : IsPart vk (some (-1)))
    (h : Q ((n : Int) - 1, -1, n) s) : wpAny (model prog w) A (Builtin.Slice.sliceApplied (.ref sl) (pure (n : Int))) Q E s := by
  obtain ⟨os, hos, hcs, hds⟩ := id hs
  unfold Builtin.Slice.sliceApplied Builtin.Slice.sliceFields
  refine wpAny_bind (wpAny_bind (wpAny_field hos hds (x := .none) rfl (wpAny_bind (wpAny_field hos hds (x := .none) rfl (wpAny_bind (wpAny_field hos hds (x := vk) rfl (wpAny_pure ?_)))))))
  refine wpAny_bind (slicePart_ pk ?_)
  show wpAny _ _ (if ((-1 : Int) == 0) = true then _ else _) _ _ s
  rw [if_neg (by decide)]
  refine wpAny_bind (slicePart_none (wpAny_bind (slicePart_none (wpAny_bind (wpAny_pure ?_)))))
  have e : Builtin.Slice.slicePlaces ((n : Int) - 1) (-1) (-1) = n := by
    unfold Builtin.Slice.slicePlaces
    have h1 : ¬ ((-1 : Int) > 0) := by omega
    simp only [h1, if_false]
    have h2 : (-(-1) : Int) = 1 := by omega
    rw [h2, Int.ediv_one]
    split <;> omega
  show wpAny _ _ (pure ((n : Int) - 1, (-1 : Int), Builtin.Slice.slicePlaces ((n : Int) - 1) (-1) (-1))) _ _ s
  rw [e]
  exact wpAny_pure h
theorem fm_congr {α β : Type} {f g : α → Option β} : ∀ {l : List α}, (∀ x ∈ l, f x = g x) → l.filterMap f = l.filterMap g
  | [], _ => rfl
  | x :: l, h => by
    have e := h x (List.mem_cons_self ..)
    have ih := fm_congr (l := l) fun y hy => h y (List.mem_cons_of_mem _ hy)
    rw [List.filterMap_cons, List.filterMap_cons, e, ih]
theorem pick_rev (xs : Array Value) : ((List.range xs.size).filterMap fun (m : Nat) => xs[(((xs.size : Int) - 1) + (m : Int) * -1).toNat]?).toArray = xs.toList.reverse.toArray := by
  have e : ∀ m ∈ List.range xs.size, (fun (m : Nat) => xs[(((xs.size : Int) - 1) + (m : Int) * -1).toNat]?) m = (fun m : Nat => xs[xs.size - 1 - m]?) m := by
    intro m hm
    have := List.mem_range.mp hm
    show xs[_]? = xs[_]?
    congr 1
    omega
  rw [fm_congr e]
  have e2 : (List.range xs.size).filterMap (fun m : Nat => xs[xs.size - 1 - m]?) = ((List.range xs.size).map fun k => xs.size - 1 - k).filterMap (xs[·]?) := by
    rw [List.filterMap_map]; rfl
  rw [e2, PySem.W.krv_range, List.filterMap_reverse, PySem.W.krv_all]
theorem getItem_tuple_rev {t sl : Addr} {items : Array Value} {vk : Value} {Q : Value → Shared → Prop} (ht : IsTup s.heap t items) (hs : s.heap.IsSliceOf sl .none .none vk) (pk : IsPart vk (some (-1)))
    (h : Q (.ref s.heap.objs.size) { s with heap := s.heap.push { cls := .type "tuple", data := .seq items.toList.reverse.toArray } })
    (hsz : items.size ≤ sizeLine) : wpAny (model prog w) A (getItem (.ref t) (.ref sl)) Q E s := by
  have htake : sizeOk (.seq items.toList.reverse.toArray) := by
    show items.toList.reverse.toArray.size ≤ sizeLine
    rw [List.size_toArray, List.length_reverse, Array.length_toList]
    omega
  obtain ⟨os, hos, hcs, hds⟩ := id hs
  have hTs : s.TypeIs (.ref sl) "slice" := ⟨os, hos, hcs⟩
  unfold getItem
  try with_reducible refine wpAny_holding ?_
  first | refine wpAny_bind (wpAny_pure ?_) | skip
  refine wpAny_bind (wpAny_sequenceKey ht.typeIs (by decide) ?_)
  refine wpAny_bind (wpAny_callSpecial?_slot (name := Str.ofString "__getitem__") ht.typeIs PyProof.Rows.slot_tuple_getitem
    (wpAny_call_entry PyProof.Rows.slot_tuple_getitem ht.typeIs entry_tuple_getitem ?_ (args_tuple_getitem _ _)))
  show wpAny _ _ (Builtin.Tuple.tupleItemsOf (.ref t) >>= _) _ _ s
  refine wpAny_bind (tupleItemsOf_ ht ?_)
  refine wpAny_bind (wpAny_typeOf hTs ?_)
  rw [if_pos (by decide)]
  refine wpAny_bind (sliceApplied_rev hs pk ?_)
  have hno : ¬ ((((items.size : Int) - 1 == 0) && (-1 : Int) == 1 && items.size == items.size) = true) := by
    intro q
    rw [Bool.and_eq_true, Bool.and_eq_true] at q
    exact absurd q.1.2 (by decide)
  show wpAny _ _ (if (((items.size : Int) - 1 == 0) && (-1 : Int) == 1 && items.size == items.size) = true then _ else _) _ _ s
  rw [if_neg hno, pick_rev]
  first
    | exact wpAny_bind (m := Builtin.Tuple.tupleExact _) (wpAny_newObj_type (wpAny_pure ⟨_, rfl, wpAny_pure h⟩) htake)
    | exact wpAny_bind (m := Builtin.Tuple.tupleExact _) (wpAny_newObj_type (wpAny_bind (wpAny_pure (wpAny_pure ⟨_, rfl, wpAny_pure h⟩))) htake)
    | exact wpAny_bind (wpAny_bind (m := Builtin.Tuple.tupleExact _) (wpAny_newObj_type (wpAny_pure (wpAny_pure ⟨_, rfl, wpAny_pure h⟩)) htake))
    | exact wpAny_bind (wpAny_bind (m := Builtin.Tuple.tupleExact _) (wpAny_newObj_type (wpAny_pure ⟨_, rfl, wpAny_pure h⟩) htake))
end
end HT
namespace LD
open PySem PySem.Spec PyProof.Rows L2 HT
theorem pe_rev {X : Cx} {e : Expr} {te : TE} {k : Nat} {p p1 p2 pos : Pos} (he : PE X e te) : PE X (.Subscript e (.Slice none none (some (.UnaryOp .USub (.Constant (.int 1) k p) p1)) p2) pos)
    (fun σ H Q => te σ H fun x H1 => ∃ a vs, x = .ref a ∧ ((SqT X.K H1 a vs ∧ NewT H1 vs.reverse Q) ∨ (SqL X.K H1 a vs ∧ ∀ p, H1 p = none → Q (.ref p) (upd H1 p (.lst vs.reverse))))) := by
  refine ⟨fun pins s σ H Q I h => ?_⟩
  refine Subscript_ (thn (he.run pins s σ H _ I h) fun v s1 ⟨x, H1, I1, r1, q1⟩ => ?_)
  obtain ⟨a, xs, rfl, q1⟩ := q1
  cases r1
  have rev : ∀ {vs : List V} {us : List Value}, Vals vs us → Vals vs.reverse us.reverse := by
    intro vs us h
    induction h with
    | nil => exact .nil
    | cons h0 _ ih =>
      rw [List.reverse_cons, List.reverse_cons]
      exact ih.append (.cons h0 .nil)
  have hstep := (L2.po_some (pe_un (X := X) (pos := p1) un_neg (pe_int (X := X) (i := 1) (pos := p) (j := k)))).run pins
  refine wpAny_Slice ?_
  rw [evalPart_none]
  refine wpAny_pure ?_
  refine wpAny_pure ?_
  refine thn (hstep s1 σ H1 (fun o H2 => o = some (-1) ∧ H2 = H1) I1 ⟨1, rfl, _, rfl, rfl, rfl⟩) fun vk s3 ⟨o, H3, I3, pk, e1, e2⟩ => ?_
  subst e1 e2
  have I4 : Inv X pins σ H3 { s3 with heap := s3.heap.push { cls := .type "slice", data := .fields #[.none, .none, vk] } } := I3.kept (t' := s3.toks) fun b ob q => Heap.get?_push_of_some _ q
  show wpAny (model X.prog X.w) X.A (subscriptTail e (.Slice none none (some (.UnaryOp .USub (.Constant (.int 1) k p) p1)) p2) (.ref a) (.ref s3.heap.objs.size)) (EP X pins σ Q) X.xe { s3 with heap := s3.heap.push { cls := .type "slice", data := .fields #[.none, .none, vk] } }
  rcases q1 with ⟨hx, q⟩ | ⟨hx, q⟩
  rotate_left 1
  · obtain ⟨its, r, ht, hz⟩ := I4.list hx
    refine tail_any (ops := [.ref a, .ref s3.heap.objs.size]) ht.isList.typeIs slot_list_getitem.lookup ?_ (by with_unfolding_all rfl)
    refine wpAny_getItem_list_slice ht.isList (Heap.IsSliceOf.new ..) .none .none pk (by decide) ?_ (by rw [List.size_toArray, ← r.length]; exact hz)
    rw [PySem.W.krv_pick]
    refine ⟨.ref _, _, I4.laid (t' := s3.toks) (o := .lst xs.reverse) (fun b ob q => Heap.get?_push_of_some _ q) (Nat.le_refl _) ?_, rfl, q _ (I4.hok.fresh (Nat.le_refl _))⟩
    exact ⟨by rw [List.length_reverse]; exact hz, its.reverse, 0, rev r, Heap.get?_push_size _ rfl⟩
  obtain ⟨its, r, ht, hz⟩ := I4.tuple hx
  refine tail_any (ops := [.ref a, .ref s3.heap.objs.size]) ht.typeIs PyProof.Rows.slot_tuple_getitem.lookup ?_ (by with_unfolding_all rfl)
  refine getItem_tuple_rev ht (Heap.IsSliceOf.new ..) pk ?_ (by rw [List.size_toArray, ← r.length]; exact hz)
  refine ⟨.ref _, _, I4.laid (t' := s3.toks) (o := .frz { cls := .type "tuple", data := .seq its.toArray.toList.reverse.toArray } (.tup xs.reverse)) (fun b ob q => Heap.get?_push_of_some _ q) (Nat.le_refl _) ?_, rfl, q _ _ (I4.hok.fresh (Nat.le_refl _)) rfl⟩
  exact ⟨Heap.get?_push_size _ rfl, by rw [List.length_reverse]; exact hz, its.reverse, rev r, IsTup.new _ _⟩
end LD

set_option Elab.async false
set_option linter.all false
set_option maxRecDepth 100000
set_option maxHeartbeats 2000000
/-! LD7: displays, subscripts, calls, methods. -/
namespace LD
open PySem PySem.Spec PyProof.Rows L2 HT
section
variable {ga : GA} {G : GT} {N : List Str} {T : Tb}
theorem sa_nil : SA ga G N T .nil := by
  intro X sc xs W C tk h
  cases xs with
  | nil => exact pa_nil.mono fun σ H Q ⟨ms, Γ, μ, ρ, S, R, q⟩ => q [] H ms Γ (After.refl S) Reps.nil
  | cons x xs => simp [chks] at h
theorem sa_cons {e : Ex} {es : Exs} (he : SE ga G N T e) (hs : SA ga G N T es) : SA ga G N T (.cons e es) := by
  intro X sc xs W C tk h
  cases xs with
  | nil => simp [chks] at h
  | cons x xs =>
    obtain ⟨h1, h2, h3⟩ := and3 (show (chk N T sc e x && notStar x && chks N T sc es xs) = true from h)
    refine (pa_cons (he X sc x W C tk h1) (hs X sc xs W C tk h3) (star_cons x xs X.env h2)).mono fun σ H Q ⟨ms, Γ, μ, ρ, S, R, q⟩ => ?_
    refine stepS S R q fun d μ1 v H1 ms1 Γ1 A r R1 q1 => stepAS A.si R1 q1 fun ds μ2 vs H2 ms2 Γ2 A2 r2 R2 q2 => ?_
    exact q2 (v :: vs) H2 ms2 Γ2 (After.refl A2.si) (Reps.cons (r.mono A2.le A2.pre) r2)
theorem se_tup {es : Exs} (hs : SA ga G N T es) : SE ga G N T (.tup es) := by
  intro X sc x W C tk h
  cases x with
  | Tuple xs k pos =>
    refine (pe_tupF (hs X sc xs W C tk h)).mono fun σ H Q ⟨ms, Γ, μ, ρ, S, R, q⟩ => ?_
    refine stepA S R q fun ds μ1 vs H1 ms1 Γ1 A r R1 q1 => ?_
    split at q1
    · rename_i hz
      rw [line_eq] at hz
      exact ⟨by rw [← r.length]; exact hz, PD.newT q1 A.si r hz⟩
    · exact False.elim q1
  | _ => exact absurd h (by simp [chk])
theorem se_lst {es : Exs} (hs : SA ga G N T es) : SE ga G N T (.lst es) := by
  intro X sc x W C tk h
  cases x with
  | List xs pos =>
    refine (pe_lst (hs X sc xs W C tk h)).mono fun σ H Q ⟨ms, Γ, μ, ρ, S, R, q⟩ => ?_
    refine stepA S R q fun ds μ1 vs H1 ms1 Γ1 A r R1 q1 => ?_
    split at q1
    · rename_i hz
      rw [line_eq] at hz
      exact ⟨by rw [← r.length]; exact hz, PD.newL q1 A.si r hz⟩
    · exact False.elim q1
  | _ => exact absurd h (by simp [chk])
theorem After.store {K : PySem.W.Frag} {ga : GA} {ms : List Addr} {Γ : Hp} {μ : Store} {H : Hp} (h : SI K ga ms Γ μ H) {p : Addr} {vs : List V} {xs : List D} (hp : H p = none) (hl : xs.length ≤ sizeLine) (r : Reps K ga ms Γ xs vs) :
    After K ga ms Γ H (ms ++ [p]) Γ (μ ++ [.lst xs]) (upd H p (.lst vs)) := by
  have hΓ : Γ p = none := by
    cases e : Γ p with
    | none => rfl
    | some u => rw [h.sub _ _ e] at hp; cases hp
  have hpm : p ∉ ms := fun hm => by
    obtain ⟨u, e⟩ := h.there p hm
    rw [hp] at e; cases e
  have A := After.layOwn (o := HO.lst vs) h hp
  have S2 : SI K ga ms Γ μ (upd H p (.lst vs)) := A.si
  refine ⟨S2.store upd_same hΓ hpm hl r, fun _ _ e => e, List.prefix_append _ _, fun a o e hm => A.keep a o e hm, fun a ha => ?_, fun a o e => .inl e⟩
  rcases List.mem_append.mp ha with ha | ha
  · exact .inl ha
  · have e : a = p := by simpa using ha
    rw [e]; exact .inr hp
theorem se_newl {es : Exs} (hs : SA ga G N T es) : SE ga G N T (.newl es) := by
  intro X sc x W C tk h
  cases x with
  | List xs pos =>
    refine (pe_lst (hs X sc xs W C tk h)).mono fun σ H Q ⟨ms, Γ, μ, ρ, S, R, q⟩ => ?_
    refine stepA S R q fun ds μ1 vs H1 ms1 Γ1 A r R1 q1 => ?_
    split at q1
    · rename_i hz
      rw [line_eq] at hz
      refine ⟨by rw [← r.length]; exact hz, fun p hp => ?_⟩
      have B := After.store A.si hp hz r
      refine q1 _ _ _ _ B ?_
      unfold Rep
      refine ⟨p, rfl, ?_⟩
      rw [← A.si.len, List.getElem?_append_right (Nat.le_refl _), Nat.sub_self]
      rfl
    · exact False.elim q1
  | _ => exact absurd h (by simp [chk])
theorem ix_plain {b : Expr} (h : plainIx b = true) : PlainIx b := by
  intro o i
  cases b <;> first | rfl | exact absurd h Bool.false_ne_true
theorem se_idx {a b : Ex} (ha : SE ga G N T a) (hb : SE ga G N T b) : SE ga G N T (.idx a b) := by
  intro X sc x W C tk h
  cases x with
  | Subscript p q pos =>
    obtain ⟨h1, h2, h3⟩ := and3 (show (chk N T sc a p && chk N T sc b q && plainIx q) = true from h)
    refine (pe_ix (op_idx ga) (ha X sc p W C tk h1) (hb X sc q W C tk h2) (ix_plain h3)).mono fun σ H Q ⟨ms, Γ, μ, ρ, S, R, q⟩ => ?_
    refine step S R q fun d μ1 v H1 ms1 Γ1 A r R1 q1 => step A.si R1 q1 fun d2 μ2 v2 H2 ms2 Γ2 A2 r2 R2 q2 => ?_
    obtain ⟨d3, e, q3⟩ := PO.opt q2
    exact ⟨ms2, Γ2, μ2, d, d2, d3, ⟨A2.si, r.mono A2.le A2.pre, r2⟩, e, q3⟩
  | _ => exact absurd h (by simp [chk])
def SAll (ga : GA) (G : GT) (N : List Str) (T : Tb) : Exs → Prop
  | .nil => True
  | .cons e es => SE ga G N T e ∧ SAll ga G N T es
theorem hv_of {es : Exs} (h : SAll ga G N T es) : ∀ e, es = .cons e .nil → SE ga G N T e := fun e q => by subst q; exact h.1
theorem Out.bind_assoc {α β γ : Type} (o : Out α) (f : α → Store → Out β) (g : β → Store → Out γ) : (o.bind f).bind g = o.bind fun a μ => (f a μ).bind g := by cases o <;> rfl
/-- one bound -/
theorem one_part {X : Cx} {W : WX} {ms : List Addr} {Γ : Hp} {μ : Store} {H : Hp} {σ : L2.St} {ρ : Env} {l : Ex} {Q : VK} {f : D → Store → Out D} {T : Option Int → Hp → Prop} (S : SI X.K ga ms Γ μ H) (R : ER X.K ga ms Γ H ρ σ)
    (h : LD.PO X ga ms Γ H (match ev G l ρ μ with | .ok d μ => f d μ | _ => .bad) σ W Q)
    (hf : ∀ d μ, (∀ i, d ≠ .int i) → f d μ = .bad)
    (k : ∀ (i : Int) μ1 H1 ms1 Γ1, After X.K ga ms Γ H ms1 Γ1 μ1 H1 → LD.PO X ga ms1 Γ1 H1 (f (.int i) μ1) σ W Q → T (some i) H1) : tPart (tE X ga G W l) σ H T := by
  refine ⟨ms, Γ, μ, ρ, S, R, ?_⟩
  cases e : ev G l ρ μ with
  | bad => rw [e] at h; exact h
  | exc c fs μ1 => rw [e] at h; exact h.elim
  | ok d μ1 =>
    rw [e] at h
    intro v H1 ms1 Γ1 A r
    have no : (∀ i, d ≠ .int i) → False := fun q => by
      have h : LD.PO X ga ms Γ H (f d μ1) σ W Q := h
      rw [hf d μ1 q] at h
      exact h
    cases d with
    | int i =>
      unfold Rep at r
      exact ⟨i, r, k i μ1 H1 ms1 Γ1 A (PO.shift h A)⟩
    | _ => exact (no fun i q => by cases q).elim
theorem se_slice (k : SK) {a : Ex} {es : Exs} (ha : SE ga G N T a) (hs : SAll ga G N T es) : SE ga G N T (.slice k a es) := by
  intro X sc x W C tk h
  cases x with
  | Subscript x sl pos =>
    cases sl with
    | Slice lo hi st p2 =>
      cases st with
      | some _ => exact absurd h (by simp [chk])
      | none =>
        have h := Bool.and_eq_true_iff.mp (show (chk N T sc a x && (match partsOf k lo hi with
          | some ys => chks N T sc es ys
          | none => false)) = true from h)
        obtain ⟨h1, h2⟩ := h
        have h1 := ha X sc x W C tk h1
        have fin : ∀ {σ : L2.St} {Q : VK} {ms1 Γ1 H1 d v lo hi μ2} {ms2 : List Addr} {Γ2 H2 : Hp}, Rep X.K ga ms1 Γ1 d v → After X.K ga ms1 Γ1 H1 ms2 Γ2 μ2 H2 → LD.PO X ga ms2 Γ2 H2 (opt (sliceD d (lo, hi)) μ2) σ W Q → rSlD X ga v lo hi H2 Q := fun {σ Q ms1 Γ1 H1 d v lo hi μ2 ms2 Γ2 H2} r A q => by
          obtain ⟨d', e, q2⟩ := PO.opt q
          exact ⟨ms2, Γ2, μ2, d, d', A.si, r.mono A.le A.pre, e, q2⟩
        cases k with
        | all =>
          cases lo with
          | some _ => simp [partsOf] at h2
          | none =>
            cases hi with
            | some _ => simp [partsOf] at h2
            | none =>
              cases es with
              | cons _ _ => simp [partsOf, chks] at h2
              | nil =>
                refine (pe_slice (op_sl ga) h1 po_none po_none).mono fun σ H Q ⟨ms, Γ, μ, ρ, S, R, q⟩ => ?_
                refine step S R q fun d μ1 v H1 ms1 Γ1 A r R1 q1 => ?_
                exact fin r (After.refl A.si) q1
        | lo =>
          cases lo with
          | none => simp [partsOf] at h2
          | some y =>
            cases hi with
            | some _ => simp [partsOf] at h2
            | none =>
              match es, hs, h2 with
              | .nil, _, h2 => simp [partsOf, chks] at h2
              | .cons l (.cons _ _), _, h2 => simp [partsOf, chks] at h2
              | .cons l .nil, hs, h2 =>
                have h2 : (chk N T sc l y && notStar y && true) = true := h2
                simp only [Bool.and_eq_true] at h2
                refine (pe_slice (op_sl ga) h1 (po_some (hs.1 X sc y W C tk h2.1.1)) po_none).mono fun σ H Q ⟨ms, Γ, μ, ρ, S, R, q⟩ => ?_
                refine step S R q fun d μ1 v H1 ms1 Γ1 A r R1 q1 => ?_
                refine one_part (f := fun d2 μ => match part .lo [d2] with | some p => opt (sliceD d p) μ | none => .bad) A.si R1 ?_ ?_ fun i μ2 H2 ms2 Γ2 A2 q2 => fin r A2 q2
                · have q1 : LD.PO X ga ms1 Γ1 H1 (match (ev G l ρ μ1).bind fun d μ => (Out.ok [] μ : Out (List D)).bind fun ds μ => .ok (d :: ds) μ with
                    | .ok ds μ => (match part .lo ds with
                      | some p => opt (sliceD d p) μ
                      | none => .bad)
                    | _ => .bad) σ W Q := q1
                  cases e : ev G l ρ μ1 <;> rw [e] at q1 <;> exact q1
                · intro d2 μ hd
                  cases d2 with
                  | int i => exact absurd rfl (hd i)
                  | _ => rfl
        | hi =>
          cases hi with
          | none => cases lo <;> simp [partsOf] at h2
          | some y =>
            cases lo with
            | some _ => simp [partsOf] at h2
            | none =>
              match es, hs, h2 with
              | .nil, _, h2 => simp [partsOf, chks] at h2
              | .cons l (.cons _ _), _, h2 => simp [partsOf, chks] at h2
              | .cons l .nil, hs, h2 =>
                have h2 : (chk N T sc l y && notStar y && true) = true := h2
                simp only [Bool.and_eq_true] at h2
                refine (pe_slice (op_sl ga) h1 po_none (po_some (hs.1 X sc y W C tk h2.1.1))).mono fun σ H Q ⟨ms, Γ, μ, ρ, S, R, q⟩ => ?_
                refine step S R q fun d μ1 v H1 ms1 Γ1 A r R1 q1 => ?_
                refine one_part (T := fun o H2 => rSlD X ga v none o H2 Q) (f := fun d2 μ => match part .hi [d2] with | some p => opt (sliceD d p) μ | none => .bad) A.si R1 ?_ ?_ fun i μ2 H2 ms2 Γ2 A2 q2 => fin r A2 q2
                · have q1 : LD.PO X ga ms1 Γ1 H1 (match (ev G l ρ μ1).bind fun d μ => (Out.ok [] μ : Out (List D)).bind fun ds μ => .ok (d :: ds) μ with
                    | .ok ds μ => (match part .hi ds with
                      | some p => opt (sliceD d p) μ
                      | none => .bad)
                    | _ => .bad) σ W Q := q1
                  cases e : ev G l ρ μ1 <;> rw [e] at q1 <;> exact q1
                · intro d2 μ hd
                  cases d2 with
                  | int i => exact absurd rfl (hd i)
                  | _ => rfl
        | both =>
          cases lo with
          | none => simp [partsOf] at h2
          | some y =>
            cases hi with
            | none => simp [partsOf] at h2
            | some z =>
              match es, hs, h2 with
              | .nil, _, h2 => simp [partsOf, chks] at h2
              | .cons l .nil, _, h2 => simp [partsOf, chks] at h2
              | .cons l (.cons u (.cons _ _)), _, h2 => simp [partsOf, chks] at h2
              | .cons l (.cons u .nil), hs, h2 =>
                have h2 : (chk N T sc l y && notStar y && (chk N T sc u z && notStar z && true)) = true := h2
                simp only [Bool.and_eq_true] at h2
                refine (pe_slice (op_sl ga) h1 (po_some (hs.1 X sc y W C tk h2.1.1)) (po_some (hs.2.1 X sc z W C tk h2.2.1.1))).mono fun σ H Q ⟨ms, Γ, μ, ρ, S, R, q⟩ => ?_
                refine step S R q fun d μ1 v H1 ms1 Γ1 A r R1 q1 => ?_
                refine one_part (Q := Q) (f := fun d2 μ => match d2 with | .int i => (match ev G u ρ μ with | .ok d3 μ => (match part .both [.int i, d3] with | some p => opt (sliceD d p) μ | none => .bad) | _ => .bad) | _ => .bad) A.si R1 ?_ ?_ fun i μ2 H2 ms2 Γ2 A2 q2 => ?_
                · have q1 : LD.PO X ga ms1 Γ1 H1 (match (ev G l ρ μ1).bind fun d μ => ((ev G u ρ μ).bind fun d μ => (Out.ok [] μ : Out (List D)).bind fun ds μ => .ok (d :: ds) μ).bind fun ds μ => .ok (d :: ds) μ with
                    | .ok ds μ => (match part .both ds with
                      | some p => opt (sliceD d p) μ
                      | none => .bad)
                    | _ => .bad) σ W Q := q1
                  cases e : ev G l ρ μ1 with
                  | bad => rw [e] at q1; exact q1
                  | exc c fs μ2 => rw [e] at q1; exact q1
                  | ok d2 μ2 =>
                    rw [e, Out.bind_ok] at q1
                    cases e2 : ev G u ρ μ2 with
                    | ok d3 μ3 =>
                      rw [e2] at q1
                      cases d2 with
                      | int i => show LD.PO X ga ms1 Γ1 H1 (match ev G u ρ μ2 with | .ok d3 μ => (match part .both [.int i, d3] with | some p => opt (sliceD d p) μ | none => .bad) | _ => .bad) σ W Q; rw [e2]; exact q1
                      | _ => exact q1
                    | exc c fs μ3 => rw [e2] at q1; exact q1.elim
                    | bad => rw [e2] at q1; exact q1.elim
                · intro d2 μ hd
                  cases d2 with
                  | int i => exact absurd rfl (hd i)
                  | _ => rfl
                · refine one_part (T := fun o H2 => rSlD X ga v (some i) o H2 Q) (f := fun d3 μ => match part .both [.int i, d3] with | some p => opt (sliceD d p) μ | none => .bad) A2.si (R1.mono A2) q2 ?_ fun j μ3 H3 ms3 Γ3 A3 q3 => fin r (A2.trans A3) q3
                  intro d2 μ hd
                  cases d2 with
                  | int i => exact absurd rfl (hd i)
                  | _ => rfl
    | _ => exact absurd h (by simp [chk])
  | _ => exact absurd h (by simp [chk])
theorem se_bidx (i : Nat) {b : Ex} (hb : SE ga G N T b) : SE ga G N T (.bidx i b) := by
  intro X sc x W C tk h
  cases x with
  | Subscript p q pos =>
    cases p with
    | Name y py =>
      obtain ⟨h1, h2, h3⟩ := and3 (show (nIs N sc i y && chk N T sc b q && plainIx q) = true from h)
      obtain ⟨g1, g2, g3, g4⟩ := nIs_ok h1
      refine (pe_ix ix_list (pe_var (i := i) (by rw [C.hN]; exact g1) (C.vis _ g2) g3 g4) (hb X sc q W C tk h2) (ix_plain h3)).mono fun σ H Q ⟨ms, Γ, μ, ρ, S, R, q⟩ => ?_
      have q : PO X ga ms Γ H (match ρ[i]? with
        | some (.own xs) => (ev G b ρ μ).bind fun y μ => match y with
          | .int k => opt (L2.atI xs k) μ
          | _ => .bad
        | _ => .bad) σ W Q := q
      split at q
      · rename_i xs e
        obtain ⟨a, vs, e1, e2, _⟩ := R.own e
        refine ⟨.ref a, e1, step S R q fun d μ1 v H1 ms1 Γ1 A r R1 q1 => ?_⟩
        cases d with
        | int k =>
          obtain ⟨d2, e3, q2⟩ := PO.opt q1
          obtain ⟨a', vs', f1, f2, _, _, _, f6⟩ := R1.own e
          rw [e1] at f1
          cases f1
          obtain ⟨w, w1, w2⟩ := atI_rep f6 e3
          unfold Rep at r
          exact ⟨a, vs', k, w, rfl, r, SqL.of f2, w1, q2.here A.si w2⟩
        | _ => exact False.elim q1
      · exact False.elim q
    | _ => exact absurd h (by simp [chk])
  | _ => exact absurd h (by simp [chk])
/-! ### calls of the program's functions -/
theorem pe_call0S {X : Cx} {CX : CXT} {k : Nat} {f : Addr} {fd : FuncData} {ps : List Str} {sp : Sp} {E : L2.St → XK} {x : Str} {p pos : Pos}
    (F : FnOk X.prog X.w X.K X.mg X.base CX k f fd ps sp) (hr : Room k X.A) (hg : L2.Gl X x) (hm : X.mg x = some (.ref f)) (hk : PySem.W.keepIn X.K (.ref f) = true) (hb : Binds X.K fd ps []) (hx : ∀ σ, PassesAt CX X σ (E σ))
    (hdb : (x == ("__debug__" : Str)) = false) : PE X (.Call (.Name x p) [] [] pos) (tCallS sp E tNil) := by
  refine ⟨fun pins s σ H Q I h => ?_⟩
  refine wpAny_Call_Name_kw (ld_glob I hg hm ?_ hdb)
  exact PySem.W.callWith_K0 I.kIn hk (run_fnS (us := []) F hr hb (hx σ) I .nil h)
theorem se_call (f : Str) {es : Exs} (hs : SA ga G N T es) : SE ga G N T (.call f es) := by
  intro X sc x W C tk h
  cases x with
  | Call g xs kws pos =>
    cases g with
    | Name y py =>
      cases kws with
      | nil =>
        have h : (decide (f = y) && decide (xs.length ≠ 1000) && decide ((f, xs.length) ∈ T) && glC sc y && okName y && chks N T sc es xs) = true := h
        simp only [Bool.and_eq_true] at h
        obtain ⟨⟨⟨⟨⟨h1, hne⟩, h1'⟩, h2⟩, h3⟩, h4⟩ := h
        have e := of_decide_eq_true h1
        subst e
        obtain ⟨k, a, fd, ps, hm, hk, hl, F, hr, hb⟩ := (C.fn f xs.length (of_decide_eq_true h1') (of_decide_eq_true hne)).ex
        have hp : ∀ σ, PassesAt (L2.CX X.prog X.w) X σ (WE W σ) := fun σ => passAt tk σ
        have main : ∀ σ H Q, tE X ga G W (.call f es) σ H Q → tCallS (spC X.K ga (G.call f)) (WE W) (tA X ga G W es) σ H Q := fun σ H Q ⟨ms, Γ, μ, ρ, S, R, q⟩ => by
          refine stepA S R q fun ds μ1 vs H1 ms1 Γ1 A r R1 q1 => ?_
          refine ⟨ms1, Γ1, μ1, ds, A.si, r, ?_⟩
          cases e : G.call f ds μ1 with
          | ok d μ2 => rw [e] at q1; exact q1
          | exc c fs μ2 => rw [e] at q1; exact q1
          | bad => rw [e] at q1; exact q1
        cases xs with
        | nil =>
          refine (pe_call0S F hr (C.gl _ h2) hm hk hb hp (okName_debug h3).1).mono fun σ H Q hq => ?_
          cases es with
          | nil =>
            obtain ⟨ms, Γ, μ, ρ, S, R, z⟩ := main σ H Q hq
            exact z [] H ms Γ (After.refl S) Reps.nil
          | cons e es => simp [chks] at h4
        | cons x xs =>
          have st := chks_star h4
          have st2 := Bool.and_eq_true_iff.mp (show (notStar x && xs.all notStar) = true from st)
          exact (pe_callS F hr (C.gl _ h2) hm hk hb hp (hs X sc _ W C tk h4) (okName_debug h3).1 (star_cons x xs X.env st2.1) (plain_any st2.2)).mono main
      | cons _ _ => exact absurd h (by simp [chk])
    | _ => exact absurd h (by simp [chk])
  | _ => exact absurd h (by simp [chk])
/-! ### calls of built-in functions -/
theorem blt_boot (f : Blt) : bltNm f ∈ bltNames ∧ bltNm f ≠ "__name__" ∧ (bltNm f == ("__debug__" : Str)) = false ∧ bootBuiltins (bltNm f) = some (bltVal f) := by
  cases f <;> exact ⟨by decide +kernel, by decide +kernel, by decide +kernel, by decide +kernel⟩
theorem pe_callV {X : Cx} {f : Value} {r : List V → Hp → VK → Prop} {x : Str} {e : Expr} {es : List Expr} {t : TA} {p pos : Pos} (hf : (∃ id, f = .builtin id) ∨ ∃ n, f = .type n) (hc : CallR X f r) (hg : L2.Gl X x) (hm : X.mg x = none) (hv : bootBuiltins x = some f)
    (ha : PA X (e :: es) t) (hn : x ≠ "__name__") (hdb : (x == ("__debug__" : Str)) = false) (he : starEach (e :: es) X.env = (false, eval e X.env) :: starEach es X.env) (hpl : (backTo pos (starEach es X.env)).any (·.1) = false) :
    PE X (.Call (.Name x p) (e :: es) [] pos) (tCB r t) := by
  rcases hf with ⟨id, rfl⟩ | ⟨n, rfl⟩
  · exact pe_callB hc hg hm hv ha hn hdb he hpl
  · exact pe_callTy hc hg hm hv ha hn hdb he hpl
theorem se_blt (f : Blt) {es : Exs} (hs : SA ga G N T es) : SE ga G N T (.blt f es) := by
  intro X sc x W C tk h
  cases x with
  | Call g xs kws pos =>
    cases g with
    | Name y py =>
      match xs, kws, h with
      | a :: as, [], h =>
        obtain ⟨h1, h2, h3⟩ := and3 (show (decide (y = bltNm f) && glC sc y && chks N T sc es (a :: as)) = true from h)
        have e := of_decide_eq_true h1
        subst e
        obtain ⟨b1, b2, b3, b4⟩ := blt_boot f
        have st2 := Bool.and_eq_true_iff.mp (show (notStar a && as.all notStar) = true from chks_star h3)
        refine (pe_callV (by cases f <;> first | exact .inl ⟨_, rfl⟩ | exact .inr ⟨_, rfl⟩) (op_blt ga C.calm f) (C.gl _ h2) (C.blt _ b1) b4 (hs X sc _ W C tk h3) b2 b3 (star_cons a as X.env st2.1) (plain_any st2.2)).mono fun σ H Q ⟨ms, Γ, μ, ρ, S, R, q⟩ => ?_
        refine stepA S R q fun ds μ1 vs H1 ms1 Γ1 A r R1 q1 => ?_
        obtain ⟨d, e, q2⟩ := PO.opt q1
        exact ⟨ms1, Γ1, μ1, ds, d, A.si, r, e, q2⟩
      | [], [], h => simp [chk] at h
      | [], _ :: _, h => simp [chk] at h
      | _ :: _, _ :: _, h => simp [chk] at h
    | _ => exact absurd h (by simp [chk])
  | _ => exact absurd h (by simp [chk])
/-! ### methods of built-in types -/
theorem base_ok {o : Expr} {n : Str} {env : PySem.Env} (h : notSuper o = true) : attributeBase o n env (eval o env) = eval o env := by
  cases o with
  | Call g xs kws pos =>
    cases g with
    | Name y py =>
      cases xs with
      | nil =>
        cases kws with
        | nil => exact absurd h Bool.false_ne_true
        | cons _ _ => rfl
      | cons _ _ => rfl
    | _ => rfl
  | _ => rfl
theorem mth_facts (m : Mth) : PlainAttrs (mthTy m) ∧ PySem.Slot (mthTy m) (mthNm m) (mthId m) ∧ typeOf (.builtin (mthId m)) = pure (.type "method_descriptor") := by
  cases m with
  | join => exact ⟨PySem.F.plainAttrs_str, PySem.F.slot_str_join, PySem.F.type_str_join⟩
  | tindex => exact ⟨PySem.F.plainAttrs_tuple, PySem.F.slot_tuple_index, PySem.F.type_tuple_index⟩
  | lindex => exact ⟨PySem.F.plainAttrs_list, PySem.F.slot_list_index, PySem.F.type_list_index⟩
theorem mth_ty {X : Cx} {ms : List Addr} {Γ H : Hp} {m : Mth} {d : D} {v : V} (le : Same Γ H) (r : Rep X.K ga ms Γ d v) (h : mthOk m d = true) : tyW X.K (mthTy m) v H := by
  cases m with
  | join =>
    cases d with
    | str z => unfold Rep at r; obtain ⟨r, _⟩ := r; subst r; exact .inl rfl
    | _ => exact absurd h (by simp [mthOk])
  | tindex =>
    cases d with
    | tup xs => unfold Rep at r; obtain ⟨a, vs, rfl, h1, _⟩ := r; exact .inr ⟨rfl, a, vs, rfl, h1.mono le⟩
    | _ => exact absurd h (by simp [mthOk])
  | lindex =>
    cases d with
    | lst xs => unfold Rep at r; obtain ⟨a, vs, rfl, h1, _⟩ := r; exact .inl (.inl ⟨rfl, vs, SqL.of (le _ _ h1)⟩)
    | _ => exact absurd h (by simp [mthOk])
theorem se_meth (m : Mth) {o : Ex} {es : Exs} (ho : SE ga G N T o) (hs : SA ga G N T es) : SE ga G N T (.meth m o es) := by
  intro X sc x W C tk h
  cases x with
  | Call g xs kws pos =>
    cases g with
    | Attribute oo n ap =>
      match xs, kws, h with
      | [a], [], h =>
        have h : (decide (n = mthNm m) && chk N T sc o oo && notSuper oo && chks N T sc es [a] && decide (ap.endLine = pos.line)) = true := h
        simp only [Bool.and_eq_true] at h
        obtain ⟨⟨⟨⟨h1, h2⟩, h3⟩, h4⟩, h5⟩ := h
        have e := of_decide_eq_true h1
        subst e
        obtain ⟨f1, f2, f3⟩ := mth_facts m
        have st2 := Bool.and_eq_true_iff.mp (show (notStar a && [].all notStar) = true from chks_star h4)
        have sc1 := star_cons a [] X.env st2.1
        refine (pe_bw f1 f2 f3 (op_mth ga m) (ho X sc oo W C tk h2) (hs X sc [a] W C tk h4) (base_ok h3) (by rw [sc1]; rfl) (by simpa using h5) sc1 (plain_any rfl)).mono fun σ H Q ⟨ms, Γ, μ, ρ, S, R, q⟩ => ?_
        refine step S R q fun d μ1 v H1 ms1 Γ1 A r R1 q1 => ?_
        split at q1
        · rename_i hk
          refine ⟨mth_ty A.si.sub r hk, stepA A.si R1 q1 fun ds μ2 vs H2 ms2 Γ2 A2 r2 R2 q2 => ?_⟩
          obtain ⟨d2, e, q3⟩ := PO.opt q2
          exact ⟨ms2, Γ2, μ2, d, ds, d2, A2.si, r.mono A2.le A2.pre, r2, e, q3⟩
        · exact False.elim q1
      | [], [], h => simp [chk] at h
      | [], _ :: _, h => simp [chk] at h
      | [_], _ :: _, h => simp [chk] at h
      | _ :: _ :: _, _, h => simp [chk] at h
    | _ => exact absurd h (by simp [chk])
  | _ => exact absurd h (by simp [chk])
/-! ### t[::-1] -/
theorem Reps.rev {K : PySem.W.Frag} {ms : List Addr} {Γ : Hp} : ∀ {ds : List D} {vs : List V}, Reps K ga ms Γ ds vs → Reps K ga ms Γ ds.reverse vs.reverse
  | [], vs, h => by rw [h.nil_iff]; exact Reps.nil
  | d :: ds, vs, h => by
    obtain ⟨v, r, rfl, h1, h2⟩ := h.cons_iff
    rw [List.reverse_cons, List.reverse_cons]
    exact (Reps.rev h2).append (Reps.cons h1 Reps.nil)
theorem se_rev {a : Ex} (ha : SE ga G N T a) : SE ga G N T (.rev a) := by
  intro X sc x W C tk h
  have key : ∃ p i k p1 p2 p3 pos, x = .Subscript p (.Slice none none (some (.UnaryOp .USub (.Constant (.int i) k p1) p2)) p3) pos ∧ (decide (i = 1) && chk N T sc a p) = true := by
    cases x with
    | Subscript p q pos =>
      cases q with
      | Slice lo hi st p3 =>
        cases lo with
        | some _ => exact absurd h (by simp [chk])
        | none =>
          cases hi with
          | some _ => exact absurd h (by simp [chk])
          | none =>
            cases st with
            | none => exact absurd h (by simp [chk])
            | some e =>
              cases e with
              | UnaryOp o e p2 =>
                cases o with
                | USub =>
                  cases e with
                  | Constant c k p1 =>
                    cases c with
                    | int i => exact ⟨_, _, _, _, _, _, _, rfl, h⟩
                    | _ => exact absurd h (by simp [chk])
                  | _ => exact absurd h (by simp [chk])
                | _ => exact absurd h (by simp [chk])
              | _ => exact absurd h (by simp [chk])
      | _ => exact absurd h (by simp [chk])
    | _ => exact absurd h (by simp [chk])
  obtain ⟨p, i, k, p1, p2, p3, pos, rfl, h2⟩ := key
  have h2 := Bool.and_eq_true_iff.mp h2
  have e := of_decide_eq_true h2.1
  subst e
  refine (pe_rev (ha X sc p W C tk h2.2)).mono fun σ H Q ⟨ms, Γ, μ, ρ, S, R, q⟩ => ?_
  refine step S R q fun d μ1 v H1 ms1 Γ1 A r R1 q1 => ?_
  cases d with
  | tup xs =>
    unfold Rep at r
    obtain ⟨a, vs, rfl, h1, h2, h3⟩ := r
    exact ⟨a, vs, rfl, .inl ⟨(h1.mono A.si.sub).seq, PD.newT q1 A.si (Reps.rev h3) (by rw [List.length_reverse]; exact h2)⟩⟩
  | lst xs =>
    unfold Rep at r
    obtain ⟨a, vs, rfl, h1, h2, h3⟩ := r
    exact ⟨a, vs, rfl, .inr ⟨SqL.of (A.si.sub _ _ h1), PD.newL q1 A.si (Reps.rev h3) (by rw [List.length_reverse]; exact h2)⟩⟩
  | _ => exact False.elim q1
/-! ### lists of the store -/
theorem and4 {a b c d : Bool} (h : (a && b && c && d) = true) : a = true ∧ b = true ∧ c = true ∧ d = true := by
  simp only [Bool.and_eq_true] at h
  exact ⟨h.1.1.1, h.1.1.2, h.1.2, h.2⟩
theorem se_llen {a : Ex} (ha : SE ga G N T a) : SE ga G N T (.llen a) := by
  intro X sc x W C tk h
  cases x with
  | Call g xs kws pos =>
    cases g with
    | Name y py =>
      match xs, kws, h with
      | [z], [], h =>
        obtain ⟨h1, h2, h3, h4⟩ := and4 (show (decide (y = ("len" : Str)) && glC sc y && chk N T sc a z && notStar z) = true from h)
        have e := of_decide_eq_true h1
        subst e
        obtain ⟨b1, b2, b3, b4⟩ := blt_boot .len
        refine (pe_callV (.inl ⟨_, rfl⟩) call_len (C.gl _ h2) (C.blt _ b1) b4 (pa_cons (ha X sc z W C tk h3) pa_nil (star_cons z [] X.env h4)) b2 b3 (star_cons z [] X.env h4) (plain_any rfl)).mono fun σ H Q ⟨ms, Γ, μ, ρ, S, R, q⟩ => ?_
        refine step S R q fun d μ1 v H1 ms1 Γ1 A r R1 q1 => ?_
        cases d with
        | loc l =>
          have q1 : PO X ga ms1 Γ1 H1 (match μ1[l]? with
            | some (.lst xs) => .ok (.int (xs.length : Nat)) μ1
            | _ => .bad) σ W Q := q1
          split at q1
          · rename_i xs el
            unfold Rep at r
            obtain ⟨p', rfl, hp⟩ := r
            obtain ⟨vs, f2, f5, f6⟩ := A.si.st l _ p' el hp
            exact ⟨.ref p', _, rfl, .inl ⟨vs, SqL.of f2, f6.length⟩, PD.int q1 A.si⟩
          · exact False.elim q1
        | _ => exact False.elim q1
      | [], _, h => simp [chk] at h
      | [_], _ :: _, h => simp [chk] at h
      | _ :: _ :: _, _, h => simp [chk] at h
    | _ => exact absurd h (by simp [chk])
  | _ => exact absurd h (by simp [chk])
theorem se_newc {a : Ex} (ha : SE ga G N T a) : SE ga G N T (.newc a) := by
  intro X sc x W C tk h
  cases x with
  | Call g xs kws pos =>
    cases g with
    | Name y py =>
      match xs, kws, h with
      | [z], [], h =>
        obtain ⟨h1, h2, h3, h4⟩ := and4 (show (decide (y = ("list" : Str)) && glC sc y && chk N T sc a z && notStar z) = true from h)
        have e := of_decide_eq_true h1
        subst e
        obtain ⟨b1, b2, b3, b4⟩ := blt_boot .list1
        refine (pe_callV (.inr ⟨_, rfl⟩) call_list_of (C.gl _ h2) (C.blt _ b1) b4 (pa_cons (ha X sc z W C tk h3) pa_nil (star_cons z [] X.env h4)) b2 b3 (star_cons z [] X.env h4) (plain_any rfl)).mono fun σ H Q ⟨ms, Γ, μ, ρ, S, R, q⟩ => ?_
        refine step S R q fun d μ1 v H1 ms1 Γ1 A r R1 q1 => ?_
        have fin : ∀ {xs : List D} {vs : List V}, PO X ga ms1 Γ1 H1 (.ok (.loc μ1.length) (μ1 ++ [.lst xs])) σ W Q → xs.length ≤ sizeLine → Reps X.K ga ms1 Γ1 xs vs → ∀ p, H1 p = none → Q (.ref p) (upd H1 p (.lst vs)) := fun {xs vs} q hz r p hp => by
          have B := After.store A.si hp hz r
          refine q _ _ _ _ B ?_
          unfold Rep
          refine ⟨p, rfl, ?_⟩
          rw [← A.si.len, List.getElem?_append_right (Nat.le_refl _), Nat.sub_self]
          rfl
        cases d with
        | lst xs =>
          unfold Rep at r
          obtain ⟨a, vs, rfl, h1, h2, h3⟩ := r
          exact ⟨a, vs, rfl, .inl (SqL.of (A.si.sub _ _ h1)), fin q1 h2 h3⟩
        | tup xs =>
          unfold Rep at r
          obtain ⟨a, vs, rfl, h1, h2, h3⟩ := r
          exact ⟨a, vs, rfl, .inr (h1.mono A.si.sub).seq, fin q1 h2 h3⟩
        | _ => exact False.elim q1
      | [], _, h => simp [chk] at h
      | [_], _ :: _, h => simp [chk] at h
      | _ :: _ :: _, _, h => simp [chk] at h
    | _ => exact absurd h (by simp [chk])
  | _ => exact absurd h (by simp [chk])
theorem Reps.erase {K : PySem.W.Frag} {ms : List Addr} {Γ : Hp} : ∀ {ds : List D} {vs : List V} (n : Nat), Reps K ga ms Γ ds vs → Reps K ga ms Γ (ds.eraseIdx n) (vs.eraseIdx n)
  | [], vs, n, h => by rw [h.nil_iff]; exact Reps.nil
  | d :: ds, vs, 0, h => by
    obtain ⟨v, r, rfl, h1, h2⟩ := h.cons_iff
    exact h2
  | d :: ds, vs, n + 1, h => by
    obtain ⟨v, r, rfl, h1, h2⟩ := h.cons_iff
    exact Reps.cons h1 (Reps.erase n h2)
theorem se_popl {o k : Ex} (ho : SE ga G N T o) (hk : SE ga G N T k) : SE ga G N T (.popl o k) := by
  intro X sc x W C tk h
  cases x with
  | Call g xs kws cp =>
    cases g with
    | Attribute ox n ap =>
      match xs, kws, h with
      | [y], [], h =>
        have h : (decide (n = ("pop" : Str)) && chk N T sc o ox && notSuper ox && chk N T sc k y && notStar y && decide (ap.endLine = cp.line)) = true := h
        simp only [Bool.and_eq_true] at h
        obtain ⟨⟨⟨⟨⟨h1, h2⟩, h2'⟩, h3⟩, h4⟩, h5⟩ := h
        have e2 := of_decide_eq_true h1
        subst e2
        have st1 : starEach [y] X.env = (false, eval y X.env) :: starEach [] X.env := star_cons y [] X.env h4
        refine (pe_bm PySem.F.plainAttrs_list PySem.F.slot_list_pop PySem.F.type_list_pop mt_popAt (ho X sc ox W C tk h2) (pa_cons (hk X sc y W C tk h3) pa_nil st1) (base_ok h2') (by rw [st1]; rfl) (by simpa using of_decide_eq_true h5) st1 (plain_any rfl)).mono fun σ H Q ⟨ms, Γ, μ, ρ, S, R, q⟩ => ?_
        refine step S R q fun d μ1 v H1 ms1 Γ1 A r R1 q1 => ?_
        cases d with
        | loc l =>
          have q1 : PO X ga ms1 Γ1 H1 (match μ1[l]? with
            | some (.lst _) => (ev G k ρ μ1).bind fun y μ => popD l y μ
            | _ => .bad) σ W Q := q1
          split at q1
          · rename_i xs el
            unfold Rep at r
            obtain ⟨p', rfl, hp⟩ := r
            obtain ⟨vs, f2, f5, f6⟩ := A.si.st l _ p' el hp
            refine ⟨.inl ⟨rfl, vs, SqL.of f2⟩, step A.si R1 q1 fun d2 μ2 v2 H2 ms2 Γ2 A2 r2 R2 q2 => ?_⟩
            cases d2 with
            | int j =>
              have q2 : PO X ga ms2 Γ2 H2 (match μ2[l]? with
                | some (.lst xs) => (match popIx xs.length j with
                  | some n => (match xs[n]? with
                    | some d => .ok d (μ2.set l (.lst (xs.eraseIdx n)))
                    | none => .bad)
                  | none => .bad)
                | _ => .bad) σ W Q := q2
              split at q2
              · rename_i ys el2
                split at q2
                · rename_i n en
                  split at q2
                  · rename_i d ed
                    unfold Rep at r2
                    subst r2
                    have hp2 := pre_get A2.pre hp
                    obtain ⟨us, g2, g5, g6⟩ := A2.si.st l _ p' el2 hp2
                    obtain ⟨w, w1, w2⟩ := g6.get ed
                    unfold popIx at en
                    split at en
                    · rename_i hj
                      have en := Option.some.inj en
                      have hl : (us.length : Int) = ys.length := by rw [g6.length]
                      have hix : seqIndex? j us.length = some n := by rw [← en]; exact PySem.StrLaws.seqIndex_nonneg hj.1 (by omega)
                      refine ⟨p', us, j, n, w, rfl, rfl, g2, by omega, by omega, hix, w1, ?_⟩
                      have B := After.put A2.si el2 hp2 (xs := ys.eraseIdx n) (Nat.le_trans (List.length_eraseIdx_le ys n) g5) (Reps.erase n g6)
                      exact q2 _ _ _ _ B w2
                    · cases en
                  · exact False.elim q2
                · exact False.elim q2
              · exact False.elim q2
            | _ => exact False.elim q2
          · exact False.elim q1
        | _ => exact False.elim q1
      | [], _, h => simp [chk] at h
      | [_], _ :: _, h => simp [chk] at h
      | _ :: _ :: _, _, h => simp [chk] at h
    | _ => exact absurd h (by simp [chk])
  | _ => exact absurd h (by simp [chk])
end
end LD

set_option Elab.async false
set_option linter.all false
set_option maxRecDepth 100000
set_option maxHeartbeats 2000000
/-! LD6x: exceptions as values: made, asked for their class, a field read. -/
namespace LD
open PySem PySem.Spec PyProof.Rows L2 HT PySem.XLD
section
variable {X : Cx} {ga : GA} {ms : List Addr} {Γ : Hp} {μ : Store} {H : Hp}
theorem PD.newX0 {c : Str} {Q : VK} (q : PD X ga ms Γ μ H (.ins c []) Q) (S : SI X.K ga ms Γ μ H) : ∀ p, H p = none → Q (.ref p) (upd H p (ExO (.ref (ga c)) p)) := fun p hp => by
  have A := After.lay (o := ExO (.ref (ga c)) p) S hp
  refine q _ _ _ _ A ?_
  unfold Rep
  exact ⟨p, rfl, .inl ⟨rfl, upd_same⟩⟩
theorem PD.newX1 {c f : Str} {d : D} {v : V} {Q : VK} (q : PD X ga ms Γ μ H (.ins c [(f, d)]) Q) (S : SI X.K ga ms Γ μ H) (r : Rep X.K ga ms Γ d v) : ∀ a dx, H a = none → H dx = none → dx ≠ a → Q (.ref a) (upd (upd H dx (exd dx [(f, v)])) a (exo a (ga c) (some dx))) := fun a dx ha hd ne => by
  have A := After.lay (o := exd dx [(f, v)]) S hd
  have hb : upd H dx (exd dx [(f, v)]) a = none := by rw [upd_ne (Ne.symm ne)]; exact ha
  have B := After.lay (o := exo a (ga c) (some dx)) A.si hb
  refine q _ _ _ _ (A.trans B) ?_
  unfold Rep
  refine ⟨a, rfl, .inr ⟨dx, [(f, v)], upd_same, ?_, ?_⟩⟩
  · rw [upd_ne ne, upd_same]
  · unfold RepF
    exact ⟨v, [], rfl, r.mono (A.trans B).le (A.trans B).pre, by unfold RepF; rfl⟩
/-- the object of an exception -/
theorem inst_of {K : PySem.W.Frag} {pins : List (Addr × Obj)} {σ : L2.St} {s : Shared} {c : Str} {fs : List (Str × D)} {v : V} (I : Inv X pins σ H s) (S : SI X.K ga ms Γ μ H) (r : Rep X.K ga ms Γ (.ins c fs) v) :
    ∃ a oe od, v = .ref a ∧ PySem.W.InstAt s.heap a oe (ga c) od := by
  unfold Rep at r
  obtain ⟨a, rfl, h⟩ := r
  rcases h with ⟨_, h⟩ | ⟨dx, ys, h1, h2, _⟩
  · obtain ⟨⟨oe, vs, ho, hz, hd, _⟩, _, _⟩ := I.hok a _ (S.sub _ _ h)
    refine ⟨a, oe, none, rfl, ho, hz.1, ?_, ?_⟩
    · unfold PySem.W.notCls; rw [hd] <;> rfl
    · rw [hz.2]; trivial
  · obtain ⟨t1, ho⟩ := exo_at I.hok (S.sub _ _ h1)
    obtain ⟨mA, hns, _⟩ := exd_at I.hok (S.sub _ _ h2)
    obtain ⟨od, es, ep, hod, _⟩ := hns
    exact ⟨a, _, some od, rfl, ho, rfl, rfl, hod⟩
end
section
variable {ga : GA} {G : GT} {N : List Str} {T : Tb}
theorem se_mkx (c : Str) (f : Option Str) {e : Ex} (he : SE ga G N T e) : SE ga G N T (.mkx c f e) := by
  intro X sc x W C tk h
  cases x with
  | Call g xs kws pos =>
    cases g with
    | Name y py =>
      match xs, kws, h with
      | [z], [], h =>
        cases f with
        | none =>
          have h : (decide (y = c) && glC sc y && okName y && chk N T sc e z && notStar z && decide ((c, 1000) ∈ T)) = true := h
          simp only [Bool.and_eq_true] at h
          obtain ⟨⟨⟨⟨⟨h1, h2⟩, h3⟩, h4⟩, h5⟩, h6⟩ := h
          have e1 := of_decide_eq_true h1
          subst e1
          have A := C.xc _ (of_decide_eq_true h6)
          refine (pe_exc1 PySem.F.excBase_ValueError A.exc A.mg A.keep (C.gl _ h2) (he X sc z W C tk h4) (star_cons z [] X.env h5) (okName_debug h3).1).mono fun σ H Q ⟨ms, Γ, μ, ρ, S, R, q⟩ => ?_
          refine step S R q fun d μ1 v H1 ms1 Γ1 A r R1 q1 => ?_
          exact PD.newX0 q1 A.si
        | some f =>
          have h : (decide (y = c) && glC sc y && okName y && chk N T sc e z && notStar z && decide ((c, f) ∈ T.xm)) = true := h
          simp only [Bool.and_eq_true] at h
          obtain ⟨⟨⟨⟨⟨h1, h2⟩, h3⟩, h4⟩, h5⟩, h6⟩ := h
          have e1 := of_decide_eq_true h1
          subst e1
          obtain ⟨bk, k, fI, fd, ps, g1, g2, g3, g4, g5, g6, g7, g8, g9⟩ := (C.xm _ _ (of_decide_eq_true h6)).ex
          have hp : Passes (L2.CX X.prog X.w) X (fun _ _ _ => False) := fun pins σ H s e s' I c => tk e s' (XE.of_call I (fun _ _ _ z => z.elim) c)
          refine (LX.pe_xm g2 g5 g6 g7 g8 g9 hp (C.gl _ h2) g1 (he X sc z W C tk h4) (okName_debug h3).1 (star_cons z [] X.env h5)).mono fun σ H Q ⟨ms, Γ, μ, ρ, S, R, q⟩ => ?_
          refine step S R q fun d μ1 v H1 ms1 Γ1 A r R1 q1 => ?_
          exact PD.newX1 q1 A.si r
      | [], _, h => cases f <;> simp [chk] at h
      | [_], _ :: _, h => cases f <;> simp [chk] at h
      | _ :: _ :: _, _, h => cases f <;> simp [chk] at h
    | _ => cases f <;> exact absurd h (by simp [chk])
  | _ => cases f <;> exact absurd h (by simp [chk])
/-- isinstance of an exception -/
def rIx (X : Cx) (ga : GA) : List V → Hp → VK → Prop := fun xs H Q => ∃ ms Γ μ c fs v u t b, SI X.K ga ms Γ μ H ∧ Rep X.K ga ms Γ (.ins c fs) v ∧ xs = [v, u] ∧ (∀ w, L2.RelV u w → w = XT.val ga.f t) ∧ XiAt X.K X.mg ga c t b ∧ Q (.bl b) H
theorem call_ix {X : Cx} : CallR X (.builtin "isinstance") (rIx X ga) := by
  intro pins s σ H xs us Q I r h
  obtain ⟨ms, Γ, μ, c, fs, v, u, t, b, S, rv, rfl, hu, A, q⟩ := h
  cases r with
  | cons rx rr =>
    cases rr with
    | cons rt rr =>
      cases rr
      have eu := hu _ rt
      subst eu
      obtain ⟨a, oe, od, rfl, J⟩ := inst_of (K := X.K) I S rv
      cases rx
      exact PySem.W.kia_one (PySem.W.kitx_exc (od := od) (ox := oe) (x := a) A.cl A.hga A.hgt A.sub A.at_ A.sp A.tk A.mro) I.kIn J A.kit (fun z => nomatch z) fun tk => ⟨.bl b, H, I.kept (t' := tk) fun _ _ z => z, rfl, q⟩
theorem xbn (n : String) (h : n ∈ xbN) : bootBuiltins (Str.ofString n) = some (.type n) ∧ Str.ofString n ∈ bltNames := by
  have key : ∀ T ∈ xbN, bootBuiltins (Str.ofString T) = some (.type T) ∧ Str.ofString T ∈ bltNames := by decide +kernel
  exact key n h
theorem pe_xt {X : Cx} {sc : Scope} (C : GC X ga G N T sc) {t : XT} {z : Str} {pz : Pos} (h1 : xtC t z = true) (h2 : glC sc z = true) (h3 : okName z = true) (hm : ∀ n, t = .own n → X.mg n = some (.ref (ga n))) :
    ∃ u, (∀ w, L2.RelV u w → w = XT.val ga.f t) ∧ PE X (.Name z pz) (tC u) := by
  obtain ⟨o1, o2, o3⟩ := okName_debug h3
  cases t with
  | own c =>
    have e := of_decide_eq_true (show decide (z = c) = true from h1)
    subst e
    exact ⟨.ref (ga z), fun w hw => hw, ⟨fun pins s σ H Q I h => ld_glob I (C.gl _ h2) (hm _ rfl) ⟨.ref (ga z), H, I, rfl, h⟩ o1⟩⟩
  | blt n =>
    obtain ⟨e, hn⟩ := Bool.and_eq_true_iff.mp (show (decide (z = Str.ofString n) && decide (n ∈ xbN)) = true from h1)
    have e := of_decide_eq_true e
    subst e
    obtain ⟨b1, b2⟩ := xbn n (of_decide_eq_true hn)
    exact ⟨.ty n, fun w hw => hw, pe_bltn (C.gl _ h2) (C.blt _ b2) b1 rfl o3 o1⟩
theorem se_isx {e : Ex} (t : XT) (yes no : List Str) (he : SE ga G N T e) : SE ga G N T (.isx e t yes no) := by
  intro X sc x W C tk h
  cases x with
  | Call g xs kws pos =>
    cases g with
    | Name y py =>
      match xs, kws, h with
      | [z, zw], [], h =>
       cases zw with
       | Name zz pz =>
        have h : (decide (y = ("isinstance" : Str)) && glC sc y && chk N T sc e z && notStar z && xtC t zz && glC sc zz && okName zz && (yes.all fun c => decide ((c, t, true) ∈ T.xi)) && (no.all fun c => decide ((c, t, false) ∈ T.xi)) && !(yes ++ no).isEmpty) = true := h
        simp only [Bool.and_eq_true] at h
        obtain ⟨⟨⟨⟨⟨⟨⟨⟨⟨h1, h2⟩, h3⟩, h4⟩, h5⟩, h6⟩, h7⟩, h8⟩, h9⟩, h10⟩ := h
        have e1 := of_decide_eq_true h1
        subst e1
        obtain ⟨b1, b2, b3, b4⟩ := blt_boot .isinst
        have yes' : ∀ c ∈ yes, XiAt X.K X.mg ga c t true := fun c hc => C.xi _ _ _ (of_decide_eq_true (List.all_eq_true.mp h8 c hc))
        have no' : ∀ c ∈ no, XiAt X.K X.mg ga c t false := fun c hc => C.xi _ _ _ (of_decide_eq_true (List.all_eq_true.mp h9 c hc))
        have hne : ∀ n, t = .own n → X.mg n = some (.ref (ga n)) := by
          cases yes with
          | cons c r => exact (yes' c (List.mem_cons_self ..)).tv
          | nil =>
            cases no with
            | cons c r => exact (no' c (List.mem_cons_self ..)).tv
            | nil => simp at h10
        obtain ⟨u, hu, hpe⟩ := pe_xt C (pz := pz) h5 h6 h7 hne
        refine (pe_callV (.inl ⟨_, rfl⟩) (call_ix (ga := ga)) (C.gl _ h2) (C.blt _ b1) b4 (pa_cons (he X sc z W C tk h3) (pa_cons hpe pa_nil (star_cons _ [] X.env rfl)) (star_cons z _ X.env h4)) b2 b3 (star_cons z _ X.env h4) (plain_any rfl)).mono fun σ H Q ⟨ms, Γ, μ, ρ, S, R, q⟩ => ?_
        refine step S R q fun d μ1 v H1 ms1 Γ1 A r R1 q1 => ?_
        cases d with
        | ins c fs =>
          have q1 : PO X ga ms1 Γ1 H1 (if c ∈ yes then .ok (.bl true) μ1 else if c ∈ no then .ok (.bl false) μ1 else .bad) σ W Q := q1
          split at q1
          · rename_i hc
            exact ⟨ms1, Γ1, μ1, c, fs, v, u, t, true, A.si, r, rfl, hu, yes' c hc, PD.bl q1 A.si⟩
          · split at q1
            · rename_i hc
              exact ⟨ms1, Γ1, μ1, c, fs, v, u, t, false, A.si, r, rfl, hu, no' c hc, PD.bl q1 A.si⟩
            · exact False.elim q1
        | _ => exact False.elim q1
       | _ => exact absurd h (by simp [chk])
      | [], _, h => simp [chk] at h
      | [_], _, h => simp [chk] at h
      | _ :: _ :: _ :: _, _, h => simp [chk] at h
      | [_, zw], _ :: _, h => cases zw <;> exact absurd h (by simp [chk])
    | _ => exact absurd h (by simp [chk])
  | _ => exact absurd h (by simp [chk])
theorem repF_get {X : Cx} {ms : List Addr} {Γ : Hp} {f : Str} {d : D} : ∀ {fs : List (Str × D)} {ys : List (Str × V)}, RepF X.K ga ms Γ fs ys → fs.lookup f = some d → ∃ v, ys.lookup f = some v ∧ Rep X.K ga ms Γ d v
  | [], _, _, h => by simp at h
  | (g, x) :: fs, ys, r, h => by
    unfold RepF at r
    obtain ⟨y, r', rfl, r1, r2⟩ := r
    rw [List.lookup_cons] at h ⊢
    split at h
    · cases h
      exact ⟨y, rfl, r1⟩
    · rename_i e
      obtain ⟨v, h1, h2⟩ := repF_get r2 h
      exact ⟨v, h1, h2⟩
theorem se_fldx {e : Ex} (f : Str) (cs : List Str) (he : SE ga G N T e) : SE ga G N T (.fldx e f cs) := by
  intro X sc x W C tk h
  cases x with
  | Attribute y n pos =>
    have h : (decide (n = f) && chk N T sc e y && notSuper y && cs.all fun c => decide ((c, f) ∈ T.xm)) = true := h
    simp only [Bool.and_eq_true] at h
    obtain ⟨⟨⟨h1, h2⟩, h3⟩, h4⟩ := h
    have e1 := of_decide_eq_true h1
    subst e1
    have cf : ∀ c ∈ cs, XmAt X ga c n := fun c hc => C.xm _ _ (of_decide_eq_true (List.all_eq_true.mp h4 c hc))
    refine ⟨fun pins s σ H Q I ⟨ms, Γ, μ, ρ, S, R, q⟩ => ?_⟩
    have he' := he X sc y W C tk h2
    refine attr_of (base_ok h3) (thn (he'.run pins s σ H (fun v H1 => ∃ ms1 Γ1 μ1 d, SI X.K ga ms1 Γ1 μ1 H1 ∧ Rep X.K ga ms1 Γ1 d v ∧ PO X ga ms1 Γ1 H1 (match d with
      | .ins c fs => if c ∈ cs then opt (fs.lookup n) μ1 else .bad
      | _ => .bad) σ W Q) I (step S R q fun d μ1 v H1 ms1 Γ1 A r R1 q1 => ⟨ms1, Γ1, μ1, d, A.si, r, q1⟩)) fun u s1 hh => ?_)
    obtain ⟨v, H1, I1, rx, ms1, Γ1, μ1, d, S1, r, q1⟩ := hh
    cases d with
    | ins c fs =>
      have q1 : PO X ga ms1 Γ1 H1 (if c ∈ cs then opt (fs.lookup n) μ1 else .bad) σ W Q := q1
      split at q1
      · rename_i hc
        obtain ⟨d, e, q2⟩ := PO.opt q1
        obtain ⟨bk, k, fI, fd, ps, g1, g2, T3, hno, _⟩ := (cf c hc).ex
        unfold Rep at r
        obtain ⟨a, rfl, r⟩ := r
        rcases r with ⟨r1, _⟩ | ⟨dx, ys, r1, r2, r3⟩
        · subst r1; simp at e
        obtain rfl : u = Value.ref a := rx
        obtain ⟨w, w1, w2⟩ := repF_get r3 e
        obtain ⟨t1, ho⟩ := exo_at I1.hok (S1.sub _ _ r1)
        obtain ⟨mA, hns, hr⟩ := exd_at I1.hok (S1.sub _ _ r2)
        obtain ⟨od, hod, hl⟩ := lookIn_ns hns
        obtain ⟨u', hu, ru⟩ := RelO.some_of (v := w) (o := mA n) (by rw [← w1]; exact hr n)
        have J : PySem.W.InstAt s1.heap a _ (ga c) (some od) := ⟨ho, rfl, rfl, hod⟩
        exact HandSPX.exc_get I1.kIn J T3.ga T3.gg T3.exC (PySem.W.findObj_own T3.hdC hno rfl (by rw [hl, hu])) (handed_of ru) ⟨w, H1, I1.tok _, ru, q2.here S1 w2⟩
      · exact False.elim q1
    | _ => exact False.elim q1
  | _ => exact absurd h (by simp [chk])
end
end LD

set_option Elab.async false
set_option linter.all false
set_option maxRecDepth 100000
set_option maxHeartbeats 2000000
/-! LDo0: dicts of the store whose keys are tuples. -/
namespace LD
open PySem PySem.Spec PyProof.Rows L2 HT
section
variable {X : Cx} {ga : GA} {ms : List Addr} {Γ H : Hp} {μ : Store}
/-- a value that is a key, in the real heap -/
theorem tup_at {pins : List (Addr × Obj)} {σ : L2.St} {s : Shared} {a : Addr} {vs : List V} (I : Inv X pins σ H s) (le : Same Γ H) (h : TupOk X.K Γ a vs) : ∃ o its n, s.heap.get? a = some o ∧ o.cls = .type "tuple" ∧ o.data = .seq its n ∧ Vals vs its.toList := by
  rcases h with ⟨o, h, _⟩ | ⟨o, its, n, h1, h2, _, h3, h4, h5⟩
  · obtain ⟨e1, _, its, r, o', e2, c, n, d⟩ := I.hok a _ (le _ _ h)
    exact ⟨o', its.toArray, n, e2, c, d, by simpa using r⟩
  · exact ⟨o, its, n, I.kIn _ _ h1, h2, h3, h5⟩
mutual
theorem nk_is {pins : List (Addr × Obj)} {σ : L2.St} {s : Shared} (I : Inv X pins σ H s) (le : Same Γ H) : ∀ (d : D) (v : V) (u : Value) (q : NestedKey), Rep X.K ga ms Γ d v → RelV v u → nkD d = some q → NestedIs s.heap q u
  | .non, v, u, q, r, ru, e => by
    cases e
    unfold Rep at r
    subst r
    cases ru
    exact .none
  | .bl b, v, u, q, r, ru, e => by
    cases e
    unfold Rep at r
    subst r
    cases ru
    exact .bool rfl
  | .int i, v, u, q, r, ru, e => by
    cases e
    unfold Rep at r
    subst r
    obtain ⟨t, rfl⟩ := ru
    exact .int _ _
  | .str x, v, u, q, r, ru, e => by
    cases e
    unfold Rep at r
    obtain ⟨rfl, _⟩ := r
    obtain ⟨t, rfl⟩ := ru
    exact .text _ _
  | .tup xs, v, u, q, r, ru, e => by
    unfold Rep at r
    obtain ⟨a, vs, rfl, h1, h2, h3⟩ := r
    obtain rfl : u = Value.ref a := ru
    have e : (nkDs xs).map NestedKey.tup = some q := e
    obtain ⟨ks, e1, rfl⟩ := Option.map_eq_some_iff.mp e
    obtain ⟨o, its, n, g1, g2, g3, g4⟩ := tup_at I le h1
    exact .tup g1 g2 g3 (nks_are I le xs vs its.toList ks h3 g4 e1)
  | .lst _, _, _, _, _, _, e => by cases e
  | .dct _, _, _, _, _, _, e => by cases e
  | .ins _ _, _, _, _, _, _, e => by cases e
  | .loc _, _, _, _, _, _, e => by cases e
  | .ty _, _, _, _, _, _, e => by cases e
  | .glob _, _, _, _, _, _, e => by cases e
  | .scr _, _, _, _, _, _, e => by cases e
theorem nks_are {pins : List (Addr × Obj)} {σ : L2.St} {s : Shared} (I : Inv X pins σ H s) (le : Same Γ H) : ∀ (ds : List D) (vs : List V) (us : List Value) (qs : List NestedKey), Reps X.K ga ms Γ ds vs → Vals vs us → nkDs ds = some qs → NestedAll s.heap qs us
  | [], vs, us, qs, r, ru, e => by
    rw [r.nil_iff] at ru
    cases e
    cases ru
    exact .nil
  | d :: ds, vs, us, qs, r, ru, e => by
    obtain ⟨v, r', rfl, h1, h2⟩ := r.cons_iff
    cases ru with
    | cons g1 g2 =>
      have e : (match nkD d, nkDs ds with
        | some k, some ks => some (k :: ks)
        | _, _ => none) = some qs := e
      split at e
      · rename_i k ks e1 e2
        cases e
        exact .cons (nk_is I le d v _ k h1 g1 e1) (nks_are I le ds r' _ ks h2 g2 e2)
      · cases e
end
theorem nkT_some {d : D} {q : NestedKey} (h : nkT d = some q) : nkD d = some q ∧ q.depth ≤ 8 ∧ ∃ xs, d = .tup xs := by
  cases d with
  | tup xs =>
    have h : (match nkDs xs with
      | some ks => if (NestedKey.tup ks).depth ≤ 8 then some (NestedKey.tup ks) else none
      | none => none) = some q := h
    split at h
    · rename_i ks e
      split at h
      · rename_i hd
        cases h
        exact ⟨by show (nkDs xs).map NestedKey.tup = _; rw [e]; rfl, hd, xs, rfl⟩
      · cases h
    · cases h
  | _ => cases h
theorem nkT_ref {d : D} {q : NestedKey} {v : V} (h : nkT d = some q) (r : Rep X.K ga ms Γ d v) : ∃ b, v = .ref b := by
  obtain ⟨_, _, xs, rfl⟩ := nkT_some h
  unfold Rep at r
  obtain ⟨a, vs, rfl, _⟩ := r
  exact ⟨a, rfl⟩
/-- b is the key q -/
def NIs (X : Cx) (H : Hp) (b : Addr) (q : NestedKey) : Prop := ∀ (pins : List (Addr × Obj)) (σ : L2.St) (s : Shared), Inv X pins σ H s → NestedIs s.heap q (.ref b) ∧ q.depth ≤ 8
/-- a is the dict xs -/
def NOk (X : Cx) (H : Hp) (a : Addr) (xs : List (NestedKey × Addr × Value)) : Prop := (∃ ep, H a = some (.ext (DN X.w a xs ep))) ∧ xs.length ≤ sizeLine ∧ (a == sysModules) = false ∧ (xs.map (·.1)).Nodup ∧ ∀ x ∈ xs, NIs X H x.2.1 x.1
theorem nis_of {d : D} {q : NestedKey} {b : Addr} (le : Same Γ H) (r : Rep X.K ga ms Γ d (.ref b)) (h : nkT d = some q) : NIs X H b q := fun pins σ s I =>
  ⟨nk_is I le d _ _ q r rfl (nkT_some h).1, (nkT_some h).2.1⟩
theorem repN_mem (le : Same Γ H) : ∀ {kvs : List (D × D)} {xs : List (NestedKey × Addr × Value)}, RepN X.K ga ms Γ kvs xs → ∀ x ∈ xs, NIs X H x.2.1 x.1
  | [], xs, r, x, hx => by rw [show xs = [] from r] at hx; cases hx
  | (k, d) :: kvs, xs, r, x, hx => by
    obtain ⟨q, b, u, v, r', rfl, h1, h2, h3, h4, h5⟩ := r
    rcases List.mem_cons.mp hx with rfl | hx
    · exact nis_of le h2 h1
    · exact repN_mem le h5 x hx
theorem repN_len {K : PySem.W.Frag} : ∀ {kvs : List (D × D)} {xs : List (NestedKey × Addr × Value)}, RepN K ga ms Γ kvs xs → kvs.length = xs.length
  | [], xs, r => by rw [show xs = [] from r]; rfl
  | (k, d) :: kvs, xs, r => by
    obtain ⟨q, b, u, v, r', rfl, h1, h2, h3, h4, h5⟩ := r
    rw [List.length_cons, List.length_cons, repN_len h5]
theorem nok_of (hw : ga.w = X.w) (S : SI X.K ga ms Γ μ H) {l : Nat} {a : Addr} {kvs : List (D × D)} (el : μ[l]? = some (.dcn kvs)) (hp : ms[l]? = some a) : ∃ xs, NOk X H a xs ∧ RepN X.K ga ms Γ kvs xs := by
  obtain ⟨xs, ep, z1, z2, z3, z4, z5⟩ := S.st l _ a el hp
  rw [hw] at z1
  exact ⟨xs, ⟨⟨ep, z1⟩, by rw [← repN_len z4]; exact z2, z3, z5, repN_mem S.sub z4⟩, z4⟩
theorem NOk.dict {pins : List (Addr × Obj)} {σ : L2.St} {s : Shared} {a : Addr} {xs : List (NestedKey × Addr × Value)} (h : NOk X H a xs) (I : Inv X pins σ H s) : s.heap.DictOfH (nestedKind X.prog X.w) a xs := by
  obtain ⟨⟨ep, h1⟩, h2, h3, h4, h5⟩ := h
  obtain ⟨⟨o, es, g1, g2, g3, g4⟩, _, _⟩ := I.hok a _ h1
  exact ⟨o, es, ep, g1, g2, g3, g4, fun x hx => h5 x hx _ _ _ I, h4⟩
theorem NOk.type {pins : List (Addr × Obj)} {σ : L2.St} {s : Shared} {a : Addr} {xs : List (NestedKey × Addr × Value)} (h : NOk X H a xs) (I : Inv X pins σ H s) : s.TypeIs (.ref a) "dict" := (h.dict I).typeIs
/-! ### the rules -/
theorem nroom {A : Around} (hu : A.units + 64 < cLine) : (nestedKind X.prog X.w).room A.in1 := by
  show A.in1.units + 8 < cLine
  rw [Around.in1_units]
  omega
def NGet (X : Cx) (H : Hp) (a b : Addr) (o : Option V) : Prop := ∃ xs q, NOk X H a xs ∧ NIs X H b q ∧ RelO o ((atKey xs q).map (·.2))
/-- what a dict of either kind holds at a key -/
def EGet (X : Cx) (H : Hp) (a : Addr) (y : V) (o : Option V) : Prop := DGet H a y o ∨ ∃ b, y = .ref b ∧ NGet X H a b o
theorem e_type {pins : List (Addr × Obj)} {σ : L2.St} {s : Shared} {a : Addr} {y : V} {o : Option V} (I : Inv X pins σ H s) (g : EGet X H a y o) : s.TypeIs (.ref a) "dict" := by
  rcases g with g | ⟨b, rfl, xs, q, g, _⟩
  · exact dict_typeIs I g
  · exact g.type I
theorem e_get {pins : List (Addr × Obj)} {σ : L2.St} {s : Shared} {a : Addr} {y v : V} {u : Value} {A : Around} {E : Value → Shared → Prop} {Q : Value → Shared → Prop} (hu : A.units + 64 < cLine) (I : Inv X pins σ H s) (g : EGet X H a y (some v)) (ry : RelV y u)
    (h : ∀ w' s', Inv X pins σ H s' → RelV v w' → Q w' s') : wpAny (model X.prog X.w) A (getItem (.ref a) u) Q E s := by
  rcases g with g | ⟨b, rfl, xs, q, g1, g2, g3⟩
  · exact d_getItem (by omega) I g ry h
  · obtain rfl : u = Value.ref b := ry
    obtain ⟨w', hw, rw'⟩ := RelO.some_of g3
    obtain ⟨p, hp, hp2⟩ := Option.map_eq_some_iff.mp hw
    refine wpAny_getItem_heap (nroom hu) (g2 _ _ _ I) (g1.dict I) hp ?_
    rw [hp2]
    exact h w' _ (I.tok _) rw'
theorem e_in {neg : Bool} {pins : List (Addr × Obj)} {σ : L2.St} {s : Shared} {a : Addr} {y : V} {o : Option V} {u : Value} {A : Around} {E : Value → Shared → Prop} {Q : Value → Shared → Prop} (hu : A.units + 64 < cLine) (I : Inv X pins σ H s) (g : EGet X H a y o) (ry : RelV y u)
    (h : ∀ s', Inv X pins σ H s' → Q (.bool (if neg then !o.isSome else o.isSome)) s') : wpAny (model X.prog X.w) A (compareOp (if neg then CmpOp.NotIn else CmpOp.In) u (.ref a)) Q E s := by
  rcases g with g | ⟨b, rfl, xs, q, g1, g2, g3⟩
  · cases neg with
    | true => exact d_notIn (by omega) I g ry h
    | false => exact d_in (by omega) I g ry h
  · obtain rfl : u = Value.ref b := ry
    have e := g3.isSome_eq
    rw [Option.isSome_map] at e
    rw [e] at h
    cases neg with
    | true => exact wpAny_notIn_heap (nroom hu) (g2 _ _ _ I) g1.2.2.1 (g1.dict I) (h _ (I.tok _))
    | false => exact wpAny_in_heap (nroom hu) (g2 _ _ _ I) g1.2.2.1 (g1.dict I) (h _ (I.tok _))
theorem pe_dgetE {o i : Expr} {pos : Pos} {td ty : TE} (hu : X.A.units + 64 < cLine) (ho : PE X o td) (hi : PE X i ty) (hs : NoSl i) : PE X (.Subscript o i pos) (fun σ H Q => td σ H fun x H1 => ty σ H1 fun y H2 => ∃ a v, x = .ref a ∧ EGet X H2 a y (some v) ∧ Q v H2) := by
  refine ⟨fun pins s σ H Q I h => ?_⟩
  refine subD_of PySem.F.slot_dict_getitem.lookup hs (thn (ho.run pins s σ H _ I h) fun u s1 ⟨x, H1, I1, rx, q1⟩ => thn (hi.run pins s1 σ H1 _ I1 q1) fun iv s2 ⟨y, H2, I2, ry, a, v, ex, g, q2⟩ => ?_)
  subst ex
  obtain rfl : u = Value.ref a := rx
  exact ⟨e_type I2 g, e_get hu I2 g ry fun w' s3 I3 rw' => ⟨v, H2, I3, rw', q2⟩⟩
/-- a[y] = v -/
def EPut (X : Cx) (H : Hp) (a : Addr) (y v : V) (Q : Hp → Prop) : Prop := (∃ H', DPut H a y v H' ∧ Q H') ∨ ∃ b xs q, y = .ref b ∧ NOk X H a xs ∧ NIs X H b q ∧ xs.length < sizeLine ∧ ∀ u ep, RelV v u → Q (upd H a (.ext (DN X.w a (storedH xs q b u) ep)))
def rSetD (X : Cx) : V → V → V → Hp → (Hp → Prop) → Prop := fun o i v H Q => ∃ a, o = .ref a ∧ EPut X H a i v Q
theorem storedH_len {xs : List (NestedKey × Addr × Value)} {q : NestedKey} {b : Addr} {u : Value} : (storedH xs q b u).length ≤ xs.length + 1 := by
  unfold storedH
  split
  · rw [List.length_map]; omega
  · rw [List.length_append]; simp
theorem set_dictE (hu : X.A.units + 64 < cLine) : PSet X (rSetD X) := by
  intro pins s σ H o i v ov iv u Q I ro ri rv h
  obtain ⟨a, rfl, h⟩ := h
  obtain rfl : ov = Value.ref a := ro
  rcases h with ⟨H', g, q⟩ | ⟨b, xs, k, rfl, g1, g2, g3, q⟩
  · exact d_setItem (by omega) I g ri rv fun s4 I4 => ⟨H', I4, q⟩
  · obtain rfl : iv = Value.ref b := ri
    refine wpAny_setItem_heap (hsz := g1.2.1) (nroom hu) (g2 _ _ _ I) (g1.dict I) fun h' dd hs => ?_
    obtain ⟨o, es, ep, hq, h2, h3, h4, _, h5⟩ := dd
    refine ⟨_, ?_, q u ep rv⟩
    obtain ⟨⟨ep0, g0⟩, _⟩ := g1
    refine d_write I (by rw [g0]; exact True.intro) hs ⟨o, hq⟩ ?_
    refine ⟨⟨o, es, hq, h2, h3, h4⟩, ⟨o, hq⟩, fun h1 h2' ⟨o1, es1, k1, k2, k3, k4⟩ hk => ⟨o1, es1, hk _ k1, k2, k3, k4⟩⟩
/-- {}, its keys will be tuples -/
theorem pe_dnewN {pos : Pos} : PE X (.Dict [] [] pos) (fun σ H Q => ∀ p ep, H p = none → (p == sysModules) = false → Q (.ref p) (upd H p (.ext (DN X.w p [] ep)))) := by
  refine ⟨fun pins s σ H Q I h => ?_⟩
  have hb := I.big
  have hs : (s.heap.objs.size == sysModules) = false := beq_eq_false_iff_ne.mpr (Ne.symm (Nat.ne_of_lt hb))
  refine wpAny_Dict_empty ?_
  refine ⟨.ref s.heap.objs.size, _, I.laid (t' := s.toks) (o := .ext (DN X.w s.heap.objs.size [] 0)) (fun b u q => Heap.get?_push_of_some _ q) (Nat.le_refl _) ?_, rfl, h _ 0 (I.hok.fresh (Nat.le_refl _)) hs⟩
  have e := Heap.get?_push_size s.heap (o := { cls := .type "dict", data := .dict #[] }) rfl
  exact ⟨⟨_, #[], e, ⟨rfl, rfl, rfl⟩, rfl, rfl⟩, ⟨_, e⟩, fun h1 h2' ⟨o1, es1, k1, k2, k3, k4⟩ hk => ⟨o1, es1, hk _ k1, k2, k3, k4⟩⟩
end
end LD

set_option Elab.async false
set_option linter.all false
set_option maxRecDepth 100000
set_option maxHeartbeats 2000000
/-! LD7d: dicts of the store: an item, a store. -/
namespace LD
open PySem PySem.Spec PyProof.Rows L2 HT
section
variable {K : PySem.W.Frag} {ga : GA} {ms : List Addr} {Γ : Hp}
theorem keyD_rep {d : D} {v : V} {q : Key} (r : Rep K ga ms Γ d v) (e : keyD d = some q) : v = kV q := by
  cases d with
  | int i => cases e; unfold Rep at r; exact r
  | str z => cases e; unfold Rep at r; exact r.1
  | _ => cases e
theorem look_rep {q : Key} {d : D} : ∀ {kvs : List (D × D)} {ks : List (Key × V)}, RepKV K ga ms Γ kvs ks → (kvs.find? fun p => decide (keyD p.1 = some q)).map (·.2) = some d → ∃ v, valV ks q = some v ∧ Rep K ga ms Γ d v
  | [], _, _, h => by simp at h
  | (k, x) :: kvs, ks, r, h => by
    unfold RepKV at r
    obtain ⟨q', v, r', rfl, r1, r2, r3⟩ := r
    by_cases e : q' = q
    · subst e
      rw [List.find?_cons_of_pos (by simp [r1])] at h
      cases h
      exact ⟨v, valV_pos rfl, r2⟩
    · rw [List.find?_cons_of_neg (by simp [r1, e])] at h
      obtain ⟨w, h1, h2⟩ := look_rep r3 h
      exact ⟨w, by rw [valV_neg e]; exact h1, h2⟩
theorem has_rep {q : Key} : ∀ {kvs : List (D × D)} {ks : List (Key × V)}, RepKV K ga ms Γ kvs ks → hasD kvs q = (ks.any fun p => decide (p.1 = q)) ∧ kvs.length = ks.length
  | [], _, r => by unfold RepKV at r; subst r; exact ⟨rfl, rfl⟩
  | (k, x) :: kvs, ks, r => by
    unfold RepKV at r
    obtain ⟨q', v, r', rfl, r1, r2, r3⟩ := r
    obtain ⟨h1, h2⟩ := has_rep (q := q) r3
    refine ⟨?_, by simp [h2]⟩
    unfold hasD at h1 ⊢
    rw [List.any_cons, List.any_cons, h1]
    simp [r1]
theorem map_rep {q : Key} {d : D} {v : V} (rv : Rep K ga ms Γ d v) : ∀ {kvs : List (D × D)} {ks : List (Key × V)}, RepKV K ga ms Γ kvs ks → RepKV K ga ms Γ (kvs.map fun p => if keyD p.1 = some q then (p.1, d) else p) (ks.map fun p => if p.1 = q then (p.1, v) else p)
  | [], _, r => by unfold RepKV at r; subst r; show RepKV K ga ms Γ [] []; unfold RepKV; rfl
  | (k, x) :: kvs, ks, r => by
    unfold RepKV at r
    obtain ⟨q', w, r', rfl, r1, r2, r3⟩ := r
    have ih := map_rep (q := q) rv r3
    by_cases e : q' = q
    · subst e
      rw [List.map_cons, List.map_cons, if_pos r1, if_pos rfl]
      unfold RepKV
      exact ⟨q', v, _, rfl, r1, rv, ih⟩
    · rw [List.map_cons, List.map_cons, if_neg (by rw [r1]; simpa using e), if_neg e]
      unfold RepKV
      exact ⟨q', w, _, rfl, r1, r2, ih⟩
theorem snoc_rep {y d : D} {q : Key} {v : V} (hy : keyD y = some q) (rv : Rep K ga ms Γ d v) : ∀ {kvs : List (D × D)} {ks : List (Key × V)}, RepKV K ga ms Γ kvs ks → RepKV K ga ms Γ (kvs ++ [(y, d)]) (ks ++ [(q, v)])
  | [], _, r => by
    unfold RepKV at r
    subst r
    show RepKV K ga ms Γ [(y, d)] [(q, v)]
    unfold RepKV
    exact ⟨q, v, [], rfl, hy, rv, by unfold RepKV; rfl⟩
  | (k, x) :: kvs, ks, r => by
    unfold RepKV at r
    obtain ⟨q', w, r', rfl, r1, r2, r3⟩ := r
    show RepKV K ga ms Γ ((k, x) :: (kvs ++ [(y, d)])) ((q', w) :: (r' ++ [(q, v)]))
    unfold RepKV
    exact ⟨q', w, _, rfl, r1, r2, snoc_rep hy rv r3⟩
theorem put_rep {y d : D} {q : Key} {v : V} {kvs kvs' : List (D × D)} {ks : List (Key × V)} (r : RepKV K ga ms Γ kvs ks) (rv : Rep K ga ms Γ d v) (hy : keyD y = some q) (e : putD kvs y d = some kvs') : RepKV K ga ms Γ kvs' (putK ks q v) ∧ ks.length < sizeLine := by
  unfold putD at e
  rw [hy] at e
  dsimp only at e
  obtain ⟨h1, h2⟩ := has_rep (q := q) r
  unfold putK
  split at e
  · rename_i hl
    refine ⟨?_, by rw [← h2, ← line_eq]; exact hl⟩
    split at e
    · rename_i hh
      cases e
      rw [h1] at hh
      rw [if_pos hh]
      exact map_rep rv r
    · rename_i hh
      cases e
      rw [h1] at hh
      rw [if_neg hh]
      exact snoc_rep hy rv r
  · cases e
end
section
variable {ga : GA} {G : GT} {N : List Str} {T : Tb}
theorem lookN_rep {K : PySem.W.Frag} {ms : List Addr} {Γ : Hp} {q : NestedKey} {d : LD.D} : ∀ {kvs : List (LD.D × LD.D)} {xs : List (NestedKey × Addr × Value)}, RepN K ga ms Γ kvs xs → (kvs.find? fun p => decide (nkT p.1 = some q)).map (·.2) = some d → ∃ v, RelO (some v) ((atKey xs q).map (·.2)) ∧ Rep K ga ms Γ d v
  | [], _, _, h => by simp at h
  | (k, x) :: kvs, xs, r, h => by
    obtain ⟨q', b, u, v, r', rfl, h1, h2, h3, h4, h5⟩ := r
    by_cases e : q' = q
    · subst e
      rw [List.find?_cons_of_pos (by simp [h1])] at h
      cases h
      refine ⟨v, ?_, h4⟩
      have e : atKey ((q', b, u) :: r') q' = some (b, u) := by simp [atKey]
      rw [e]
      exact h3
    · rw [List.find?_cons_of_neg (by simp [h1, e])] at h
      obtain ⟨w, g1, g2⟩ := lookN_rep h5 h
      refine ⟨w, ?_, g2⟩
      have e2 : atKey ((q', b, u) :: r') q = atKey r' q := by simp [atKey, e]
      rw [e2]
      exact g1
theorem hasN_rep {K : PySem.W.Frag} {ms : List Addr} {Γ : Hp} {q : NestedKey} : ∀ {kvs : List (LD.D × LD.D)} {xs : List (NestedKey × Addr × Value)}, RepN K ga ms Γ kvs xs → hasN kvs q = (atKey xs q).isSome
  | [], xs, r => by rw [show xs = [] from r]; rfl
  | (k, x) :: kvs, xs, r => by
    obtain ⟨q', b, u, v, r', rfl, h1, h2, h3, h4, h5⟩ := r
    have ih := hasN_rep (q := q) h5
    unfold hasN at ih ⊢
    rw [List.any_cons, ih]
    by_cases e : q' = q
    · subst e
      simp [atKey, h1]
    · simp [atKey, h1, e]
theorem relO_any {u : Option Value} : ∃ o : Option V, o.isSome = u.isSome ∧ (u = none → o = none) := ⟨u.map fun _ => .non, by simp, fun h => by rw [h]; rfl⟩
/-- what stands in an item -/
def dgetS (x y : LD.D) (μ : Store) : Option LD.D := match x with
  | .loc l => (match μ[l]? with
    | some (.dct kvs) => lookD kvs y
    | some (.dcn kvs) => lookN kvs y
    | _ => none)
  | _ => none
theorem dget_at {X : Cx} (hw : ga.w = X.w) {y x d : LD.D} {vy vx : V} {ms : List Addr} {Γ H : Hp} {μ : Store} (S : SI X.K ga ms Γ μ H) (ry : Rep X.K ga ms Γ y vy) (rx : Rep X.K ga ms Γ x vx) (e : dgetS x y μ = some d) :
    ∃ a w, vx = .ref a ∧ EGet X H a vy (some w) ∧ Rep X.K ga ms Γ d w := by
  unfold dgetS at e
  split at e
  · rename_i l
    unfold Rep at rx
    obtain ⟨a, rfl, rx⟩ := rx
    split at e
    · rename_i kvs el
      obtain ⟨ks, z1, z2⟩ := S.st l _ a el rx
      unfold lookD at e
      split at e
      · rename_i qq hq
        obtain ⟨w, w1, w2⟩ := look_rep z2 e
        have ek := keyD_rep ry hq
        subst ek
        exact ⟨a, w, rfl, .inl (by have z := DGet.k (k := qq) z1; rw [w1] at z; exact z), w2⟩
      · cases e
    · rename_i kvs el
      obtain ⟨xs, g1, g2⟩ := nok_of hw S el rx
      unfold lookN at e
      split at e
      · rename_i q hq
        obtain ⟨w, w1, w2⟩ := lookN_rep g2 e
        obtain ⟨b, rfl⟩ := nkT_ref hq ry
        exact ⟨a, w, rfl, .inr ⟨b, rfl, xs, q, g1, nis_of S.sub ry hq, w1⟩, w2⟩
      · cases e
    · cases e
  · cases e
theorem se_dget {o k : Ex} (ho : SE ga G N T o) (hk : SE ga G N T k) : SE ga G N T (.dget o k) := by
  intro X sc x W C tk h
  cases x with
  | Subscript p q pos =>
    obtain ⟨h1, h2, h3⟩ := and3 (show (chk N T sc o p && chk N T sc k q && plainIx q) = true from h)
    refine (pe_dgetE C.hu (ho X sc p W C tk h1) (hk X sc q W C tk h2) (fun ov iv => ?_)).mono fun σ H Q ⟨ms, Γ, μ, ρ, S, R, q⟩ => ?_
    · cases q <;> first | rfl | exact absurd h3 Bool.false_ne_true
    refine step S R q fun d μ1 v H1 ms1 Γ1 A r R1 q1 => step A.si R1 q1 fun d2 μ2 v2 H2 ms2 Γ2 A2 r2 R2 q2 => ?_
    have fin : ∀ d3, dgetS d d2 μ2 = some d3 → PD X ga ms2 Γ2 μ2 H2 d3 Q → ∃ a w, v = V.ref a ∧ EGet X H2 a v2 (some w) ∧ Q w H2 := fun d3 e q3 => by
      obtain ⟨a, w, rfl, g, rw'⟩ := dget_at C.hw A2.si r2 (r.mono A2.le A2.pre) e
      exact ⟨a, w, rfl, g, q3.here A2.si rw'⟩
    cases d with
    | loc l =>
      have q2 : PO X ga ms2 Γ2 H2 (match μ2[l]? with
        | some (.dct kvs) => opt (lookD kvs d2) μ2
        | some (.dcn kvs) => opt (lookN kvs d2) μ2
        | _ => .bad) σ W Q := q2
      have e0 : dgetS (.loc l) d2 μ2 = (match μ2[l]? with
        | some (.dct kvs) => lookD kvs d2
        | some (.dcn kvs) => lookN kvs d2
        | _ => none) := rfl
      split at q2
      · rename_i kvs el
        obtain ⟨d3, e3, q3⟩ := PO.opt q2
        exact fin d3 (by rw [e0, el]; exact e3) q3
      · rename_i kvs el
        obtain ⟨d3, e3, q3⟩ := PO.opt q2
        exact fin d3 (by rw [e0, el]; exact e3) q3
      · exact False.elim q2
    | _ => exact False.elim q2
  | _ => exact absurd h (by simp [chk])
def rDin (neg : Bool) (X : Cx) : R2 := fun y x H Q => ∃ a o, x = .ref a ∧ EGet X H a y o ∧ Q (.bl (if neg then !o.isSome else o.isSome)) H
theorem op_din {X : Cx} (neg : Bool) (hu : X.A.units + 64 < cLine) : OpR X (compareOp (if neg then CmpOp.NotIn else CmpOp.In)) (rDin neg X) := by
  intro pins s σ H y x v u Q I ry rx h
  obtain ⟨a, o, rfl, g, q⟩ := h
  obtain rfl : u = Value.ref a := rx
  exact e_in hu I g ry fun s3 I3 => ⟨.bl (if neg then !o.isSome else o.isSome), H, I3, rfl, q⟩
theorem markD {neg : Bool} {b : Expr} (h : notSet b = true) : behindInMarks (if neg then CmpOp.NotIn else CmpOp.In) b = false := by
  cases neg <;> cases b <;> first | rfl | exact absurd h Bool.false_ne_true
def dinS (neg : Bool) (y x : LD.D) (μ : Store) : Out LD.D := match x with
  | .loc l => (match μ[l]? with
    | some (.dct kvs) => (match keyD y with
      | some q => .ok (.bl (if neg then !hasD kvs q else hasD kvs q)) μ
      | none => .bad)
    | some (.dcn kvs) => (match nkT y with
      | some q => .ok (.bl (if neg then !hasN kvs q else hasN kvs q)) μ
      | none => .bad)
    | _ => .bad)
  | _ => .bad
theorem relO_of (u : Option Value) (h : ∀ w, u = some w → ∃ v, RelV v w) : ∃ o : Option V, RelO o u ∧ o.isSome = u.isSome := by
  cases u with
  | none => exact ⟨none, trivial, rfl⟩
  | some w =>
    obtain ⟨v, hv⟩ := h w rfl
    exact ⟨some v, hv, rfl⟩
theorem atKey_rel {K : PySem.W.Frag} {ms : List Addr} {Γ : Hp} {q : NestedKey} : ∀ {kvs : List (LD.D × LD.D)} {xs : List (NestedKey × Addr × Value)}, RepN K ga ms Γ kvs xs → ∀ w, (atKey xs q).map (·.2) = some w → ∃ v, RelV v w
  | [], xs, r, w, h => by rw [show xs = [] from r] at h; simp [atKey] at h
  | (k, x) :: kvs, xs, r, w, h => by
    obtain ⟨q', b, u, v, r', rfl, h1, h2, h3, h4, h5⟩ := r
    by_cases e : q' = q
    · subst e
      have e : atKey ((q', b, u) :: r') q' = some (b, u) := by simp [atKey]
      rw [e] at h
      cases h
      exact ⟨v, h3⟩
    · have e2 : atKey ((q', b, u) :: r') q = atKey r' q := by simp [atKey, e]
      rw [e2] at h
      exact atKey_rel h5 w h
theorem din_at {X : Cx} (hw : ga.w = X.w) {neg : Bool} {y x : LD.D} {vy vx : V} {ms : List Addr} {Γ H : Hp} {μ : Store} {b : LD.D} {μ' : Store} (S : SI X.K ga ms Γ μ H) (ry : Rep X.K ga ms Γ y vy) (rx : Rep X.K ga ms Γ x vx) (e : dinS neg y x μ = .ok b μ') :
    ∃ a o, vx = .ref a ∧ EGet X H a vy o ∧ b = .bl (if neg then !o.isSome else o.isSome) ∧ μ' = μ := by
  unfold dinS at e
  cases x with
  | loc l =>
    dsimp only at e
    unfold Rep at rx
    obtain ⟨a, rfl, rx⟩ := rx
    split at e
    · rename_i kvs el
      split at e
      · rename_i q hq
        cases e
        obtain ⟨ks, z1, z2⟩ := S.st l _ a el rx
        have ek := keyD_rep ry hq
        subst ek
        refine ⟨a, _, rfl, .inl (DGet.k z1), ?_, rfl⟩
        rw [(has_rep (q := q) z2).1, valV_any]
      · cases e
    · rename_i kvs el
      split at e
      · rename_i q hq
        cases e
        obtain ⟨xs, g1, g2⟩ := nok_of hw S el rx
        obtain ⟨b, rfl⟩ := nkT_ref hq ry
        obtain ⟨o, o1, o2⟩ := relO_of ((atKey xs q).map (·.2)) (atKey_rel g2)
        refine ⟨a, o, rfl, .inr ⟨b, rfl, xs, q, g1, nis_of S.sub ry hq, o1⟩, ?_, rfl⟩
        rw [o2, Option.isSome_map, hasN_rep g2]
      · cases e
    · cases e
  | _ => cases e
theorem dinS_exc {neg : Bool} {y x : LD.D} {μ μ' : Store} {c : LD.D} {fs : List (Str × LD.D)} (e : dinS neg y x μ = .exc c fs μ') : False := by
  unfold dinS at e
  split at e
  · split at e
    · split at e <;> cases e
    · split at e <;> cases e
    · cases e
  · cases e
theorem se_din (neg : Bool) {k o : Ex} (hk : SE ga G N T k) (ho : SE ga G N T o) : SE ga G N T (.din neg k o) ∧ ST ga G N T (.din neg k o) := by
  have key : ∀ (X : Cx) (sc : Scope) (x : Expr) (W : WX), GC X ga G N T sc → Takes X W → chk N T sc (.din neg k o) x = true → ∃ p q pos, x = .Compare p [if neg then CmpOp.NotIn else CmpOp.In] [q] pos ∧ PE X p (tE X ga G W k) ∧ PE X q (tE X ga G W o) ∧ notSet q = true := by
    intro X sc x W C tk h
    cases x with
    | Compare p os qs pos =>
      match os, qs, h with
      | [op], [q], h =>
        have h : (decide (op = if neg then CmpOp.NotIn else CmpOp.In) && chk N T sc k p && chk N T sc o q && notSet q) = true := h
        rw [Bool.and_eq_true, Bool.and_eq_true, Bool.and_eq_true] at h
        obtain ⟨⟨⟨h1, h2⟩, h3⟩, h4⟩ := h
        have e := of_decide_eq_true h1
        subst e
        exact ⟨p, q, pos, rfl, hk X sc p W C tk h2, ho X sc q W C tk h3, h4⟩
      | [], _, h => simp [chk] at h
      | [_], [], h => simp [chk] at h
      | [_], _ :: _ :: _, h => simp [chk] at h
      | _ :: _ :: _, _, h => simp [chk] at h
    | _ => exact absurd h (by simp [chk])
  have evd : ∀ ρ μ, ev G (.din neg k o) ρ μ = (ev G k ρ μ).bind fun y μ => (ev G o ρ μ).bind fun x μ => dinS neg y x μ := fun ρ μ => rfl
  refine ⟨fun X sc x W C tk h => ?_, fun X sc x W C tk h => ?_⟩
  · obtain ⟨p, q, pos, rfl, hp, hq, hn⟩ := key X sc x W C tk h
    refine (pe_cmpR (op_din neg C.hu) hp hq (markD hn)).mono fun σ H Q ⟨ms, Γ, μ, ρ, S, R, q⟩ => ?_
    rw [evd] at q
    refine step S R q fun d μ1 v H1 ms1 Γ1 A r R1 q1 => step A.si R1 q1 fun d2 μ2 v2 H2 ms2 Γ2 A2 r2 R2 q2 => ?_
    cases e : dinS neg d d2 μ2 with
    | bad => rw [e] at q2; exact q2.elim
    | exc c fs μ' => exact (dinS_exc e).elim
    | ok b μ' =>
      rw [e] at q2
      obtain ⟨a, oo, rfl, g, rfl, rfl⟩ := din_at C.hw A2.si (r.mono A2.le A2.pre) r2 e
      exact ⟨a, oo, rfl, g, PD.bl q2 A2.si⟩
  · obtain ⟨p, q, pos, rfl, hp, hq, hn⟩ := key X sc x W C tk h
    refine (pt_cmpR (op_din neg C.hu) hp hq (markD hn)).mono fun σ H Q ⟨ms, Γ, μ, ρ, S, R, q⟩ => ?_
    have q : POT X ga ms Γ H (((ev G k ρ μ).bind fun y μ => (ev G o ρ μ).bind fun x μ => dinS neg y x μ).bind fun d μ => match truthy d with
      | some b => .ok b μ
      | none => .bad) σ W Q := q
    have as1 : ∀ {α β γ : Type} (o : Out α) (f : α → Store → Out β) (g : β → Store → Out γ), (o.bind f).bind g = o.bind fun a μ => (f a μ).bind g := fun o f g => by cases o <;> rfl
    rw [as1] at q
    refine stepT S R q fun d μ1 v H1 ms1 Γ1 A r R1 q1 => ?_
    rw [as1] at q1
    refine stepT A.si R1 q1 fun d2 μ2 v2 H2 ms2 Γ2 A2 r2 R2 q2 => ?_
    cases e : dinS neg d d2 μ2 with
    | bad => rw [e] at q2; exact q2.elim
    | exc c fs μ' => exact (dinS_exc e).elim
    | ok b μ' =>
      rw [e] at q2
      obtain ⟨a, oo, rfl, g, rfl, rfl⟩ := din_at C.hw A2.si (r.mono A2.le A2.pre) r2 e
      exact ⟨a, oo, rfl, g, _, rfl, q2 _ _ _ (After.refl A2.si)⟩
theorem keys_rep {K : PySem.W.Frag} {ms : List Addr} {Γ : Hp} : ∀ {kvs : List (LD.D × LD.D)} {ks : List (Key × V)} {ys : List Str}, RepKV K ga ms Γ kvs ks → strsD (kvs.map (·.1)) = some ys → ks.map (·.1) = ys.map Sum.inr
  | [], _, _, r, e => by unfold RepKV at r; subst r; cases e; rfl
  | (k, x) :: kvs, ks, ys, r, e => by
    unfold RepKV at r
    obtain ⟨q', v, r', rfl, r1, r2, r3⟩ := r
    cases k with
    | str z =>
      have e : (strsD (kvs.map (·.1))).map (z :: ·) = some ys := e
      cases h : strsD (kvs.map (·.1)) with
      | none => rw [h] at e; cases e
      | some zs =>
        rw [h] at e
        cases e
        cases r1
        rw [List.map_cons, List.map_cons, keys_rep r3 h]
    | _ => cases e
theorem se_dsort {a : Ex} (ha : SE ga G N T a) : SE ga G N T (.dsort a) := by
  intro X sc x W C tk h
  cases x with
  | Call g xs kws pos =>
    cases g with
    | Name y py =>
      match xs, kws, h with
      | [z], [], h =>
        obtain ⟨h1, h2, h3, h4⟩ := and4 (show (decide (y = ("sorted" : Str)) && glC sc y && chk N T sc a z && notStar z) = true from h)
        have e := of_decide_eq_true h1
        subst e
        obtain ⟨b1, b2, b3, b4⟩ := blt_boot .sorted1
        refine (pe_callV (.inl ⟨_, rfl⟩) (call_sortedD C.calm) (C.gl _ h2) (C.blt _ b1) b4 (pa_cons (ha X sc z W C tk h3) pa_nil (star_cons z [] X.env h4)) b2 b3 (star_cons z [] X.env h4) (plain_any rfl)).mono fun σ H Q ⟨ms, Γ, μ, ρ, S, R, q⟩ => ?_
        refine step S R q fun d μ1 v H1 ms1 Γ1 A r R1 q1 => ?_
        cases d with
        | loc l =>
          have q1 : PO X ga ms1 Γ1 H1 (match μ1[l]? with
            | some (.dct kvs) => (match strsD (kvs.map (·.1)) with
              | some ys => if ys.length < 64 && ys.all (fun z => decide (z.length ≤ LINE)) then .ok (.lst ((sortS ys).map LD.D.str)) μ1 else .bad
              | none => .bad)
            | _ => .bad) σ W Q := q1
          split at q1
          · rename_i kvs el
            split at q1
            · rename_i ys ey
              split at q1
              · rename_i hy
                obtain ⟨y1, y2⟩ := Bool.and_eq_true_iff.mp hy
                have y1 := of_decide_eq_true y1
                have hl : ∀ z ∈ ys, z.length ≤ sizeLine := fun z hz => by
                  have := of_decide_eq_true (List.all_eq_true.mp y2 z hz)
                  rwa [line_eq] at this
                unfold Rep at r
                obtain ⟨p', rfl, hp⟩ := r
                obtain ⟨ks, f2, f6⟩ := A.si.st l _ p' el hp
                refine ⟨p', ks, ys, rfl, .inl f2, keys_rep f6 ey, y1, fun zs p pm srt hn => ?_⟩
                have ez := sorted_is pm srt
                subst ez
                refine PD.newL q1 A.si (vs := (sortS ys).map V.str) (strs_reps fun z hm => hl z ((sort_perm ys).mem_iff.mp hm)) ?_ p hn
                rw [List.length_map, (sort_perm ys).length_eq, sizeLine_eq]
                omega
              · exact False.elim q1
            · exact False.elim q1
          · exact False.elim q1
        | _ => exact False.elim q1
      | [], _, h => simp [chk] at h
      | [_], _ :: _, h => simp [chk] at h
      | _ :: _ :: _, _, h => simp [chk] at h
    | _ => exact absurd h (by simp [chk])
  | _ => exact absurd h (by simp [chk])
end
end LD

set_option Elab.async false
set_option linter.all false
set_option maxRecDepth 100000
set_option maxHeartbeats 2000000
/-! LDo1: instances: rules of methods, makers, built-ins that ask an instance. -/
namespace LD
open PySem PySem.Spec PyProof.Rows L2 HT PySem.Calls
section
variable {X : Cx} {CX : CXT} {k : Nat} {f C : Addr} {fd : FuncData} {ps : List Str} {sp : Sp} {dvs : List V} {ds : List Value} {E : L2.St → XK} {x m : Str} {p pos apos : Pos} {e o : Expr} {es : List Expr} {ta : TE} {t : TA}
/-- a promise that raises nothing, called from within a built-in -/
theorem run_fn1 {pins : List (Addr × Obj)} {σ : L2.St} {H : Hp} {s : Shared} {Q : VK} {us : List Value} {vs : List V} {A' : Around} {E' : Value → Shared → Prop} (F : FnOk X.prog X.w X.K X.mg X.base (L2.CX X.prog X.w) k f fd ps sp) (hr : Room k A') (e0 : Env0 X.prog X.w X.K X.mg X.base A' X.stack s H)
    (hb : Binds X.K fd ps []) (I : Inv X pins σ H s) (r : Vals vs us) (h : sp vs H Q (fun _ _ _ => False)) : wpAny (model X.prog X.w) A' (call (.ref f) us) (EP X pins σ Q) E' s := by
  have hl : us.length = ps.length := by rw [← r.length]; exact F.len _ _ _ _ h
  have b := hb s us I.kIn (by rw [List.append_nil]; exact hl)
  rw [List.append_nil] at b
  refine wpAny_call (codeAny_mono (F.run A' X.stack s H ⟨us, []⟩ us vs Q _ hr e0 b r h) fun r s' hq => ?_)
  cases r with
  | error e =>
    obtain ⟨_, _, _, _, _, _, _, _, _, _, _, _, z⟩ := hq
    exact z.elim
  | ok fl =>
    cases fl with
    | ret u => exact I.after hq
    | next => exact False.elim hq
    | brk => exact False.elim hq
    | cont => exact False.elim hq
/-! ### o.m(..) -/
def tMethS (C : Addr) (m : Str) (sp : Sp) (E : L2.St → XK) (ta : TE) (t : TA) : TE := fun σ H Q => ta σ H fun x H1 => ∃ a dx fs, x = .ref a ∧ H1 a = some (.ins C dx fs) ∧ fs.lookup m = none ∧ t σ H1 fun vs H2 => sp (x :: vs) H2 Q (E σ)
theorem pe_methS' {pl : Sem Bool} (he : PE X o ta) (c : Cls X.K C) (hm : Meth X.K C m f) (F : FnOk X.prog X.w X.K X.mg X.base CX k f fd ps sp) (hr : Room k X.A) (hb : Binds X.K fd ps []) (hx : ∀ σ, PassesAt CX X σ (E σ)) (ha : PA X (e :: es) t)
    (hst : starEach (e :: es) X.env = (false, eval e X.env) :: starEach es X.env) (hpl : (backTo pos (starEach es X.env)).any (·.1) = false)
    (ht : eval (.Call (.Attribute o m apos) (e :: es) [] pos) X.env = (do
      let ov ← eval o X.env
      standAt apos.atName
      let (f, first) ← holding [ov] (getMethod ov m pl)
      callWith pos f first (backTo pos (starEach (e :: es) X.env)) (backToKw pos (keywordEach [] X.env)))) :
    PE X (.Call (.Attribute o m apos) (e :: es) [] pos) (tMethS C m sp E ta t) := by
  refine ⟨fun pins s σ H Q I h => ?_⟩
  refine PySem.W.methodCall_KW (pl := pl) (thn (he.run pins s σ H _ I h) fun u s1 ⟨x, H1, I1, rx, a, dx, fs, ex, ea, l, q⟩ => ?_) ht
  subst ex
  obtain rfl : u = Value.ref a := rx
  refine getmeth_ok I1 ea c hm l ?_
  refine PySem.W.callWith_K (first := [.ref a]) (h₀ := X.base) I.ok.mod.kin hm.kp (thn (ha.run pos pins s1 σ H1 _ I1 q) fun us s2 ⟨vs, H2, I2, r, q2⟩ => ⟨I2.kIn, ?_⟩) hst hpl
  exact run_fnS (us := .ref a :: us) (vs := .ref a :: vs) F hr hb (hx σ) I2 (.cons rfl r) q2
theorem pe_methS0 {pl : Sem Bool} (he : PE X o ta) (c : Cls X.K C) (hm : Meth X.K C m f) (F : FnOk X.prog X.w X.K X.mg X.base CX k f fd ps sp) (hr : Room k X.A) (hb : Binds X.K fd ps []) (hx : ∀ σ, PassesAt CX X σ (E σ))
    (ht : eval (.Call (.Attribute o m apos) [] [] pos) X.env = (do
      let ov ← eval o X.env
      standAt apos.atName
      let (f, first) ← holding [ov] (getMethod ov m pl)
      callWith pos f first (backTo pos (starEach [] X.env)) (backToKw pos (keywordEach [] X.env)))) :
    PE X (.Call (.Attribute o m apos) [] [] pos) (tMethS C m sp E ta tNil) := by
  refine ⟨fun pins s σ H Q I h => ?_⟩
  refine PySem.W.methodCall_KW (pl := pl) (thn (he.run pins s σ H _ I h) fun u s1 ⟨x, H1, I1, rx, a, dx, fs, ex, ea, l, q⟩ => ?_) ht
  subst ex
  obtain rfl : u = Value.ref a := rx
  refine getmeth_ok I1 ea c hm l ?_
  exact PySem.W.callWith_K0 (first := [.ref a]) I1.kIn hm.kp (run_fnS (us := [.ref a]) (vs := [.ref a]) F hr hb (hx σ) I1 (.cons rfl .nil) q)
/-! ### C(..) -/
def tMakeS (C : Addr) (sp : Sp) (dvs : List V) (E : L2.St → XK) (t : TA) : TE := fun σ H Q => t σ H fun vs H1 => ∀ x dx, H1 x = none → H1 dx = none → dx ≠ x →
  sp (.ref x :: (vs ++ dvs)) (upd (upd H1 dx (.own x)) x (.ins C dx [])) (fun v H2 => v = .non ∧ Q (.ref x) H2) (E σ)
theorem run_makeS {pins : List (Addr × Obj)} {σ : L2.St} {H : Hp} {s : Shared} {Q : VK} {us : List Value} {vs : List V} (M : Mk X.K C f) (F : FnOk X.prog X.w X.K X.mg X.base CX k f fd ps sp) (hr : Room (k + 1) X.A) (hb : Binds X.K fd ps ds) (hd : Vals dvs ds)
    (hx : PassesAt CX X σ (E σ)) (I : Inv X pins σ H s) (r : Vals vs us)
    (h : ∀ x dx, H x = none → H dx = none → dx ≠ x → sp (.ref x :: (vs ++ dvs)) (upd (upd H dx (.own x)) x (.ins C dx [])) (fun v H2 => v = .non ∧ Q (.ref x) H2) (E σ)) :
    wpAny (model X.prog X.w) X.A (call (.ref C) us) (EP X pins σ Q) X.xe s := by
  have hq := h (s.heap.objs.size + 1) s.heap.objs.size (I.hok.fresh (Nat.le_succ _)) (I.hok.fresh (Nat.le_refl _)) (Nat.ne_of_lt (Nat.lt_succ_self _))
  have I2 := Inv.made (C := C) I
  have r2 : Vals (V.ref (s.heap.objs.size + 1) :: (vs ++ dvs)) (Value.ref (s.heap.objs.size + 1) :: (us ++ ds)) := .cons rfl (r.append hd)
  have hl : (Value.ref (s.heap.objs.size + 1) :: us ++ ds).length = ps.length := by
    have e := r2.length
    rw [F.len _ _ _ _ hq] at e
    exact e.symm
  refine wpAny_call (make_map (f := f) I.kIn M.makes M.init (beq_iff_eq.mp M.fn) (codeAny_mono (F.run _ X.stack _ _ ⟨Value.ref (s.heap.objs.size + 1) :: us, []⟩ (Value.ref (s.heap.objs.size + 1) :: (us ++ ds)) _ _ (E σ) (hr.make C us [])
    (I2.env0.make C us []) (hb _ (Value.ref (s.heap.objs.size + 1) :: us) I2.kIn hl) r2 hq) fun r s' hq' => ?_))
  cases r with
  | error e => exact hx pins _ _ e s' I2 hq'
  | ok fl =>
    cases fl with
    | ret u =>
      obtain ⟨v, H', I3, rv, ev, q3⟩ := I2.after hq'
      subst ev
      exact ⟨rv, ⟨V.ref (s.heap.objs.size + 1), H', I3, rfl, q3⟩⟩
    | next => exact False.elim hq'
    | brk => exact False.elim hq'
    | cont => exact False.elim hq'
theorem pe_makeS (M : Mk X.K C f) (F : FnOk X.prog X.w X.K X.mg X.base CX k f fd ps sp) (hr : Room (k + 1) X.A) (hg : L2.Gl X x) (hm : X.mg x = some (.ref C)) (hb : Binds X.K fd ps ds) (hd : Vals dvs ds) (hx : ∀ σ, PassesAt CX X σ (E σ))
    (ha : PA X (e :: es) t) (hdb : (x == ("__debug__" : Str)) = false) (he : starEach (e :: es) X.env = (false, eval e X.env) :: starEach es X.env) (hpl : (backTo pos (starEach es X.env)).any (·.1) = false) :
    PE X (.Call (.Name x p) (e :: es) [] pos) (tMakeS C sp dvs E t) := by
  refine ⟨fun pins s σ H Q I h => ?_⟩
  refine wpAny_Call_Name_kw (ld_glob I hg hm ?_ hdb)
  refine PySem.W.callWith_K (h₀ := X.base) I.ok.mod.kin M.kp (thn (ha.run pos pins s σ H _ I h) fun us s1 ⟨vs, H1, I1, r, q⟩ => ⟨I1.kIn, ?_⟩) he hpl
  exact run_makeS M F hr hb hd (hx σ) I1 r q
theorem pe_makeS0 (M : Mk X.K C f) (F : FnOk X.prog X.w X.K X.mg X.base CX k f fd ps sp) (hr : Room (k + 1) X.A) (hg : L2.Gl X x) (hm : X.mg x = some (.ref C)) (hb : Binds X.K fd ps ds) (hd : Vals dvs ds) (hx : ∀ σ, PassesAt CX X σ (E σ))
    (hdb : (x == ("__debug__" : Str)) = false) : PE X (.Call (.Name x p) [] [] pos) (tMakeS C sp dvs E tNil) := by
  refine ⟨fun pins s σ H Q I h => ?_⟩
  refine wpAny_Call_Name_kw (ld_glob I hg hm ?_ hdb)
  exact PySem.W.callWith_K0 I.kIn M.kp (run_makeS (us := []) M F hr hb hd (hx σ) I .nil h)
end
section
variable {X : Cx} {k : Nat} {f C : Addr} {fd : FuncData} {ps : List Str} {sp : Sp}
/-! ### len(o), x in o, str(o) -/
theorem call_olen (hm : Meth X.K C "__len__" f) (F : FnOk X.prog X.w X.K X.mg X.base (L2.CX X.prog X.w) k f fd ps sp) (hr : Room (k + 1) X.A) (hb : Binds X.K fd ps []) :
    CallR X (.builtin "len") (fun xs H Q => ∃ a dx fs, xs = [.ref a] ∧ H a = some (.ins C dx fs) ∧ sp [.ref a] H (fun v H2 => ∃ n : Int, v = .int n ∧ 0 ≤ n ∧ n < 2 ^ 63 ∧ Q (.int n) H2) (fun _ _ _ => False)) := by
  intro pins s σ H xs us Q I r h
  obtain ⟨a, dx, fs, rfl, ea, h⟩ := h
  cases r with
  | cons rx rr =>
    cases rr
    cases rx
    obtain ⟨mA, O, _, _, _, _⟩ := ins_get I.hok ea
    obtain ⟨od, J, _⟩ := O.look
    refine Calls.call_function_entry kind_len plain_len entry_len (args_len1 _) ?_
    unfold Builtin.«len»
    refine wpAny_bind (m := oneArg "len" _) (wpAny_pure ?_)
    refine wpAny_bind (m := callSpecial? (.ref a) (Str.ofString "__len__")) (PySem.W.special_fn I.kIn J hm.at_ (beq_iff_eq.mp hm.fn) (thn (run_fn1 (us := [.ref a]) (vs := [.ref a]) F hr.in1 I.env0.in1 hb I (.cons rfl .nil) h) fun u s1 hh => ?_))
    obtain ⟨v, H1, I1, rv, n, rfl, h0, h1, q⟩ := hh
    obtain ⟨t, rfl⟩ := rv
    refine wpAny_bind (wpAny_holding (wpAny_pure ?_))
    refine wpAny_bind (wpAny_letGo ?_)
    show wpAny _ _ (if n < 0 then _ else _) _ _ _
    rw [if_neg (by omega)]
    show wpAny _ _ (if n ≥ 2 ^ 63 then _ else _) _ _ _
    rw [if_neg (by omega)]
    exact wpAny_bind (wpAny_mkInt (wpAny_pure ⟨_, rfl, .int n, H1, I1.tok _, ⟨_, rfl⟩, q⟩))
theorem op_oin {neg : Bool} (hm : Meth X.K C "__contains__" f) (F : FnOk X.prog X.w X.K X.mg X.base (L2.CX X.prog X.w) k f fd ps sp) (hr : Room k X.A) (hb : Binds X.K fd ps []) :
    OpR X (compareOp (if neg then CmpOp.NotIn else CmpOp.In)) (fun y x H Q => ∃ a dx fs, x = .ref a ∧ H a = some (.ins C dx fs) ∧ sp [.ref a, y] H (fun v H2 => ∃ b : Bool, v = .bl b ∧ Q (.bl (if neg then !b else b)) H2) (fun _ _ _ => False)) := by
  intro pins s σ H y x u v Q I ry rx h
  obtain ⟨a, dx, fs, rfl, ea, h⟩ := h
  obtain rfl : v = Value.ref a := rx
  obtain ⟨mA, O, _, _, _, _⟩ := ins_get I.hok ea
  obtain ⟨od, J, _⟩ := O.look
  have key : ∀ {Q' : Bool → Shared → Prop}, (∀ b s1 H1, Inv X pins σ H1 s1 → Q (.bl (if neg then !b else b)) H1 → Q' b s1) → wpAny (model X.prog X.w) X.A (contains (.ref a) u) Q' X.xe s := fun {Q'} hq => by
    unfold contains
    refine wpAny_holding (wpAny_bind (wpAny_bind (J.type.here ((PySem.W.looks_findIn I.kIn hm.at_).here ?_))))
    rw [if_neg (by simp)]
    refine wpAny_bind (PySem.W.unlessNone_K I.kIn J hm.at_ hm.fn (thn (run_fn1 (us := [.ref a, u]) (vs := [.ref a, y]) F hr I.env0 hb I (.cons rfl (.cons ry .nil)) h) fun w s1 hh => ?_))
    obtain ⟨v, H1, I1, rv, b, rfl, q⟩ := hh
    cases rv
    exact wpAny_truthy_bool (hq b s1 H1 I1 q)
  cases neg with
  | true => exact wpAny_bind (key fun b s1 H1 I1 q => wpAny_pure ⟨.bl (!b), H1, I1, rfl, q⟩)
  | false => exact wpAny_bind (key fun b s1 H1 I1 q => wpAny_pure ⟨.bl b, H1, I1, rfl, q⟩)
theorem call_ostr (hm : Meth X.K C "__str__" f) (F : FnOk X.prog X.w X.K X.mg X.base (L2.CX X.prog X.w) k f fd ps sp) (hr : Room (k + 2) X.A) (hb : Binds X.K fd ps []) :
    CallR X (.type "str") (fun xs H Q => ∃ a dx fs, xs = [.ref a] ∧ H a = some (.ins C dx fs) ∧ sp [.ref a] H (fun v H2 => ∃ z : Str, v = .str z ∧ Q (.str z) H2) (fun _ _ _ => False)) := by
  intro pins s σ H xs us Q I r h
  obtain ⟨a, dx, fs, rfl, ea, h⟩ := h
  cases r with
  | cons rx rr =>
    cases rr
    cases rx
    obtain ⟨mA, O, _, _, _, _⟩ := ins_get I.hok ea
    obtain ⟨od, J, _⟩ := O.look
    refine PySem.W.kso_call (by have := hr.in1.in1.un; omega) I.kIn J hm.at_ hm.fn (thn (run_fn1 (us := [.ref a]) (vs := [.ref a]) F hr.in1.in1 I.env0.in1.in1 hb I (.cons rfl .nil) h) fun u s1 hh => ?_)
    obtain ⟨v, H1, I1, rv, z, rfl, q⟩ := hh
    obtain ⟨t, rfl⟩ := rv
    exact ⟨.str z, H1, I1, ⟨_, rfl⟩, q⟩
end
end LD

set_option Elab.async false
set_option linter.all false
set_option maxRecDepth 100000
set_option maxHeartbeats 2000000
/-! LDo2: instances in the checker: attributes, methods, properties, makers, len, in, str; f-strings. -/
namespace LD
open PySem PySem.Spec PyProof.Rows L2 HT
section
variable {ga : GA} {G : GT} {N : List Str} {T : Tb}
theorem SI.obj {K : PySem.W.Frag} {ms : List Addr} {Γ H : Hp} {μ : Store} {l : Nat} {c : Str} {fs : List (Str × D)} {v : V} (S : SI K ga ms Γ μ H) (el : μ[l]? = some (.obj c fs)) (r : Rep K ga ms Γ (.loc l) v) :
    ∃ a dx ys, v = .ref a ∧ ms[l]? = some a ∧ H a = some (.ins (ga c) dx ys) ∧ fs.length ≤ 900 ∧ RepF K ga ms Γ fs ys := by
  unfold Rep at r
  obtain ⟨a, rfl, hp⟩ := r
  obtain ⟨dx, ys, z1, z2, z3⟩ := S.st l _ a el hp
  exact ⟨a, dx, ys, rfl, hp, z1, z2, z3⟩
theorem repF_none {K : PySem.W.Frag} {ms : List Addr} {Γ : Hp} {f : Str} : ∀ {fs : List (Str × D)} {ys : List (Str × V)}, RepF K ga ms Γ fs ys → fs.lookup f = none → ys.lookup f = none
  | [], ys, r, _ => by unfold RepF at r; subst r; rfl
  | (g, x) :: fs, ys, r, h => by
    unfold RepF at r
    obtain ⟨y, r', rfl, r1, r2⟩ := r
    rw [List.lookup_cons] at h ⊢
    split at h
    · cases h
    · exact repF_none r2 h
theorem repF_len {K : PySem.W.Frag} {ms : List Addr} {Γ : Hp} : ∀ {fs : List (Str × D)} {ys : List (Str × V)}, RepF K ga ms Γ fs ys → fs.length = ys.length
  | [], ys, r => by unfold RepF at r; subst r; rfl
  | (g, x) :: fs, ys, r => by
    unfold RepF at r
    obtain ⟨y, r', rfl, r1, r2⟩ := r
    rw [List.length_cons, List.length_cons, repF_len r2]
theorem repF_put {K : PySem.W.Frag} {ms : List Addr} {Γ : Hp} {f : Str} {d : D} {v : V} (rv : Rep K ga ms Γ d v) : ∀ {fs : List (Str × D)} {ys : List (Str × V)}, RepF K ga ms Γ fs ys → RepF K ga ms Γ (putFd f d fs) (putF f v ys)
  | [], ys, r => by
    unfold RepF at r
    subst r
    show RepF K ga ms Γ [(f, d)] [(f, v)]
    unfold RepF
    exact ⟨v, [], rfl, rv, by unfold RepF; rfl⟩
  | (g, x) :: fs, ys, r => by
    unfold RepF at r
    obtain ⟨y, r', rfl, r1, r2⟩ := r
    show RepF K ga ms Γ (if g = f then (g, d) :: fs else (g, x) :: putFd f d fs) (if g = f then (g, v) :: r' else (g, y) :: putF f v r')
    split
    · unfold RepF
      exact ⟨v, r', rfl, rv, r2⟩
    · unfold RepF
      exact ⟨y, _, rfl, r1, repF_put rv r2⟩
theorem putFd_len (f : Str) (d : D) : ∀ fs : List (Str × D), (putFd f d fs).length ≤ fs.length + 1
  | [] => by simp [putFd]
  | (g, x) :: fs => by
    have ih := putFd_len f d fs
    show (if g = f then (g, d) :: fs else (g, x) :: putFd f d fs).length ≤ _
    split <;> simp only [List.length_cons] <;> omega
theorem objFs_some {μ : Store} {x : D} {c : Str} {fs : List (Str × D)} (h : objFs μ x c = some fs) : ∃ l, x = .loc l ∧ μ[l]? = some (.obj c fs) := by
  unfold objFs at h
  split at h
  · split at h
    · split at h
      · rename_i e
        cases h
        subst e
        exact ⟨_, rfl, by assumption⟩
      · cases h
    · cases h
  · cases h
theorem isObj_some {μ : Store} {x : D} {c : Str} (h : isObj μ x c = true) : ∃ l fs, x = .loc l ∧ μ[l]? = some (.obj c fs) := by
  unfold isObj at h
  split at h
  · split at h
    · have e := of_decide_eq_true h
      subst e
      exact ⟨_, _, rfl, by assumption⟩
    · cases h
  · cases h
theorem se_never : SE ga G N T .never := fun X sc x W C tk h => ⟨fun pins s σ H Q I ⟨ms, Γ, μ, ρ, S, R, q⟩ => False.elim q⟩
theorem st_never : ST ga G N T .never := fun X sc x W C tk h => ⟨fun pins s σ H Q I ⟨ms, Γ, μ, ρ, S, R, q⟩ => False.elim q⟩
theorem sw_never : SW ga G N T .never := fun X sc op xs p W C tk h => ⟨fun wh pins s σ H Q I ⟨ms, Γ, μ, ρ, S, R, q⟩ => False.elim q⟩
theorem se_attr {o : Ex} (f : Str) (cs : List Str) (ho : SE ga G N T o) : SE ga G N T (.attr o f cs) := by
  intro X sc x W C tk h
  cases x with
  | Attribute y n pos =>
    have h : (decide (n = f) && chk N T sc o y && notSuper y && cs.all fun c => decide ((c, f) ∈ T.fl)) = true := h
    simp only [Bool.and_eq_true] at h
    obtain ⟨⟨⟨h1, h2⟩, h3⟩, h4⟩ := h
    have e1 := of_decide_eq_true h1
    subst e1
    refine (pe_fld (ho X sc y W C tk h2) (base_ok h3)).mono fun σ H Q ⟨ms, Γ, μ, ρ, S, R, q⟩ => ?_
    refine step S R q fun d μ1 v H1 ms1 Γ1 A r R1 q1 => ?_
    cases d with
    | loc l =>
      have q1 : PO X ga ms1 Γ1 H1 (match μ1[l]? with
        | some (.obj c fs) => if c ∈ cs then opt (fs.lookup n) μ1 else .bad
        | _ => .bad) σ W Q := q1
      split at q1
      · rename_i c fs el
        split at q1
        · rename_i hc
          obtain ⟨d, e, q2⟩ := PO.opt q1
          obtain ⟨a, dx, ys, rfl, _, z1, z2, z3⟩ := SI.obj A.si el r
          obtain ⟨w, w1, w2⟩ := repF_get (X := X) z3 e
          have F := C.fl c n (of_decide_eq_true (List.all_eq_true.mp h4 c hc))
          exact ⟨a, ga c, dx, ys, w, rfl, z1, F.cl, F.no, w1, q2.here A.si w2⟩
        · exact False.elim q1
      · exact False.elim q1
    | _ => exact False.elim q1
  | _ => exact absurd h (by simp [chk])
theorem star_all {es : List Expr} {env : PySem.Env} {pos : Pos} (h : es.all notStar = true) : (backTo pos (starEach es env)).all (fun x => !x.1) = true := by
  induction es with
  | nil => rfl
  | cons e es ih =>
    have h := Bool.and_eq_true_iff.mp (show (notStar e && es.all notStar) = true from h)
    rw [star_cons e es env h.1]
    show (true && (backTo pos (starEach es env)).all (fun x => !x.1)) = true
    rw [ih h.2]
    rfl
theorem call_form {o : Expr} {m : Str} {apos pos : Pos} {es : List Expr} {env : PySem.Env} (hb : attributeBase o m env (eval o env) = eval o env) (hst : es.all notStar = true) (hn : es.length < 30) (hl : decide (apos.endLine = pos.line) = true) :
    eval (.Call (.Attribute o m apos) es [] pos) env = (do
      let ov ← eval o env
      standAt apos.atName
      let (f, first) ← holding [ov] (getMethod ov m (plainOf o env))
      callWith pos f first (backTo pos (starEach es env)) (backToKw pos (keywordEach [] env))) := by
  rw [arm_eval_Call, hb]
  have hf : methodCallForm (es.length + ([] : List Keyword).length) (backTo pos (starEach es env)) (backToKw pos (keywordEach [] env)) = true := by
    unfold methodCallForm
    rw [star_all hst]
    show (true && true && decide (es.length + 0 + 0 < 30)) = true
    simpa using hn
  have hl' : (apos.endLine == pos.line) = true := by simpa using of_decide_eq_true hl
  congr 1
  funext ov
  congr 1
  funext _
  exact mcall_line hf hl'
theorem se_mcall (c m f : Str) {o : Ex} {es : Exs} (ho : SE ga G N T o) (hs : SA ga G N T es) : SE ga G N T (.mcall c m f o es) := by
  intro X sc x W C tk h
  cases x with
  | Call g xs kws pos =>
    cases g with
    | Attribute y n ap =>
      cases kws with
      | nil =>
        have h : (decide (n = m) && chk N T sc o y && notSuper y && decide ((c, m, f, xs.length + 1) ∈ T.mt) && chks N T sc es xs && decide (ap.endLine = pos.line) && decide (xs.length < 30)) = true := h
        simp only [Bool.and_eq_true] at h
        obtain ⟨⟨⟨⟨⟨⟨h1, h2⟩, h3⟩, h4⟩, h5⟩, h6⟩, h7⟩ := h
        have e := of_decide_eq_true h1
        subst e
        obtain ⟨k, a, fd, ps, hc, hm, hl, F, hr, hb⟩ := (C.mt c n f _ (of_decide_eq_true h4)).ex
        have hp : ∀ σ, PassesAt (L2.CX X.prog X.w) X σ (WE W σ) := fun σ => passAt tk σ
        have fin : ∀ (ms1 ms2 : List Addr) (Γ1 Γ2 : Hp) (H2 : Hp) (σ : L2.St) (Q : VK) (d : D) (ds : List D) (v : V) (vs : List V) (μ2 : Store), SI X.K ga ms2 Γ2 μ2 H2 → Rep X.K ga ms2 Γ2 d v → Reps X.K ga ms2 Γ2 ds vs →
          PO X ga ms2 Γ2 H2 (G.call f (d :: ds) μ2) σ W Q → spC X.K ga (G.call f) (v :: vs) H2 Q (WE W σ) := fun ms1 ms2 Γ1 Γ2 H2 σ Q d ds v vs μ2 S2 r rs q => by
          refine ⟨ms2, Γ2, μ2, d :: ds, S2, Reps.cons r rs, ?_⟩
          cases e : G.call f (d :: ds) μ2 with
          | ok d μ2 => rw [e] at q; exact q
          | exc c fs μ2 => rw [e] at q; exact q
          | bad => rw [e] at q; exact q
        have main : ∀ σ H Q, tE X ga G W (.mcall c n f o es) σ H Q → tMethS (ga c) n (spC X.K ga (G.call f)) (WE W) (tE X ga G W o) (tA X ga G W es) σ H Q := fun σ H Q ⟨ms, Γ, μ, ρ, S, R, q⟩ => by
          refine step S R q fun d μ1 v H1 ms1 Γ1 A r R1 q1 => ?_
          cases ef : objFs μ1 d c with
          | none => rw [ef] at q1; exact q1.elim
          | some fs =>
            rw [ef] at q1
            have q1 : PO X ga ms1 Γ1 H1 (if fs.lookup n = none then (evs G es ρ μ1).bind fun ds μ => G.call f (d :: ds) μ else .bad) σ W Q := q1
            split at q1
            · rename_i hn
              obtain ⟨l, rfl, el⟩ := objFs_some ef
              obtain ⟨a', dx, ys, rfl, _, z1, z2, z3⟩ := SI.obj A.si el r
              refine ⟨a', dx, ys, rfl, z1, repF_none z3 hn, stepA A.si R1 q1 fun ds μ2 vs H2 ms2 Γ2 A2 r2 R2 q2 => ?_⟩
              exact fin ms1 ms2 Γ1 Γ2 H2 σ Q _ ds _ vs μ2 A2.si (r.mono A2.le A2.pre) r2 q2
            · exact q1.elim
        cases xs with
        | nil =>
          refine (pe_methS0 (f := a) (ho X sc y W C tk h2) hc hm F (hr.mono (by omega)) hb hp (call_form (base_ok h3) rfl (by decide) h6)).mono fun σ H Q hq => ?_
          cases es with
          | nil =>
            obtain ⟨ms, Γ, μ, ρ, S, R, q⟩ := main σ H Q hq
            refine ⟨ms, Γ, μ, ρ, S, R, ?_⟩
            cases e : ev G o ρ μ with
            | ok d μ1 =>
              rw [e] at q
              intro v H1 ms1 Γ1 A r
              obtain ⟨a', dx, ys, h1, h2, h3, h4⟩ := q v H1 ms1 Γ1 A r
              refine ⟨a', dx, ys, h1, h2, h3, ?_⟩
              obtain ⟨ms2, Γ2, μ2, ρ2, S2, R2, z⟩ := h4
              exact z [] H1 ms2 Γ2 (After.refl S2) Reps.nil
            | exc c fs μ1 => rw [e] at q; exact q
            | bad => rw [e] at q; exact q
          | cons e es => simp [chks] at h5
        | cons x xs =>
          have st := chks_star h5
          have st2 := Bool.and_eq_true_iff.mp (show (notStar x && xs.all notStar) = true from st)
          exact (pe_methS' (f := a) (ho X sc y W C tk h2) hc hm F (hr.mono (by omega)) hb hp (hs X sc _ W C tk h5) (star_cons x xs X.env st2.1) (plain_any st2.2) (call_form (base_ok h3) st (of_decide_eq_true h7) h6)).mono main
      | cons _ _ => exact absurd h (by simp [chk])
    | _ => exact absurd h (by simp [chk])
  | _ => exact absurd h (by simp [chk])
theorem se_prop (c m f : Str) {o : Ex} (ho : SE ga G N T o) : SE ga G N T (.prop c m f o) := by
  intro X sc x W C tk h
  cases x with
  | Attribute y n pos =>
    have h : (decide (n = m) && chk N T sc o y && notSuper y && decide ((c, m, f) ∈ T.pr)) = true := h
    simp only [Bool.and_eq_true] at h
    obtain ⟨⟨⟨h1, h2⟩, h3⟩, h4⟩ := h
    have e1 := of_decide_eq_true h1
    subst e1
    obtain ⟨k, p, a, fd, ps, hc, hp, hl, F, hr, hb⟩ := (C.pr c n f (of_decide_eq_true h4)).ex
    have hx : Passes (L2.CX X.prog X.w) X.nox (fun _ _ _ => False) := fun pins σ H s e s' I c => by
      obtain ⟨_, _, _, _, _, _, _, _, _, _, _, _, z⟩ := c
      exact z.elim
    refine (pe_prop (ho X sc y W C tk h2) hc hp F (hr.mono (by omega)) hb .nil hx (base_ok h3)).mono fun σ H Q ⟨ms, Γ, μ, ρ, S, R, q⟩ => ?_
    refine step S R q fun d μ1 v H1 ms1 Γ1 A r R1 q1 => ?_
    split at q1
    · rename_i ho
      obtain ⟨l, fs, rfl, el⟩ := isObj_some ho
      obtain ⟨a', dx, ys, rfl, _, z1, z2, z3⟩ := SI.obj A.si el r
      refine ⟨a', dx, ys, rfl, z1, ms1, Γ1, μ1, [.loc l], A.si, Reps.cons r Reps.nil, ?_⟩
      cases e : G.call f [.loc l] μ1 with
      | ok d μ2 => rw [e] at q1; exact q1
      | exc c fs μ2 => rw [e] at q1; exact q1.elim
      | bad => rw [e] at q1; exact q1.elim
    · exact q1.elim
  | _ => exact absurd h (by simp [chk])
/-- what a call within a built-in wants -/
theorem noX_sp {X : Cx} {f : Str} {ms1 : List Addr} {Γ1 : Hp} {μ1 : Store} {H1 : Hp} {σ : L2.St} {W : WX} {ds : List D} {vs : List V} {Q Q' : VK} {F : Out D → Out D} (S : SI X.K ga ms1 Γ1 μ1 H1) (r : Reps X.K ga ms1 Γ1 ds vs) (q : PO X ga ms1 Γ1 H1 (F (G.call f ds μ1)) σ W Q)
    (hb : F .bad = .bad) (hx : ∀ c fs μ, F (.exc c fs μ) = .bad)
    (hk : ∀ d μ2, F (.ok d μ2) = .bad ∨ ∀ v H' ms' Γ', After X.K ga ms1 Γ1 H1 ms' Γ' μ2 H' → Rep X.K ga ms' Γ' d v → PO X ga ms' Γ' H' (F (.ok d μ2)) σ W Q → Q' v H') : spC X.K ga (G.call f) vs H1 Q' (fun _ _ _ => False) := by
  refine ⟨ms1, Γ1, μ1, ds, S, r, ?_⟩
  cases e : G.call f ds μ1 with
  | ok d μ2 =>
    rw [e] at q
    rcases hk d μ2 with h | h
    · rw [h] at q; exact q.elim
    · intro v H' ms' Γ' A r'
      exact h v H' ms' Γ' A r' (PO.shift q A)
  | exc c fs μ2 => rw [e, hx] at q; exact q.elim
  | bad => rw [e, hb] at q; exact q.elim
theorem se_olen (c f : Str) {o : Ex} (ho : SE ga G N T o) : SE ga G N T (.olen c f o) := by
  intro X sc x W C tk h
  cases x with
  | Call g xs kws pos =>
    cases g with
    | Name y py =>
      match xs, kws, h with
      | [z], [], h =>
        have h : (decide (y = ("len" : Str)) && glC sc y && chk N T sc o z && notStar z && decide ((c, ("__len__" : Str), f, 1) ∈ T.mt)) = true := h
        simp only [Bool.and_eq_true] at h
        obtain ⟨⟨⟨⟨h1, h2⟩, h3⟩, h4⟩, h5⟩ := h
        have e := of_decide_eq_true h1
        subst e
        obtain ⟨b1, b2, b3, b4⟩ := blt_boot .len
        obtain ⟨k, a, fd, ps, hc, hm, hl, F, hr, hb⟩ := (C.mt c _ f _ (of_decide_eq_true h5)).ex
        refine (pe_callV (.inl ⟨_, rfl⟩) (call_olen hm F (hr.mono (by omega)) hb) (C.gl _ h2) (C.blt _ b1) b4 (pa_cons (ho X sc z W C tk h3) pa_nil (star_cons z [] X.env h4)) b2 b3 (star_cons z [] X.env h4) (plain_any rfl)).mono fun σ H Q ⟨ms, Γ, μ, ρ, S, R, q⟩ => ?_
        refine step S R q fun d μ1 v H1 ms1 Γ1 A r R1 q1 => ?_
        split at q1
        · rename_i ho
          obtain ⟨l, fs, rfl, el⟩ := isObj_some ho
          obtain ⟨a', dx, ys, rfl, _, z1, z2, z3⟩ := SI.obj A.si el r
          refine ⟨a', dx, ys, rfl, z1, noX_sp (F := lenI) A.si (Reps.cons r Reps.nil) q1 rfl (fun _ _ _ => rfl) fun d μ2 => ?_⟩
          cases d with
          | int n =>
            by_cases hn : 0 ≤ n ∧ n < 2 ^ 62
            · refine .inr fun v H' ms' Γ' A' r' q' => ?_
              have e : lenI (.ok (.int n) μ2) = .ok (.int n) μ2 := if_pos hn
              rw [e] at q'
              unfold Rep at r'
              exact ⟨n, r', hn.1, by have := hn.2; omega, PD.int q' A'.si⟩
            · exact .inl (if_neg hn)
          | _ => exact .inl rfl
        · exact q1.elim
      | [], _, h => simp [chk] at h
      | [_], _ :: _, h => simp [chk] at h
      | _ :: _ :: _, _, h => simp [chk] at h
    | _ => exact absurd h (by simp [chk])
  | _ => exact absurd h (by simp [chk])
theorem str_boot : ("str" : Str) ∈ bltNames ∧ ("str" : Str) ≠ "__name__" ∧ (("str" : Str) == ("__debug__" : Str)) = false ∧ bootBuiltins "str" = some (.type "str") := by decide +kernel
theorem se_ostr (c f : Str) {o : Ex} (ho : SE ga G N T o) : SE ga G N T (.ostr c f o) := by
  intro X sc x W C tk h
  cases x with
  | Call g xs kws pos =>
    cases g with
    | Name y py =>
      match xs, kws, h with
      | [z], [], h =>
        have h : (decide (y = ("str" : Str)) && glC sc y && chk N T sc o z && notStar z && decide ((c, ("__str__" : Str), f, 1) ∈ T.mt)) = true := h
        simp only [Bool.and_eq_true] at h
        obtain ⟨⟨⟨⟨h1, h2⟩, h3⟩, h4⟩, h5⟩ := h
        have e := of_decide_eq_true h1
        subst e
        obtain ⟨b1, b2, b3, b4⟩ := str_boot
        obtain ⟨k, a, fd, ps, hc, hm, hl, F, hr, hb⟩ := (C.mt c _ f _ (of_decide_eq_true h5)).ex
        refine (pe_callV (.inr ⟨_, rfl⟩) (call_ostr hm F hr hb) (C.gl _ h2) (C.blt _ b1) b4 (pa_cons (ho X sc z W C tk h3) pa_nil (star_cons z [] X.env h4)) b2 b3 (star_cons z [] X.env h4) (plain_any rfl)).mono fun σ H Q ⟨ms, Γ, μ, ρ, S, R, q⟩ => ?_
        refine step S R q fun d μ1 v H1 ms1 Γ1 A r R1 q1 => ?_
        split at q1
        · rename_i ho
          obtain ⟨l, fs, rfl, el⟩ := isObj_some ho
          obtain ⟨a', dx, ys, rfl, _, z1, z2, z3⟩ := SI.obj A.si el r
          refine ⟨a', dx, ys, rfl, z1, noX_sp (F := strO) A.si (Reps.cons r Reps.nil) q1 rfl (fun _ _ _ => rfl) fun d μ2 => ?_⟩
          cases d with
          | str z =>
            refine .inr fun v H' ms' Γ' A' r' q' => ?_
            unfold Rep at r'
            exact ⟨z, r'.1, PD.str q' A'.si r'.2⟩
          | _ => exact .inl rfl
        · exact q1.elim
      | [], _, h => simp [chk] at h
      | [_], _ :: _, h => simp [chk] at h
      | _ :: _ :: _, _, h => simp [chk] at h
    | _ => exact absurd h (by simp [chk])
  | _ => exact absurd h (by simp [chk])
/-- comparisons in, not in: a value and a test -/
theorem in_both {neg : Bool} {e k o : Ex} {f : D → D → Store → Out D} {r : Cx → R2}
    (hev : ∀ ρ μ, ev G e ρ μ = (ev G k ρ μ).bind fun y μ => (ev G o ρ μ).bind fun x μ => f y x μ)
    (key : ∀ (X : Cx) (sc : Scope) (x : Expr) (W : WX), GC X ga G N T sc → Takes X W → chk N T sc e x = true → ∃ p q pos, x = .Compare p [if neg then CmpOp.NotIn else CmpOp.In] [q] pos ∧ PE X p (tE X ga G W k) ∧ PE X q (tE X ga G W o) ∧ notSet q = true)
    (hop : ∀ (X : Cx) (sc : Scope) (x : Expr), GC X ga G N T sc → chk N T sc e x = true → OpR X (compareOp (if neg then CmpOp.NotIn else CmpOp.In)) (r X))
    (use : ∀ (X : Cx) (sc : Scope) (x : Expr) (W : WX), GC X ga G N T sc → Takes X W → chk N T sc e x = true → ∀ (ms : List Addr) (Γ H : Hp) (μ : Store) (σ : L2.St) (y x : D) (vy vx : V) (Q : VK), SI X.K ga ms Γ μ H → Rep X.K ga ms Γ y vy → Rep X.K ga ms Γ x vx →
      (∀ c fs μ', f y x μ ≠ .exc c fs μ') → (∃ b μ', f y x μ = .ok (.bl b) μ') → PO X ga ms Γ H (f y x μ) σ W Q → r X vy vx H Q)
    (hbl : ∀ y x μ d μ', f y x μ = .ok d μ' → ∃ b, d = .bl b) (hnx : ∀ y x μ c fs μ', f y x μ ≠ .exc c fs μ') : SE ga G N T e ∧ ST ga G N T e := by
  refine ⟨fun X sc x W C tk h => ?_, fun X sc x W C tk h => ?_⟩
  · obtain ⟨p, q, pos, hx, hp, hq, hn⟩ := key X sc x W C tk h
    have hop' := hop X sc x C h
    have use' := use X sc x W C tk h
    subst hx
    refine (pe_cmpR hop' hp hq (markD hn)).mono fun σ H Q ⟨ms, Γ, μ, ρ, S, R, q⟩ => ?_
    rw [hev] at q
    refine step S R q fun d μ1 v H1 ms1 Γ1 A r R1 q1 => step A.si R1 q1 fun d2 μ2 v2 H2 ms2 Γ2 A2 r2 R2 q2 => ?_
    refine use' ms2 Γ2 H2 μ2 σ d d2 v v2 Q A2.si (r.mono A2.le A2.pre) r2 (hnx _ _ _) ?_ q2
    cases e : f d d2 μ2 with
    | bad => rw [e] at q2; exact q2.elim
    | exc c fs μ' => exact ((hnx _ _ _ _ _ _) e).elim
    | ok b μ' =>
      obtain ⟨b', rfl⟩ := hbl _ _ _ _ _ e
      exact ⟨b', μ', rfl⟩
  · obtain ⟨p, q, pos, hx, hp, hq, hn⟩ := key X sc x W C tk h
    have hop' := hop X sc x C h
    have use' := use X sc x W C tk h
    subst hx
    refine (pt_cmpR hop' hp hq (markD hn)).mono fun σ H Q ⟨ms, Γ, μ, ρ, S, R, q⟩ => ?_
    have q : POT X ga ms Γ H ((ev G e ρ μ).bind fun d μ => match truthy d with
      | some b => .ok b μ
      | none => .bad) σ W Q := q
    rw [hev] at q
    rw [Out.bind_assoc] at q
    refine stepT S R q fun d μ1 v H1 ms1 Γ1 A r R1 q1 => ?_
    rw [Out.bind_assoc] at q1
    refine stepT A.si R1 q1 fun d2 μ2 v2 H2 ms2 Γ2 A2 r2 R2 q2 => ?_
    cases e : f d d2 μ2 with
    | bad => rw [e] at q2; exact q2.elim
    | exc c fs μ' => exact ((hnx _ _ _ _ _ _) e).elim
    | ok b μ' =>
      obtain ⟨b', rfl⟩ := hbl _ _ _ _ _ e
      rw [e] at q2
      refine use' ms2 Γ2 H2 μ2 σ d d2 v v2 _ A2.si (r.mono A2.le A2.pre) r2 (hnx _ _ _) ⟨b', μ', e⟩ ?_
      rw [e]
      intro w H' ms' Γ' A' r'
      unfold Rep at r'
      exact ⟨b', r', q2 H' ms' Γ' A'⟩
theorem key_in {neg : Bool} {e k o : Ex} (hk : SE ga G N T k) (ho : SE ga G N T o) (hc : ∀ sc x, chk N T sc e x = true → ∃ p op q pos, x = .Compare p [op] [q] pos ∧ (decide (op = if neg then CmpOp.NotIn else CmpOp.In) && chk N T sc k p && chk N T sc o q && notSet q) = true)
    (X : Cx) (sc : Scope) (x : Expr) (W : WX) (C : GC X ga G N T sc) (tk : Takes X W) (h : chk N T sc e x = true) : ∃ p q pos, x = .Compare p [if neg then CmpOp.NotIn else CmpOp.In] [q] pos ∧ PE X p (tE X ga G W k) ∧ PE X q (tE X ga G W o) ∧ notSet q = true := by
  obtain ⟨p, op, q, pos, rfl, hh⟩ := hc sc x h
  rw [Bool.and_eq_true, Bool.and_eq_true, Bool.and_eq_true] at hh
  obtain ⟨⟨⟨h1, h2⟩, h3⟩, h4⟩ := hh
  have e := of_decide_eq_true h1
  subst e
  exact ⟨p, q, pos, rfl, hk X sc p W C tk h2, ho X sc q W C tk h3, h4⟩
theorem cmp_form {sc : Scope} {e : Ex} {x : Expr} {P : Expr → CmpOp → Expr → Bool} (hP : ∀ p op q pos, chk N T sc e (.Compare p [op] [q] pos) = P p op q) (h0 : ∀ x, (∀ p op q pos, x ≠ .Compare p [op] [q] pos) → chk N T sc e x = false) (h : chk N T sc e x = true) :
    ∃ p op q pos, x = .Compare p [op] [q] pos ∧ P p op q = true := by
  by_cases hx : ∃ p op q pos, x = .Compare p [op] [q] pos
  · obtain ⟨p, op, q, pos, rfl⟩ := hx
    exact ⟨p, op, q, pos, rfl, by rw [← hP p op q pos]; exact h⟩
  · rw [h0 x fun p op q pos e => hx ⟨p, op, q, pos, e⟩] at h
    cases h
end
end LD

set_option Elab.async false
set_option linter.all false
set_option maxRecDepth 100000
set_option maxHeartbeats 2000000
/-! LDo3: in over lists of the store; sorted of data; f-strings; new dicts; makers. -/
namespace LD
open PySem PySem.Spec PyProof.Rows L2 HT
section
variable {ga : GA} {G : GT} {N : List Str} {T : Tb}
/-- a list of the store, as a value of the heap as it stands -/
theorem SI.lstV {K : PySem.W.Frag} {ms : List Addr} {Γ H : Hp} {μ : Store} {l : Nat} {xs : List D} {v : V} (S : SI K ga ms Γ μ H) (el : μ[l]? = some (.lst xs)) (r : Rep K ga ms Γ (.loc l) v) :
    ∃ a vs, v = .ref a ∧ H a = some (.lst vs) ∧ xs.length ≤ sizeLine ∧ Reps K ga ms Γ xs vs ∧ ms[l]? = some a := by
  unfold Rep at r
  obtain ⟨a, rfl, hp⟩ := r
  obtain ⟨vs, z1, z2, z3⟩ := S.st l _ a el hp
  exact ⟨a, vs, rfl, z1, z2, z3, hp⟩
def rLin (neg : Bool) (X : Cx) : R2 := fun y x H Q => (∃ a vs, x = .ref a ∧ SqL X.K H a vs ∧ flatV y = true ∧ vs.all flatV = true ∧ Q (.bl (if neg then !inV y vs else inV y vs)) H) ∨
  ∃ p qs, Dp X.K H y p ∧ Dp X.K H x (.list qs) ∧ SeqAt.shaped p = true ∧ p.depth ≤ 63 ∧ PyData.canLayAll0 qs = true ∧ Q (.bl (if neg then !(qs.any fun y => PyData.eqv y p) else qs.any fun y => PyData.eqv y p)) H
theorem op_lin {X : Cx} (neg : Bool) (hu : X.A.units + 64 < cLine) : OpR X (compareOp (if neg then CmpOp.NotIn else CmpOp.In)) (rLin neg X) := by
  intro pins s σ H y x v u Q I ry rx h
  cases neg with
  | true =>
    rcases h with ⟨a, vs, rfl, h1, h2, h3, q⟩ | ⟨p, qs, h1, h2, h3, h4, h5, q⟩
    · exact op_notIn_seq pins s σ H y _ v u Q I ry rx ⟨a, vs, rfl, .inl h1, h2, h3, q⟩
    · exact op_notInP hu pins s σ H y x v u Q I ry rx ⟨p, qs, h1, .inr h2, h3, h4, h5, q⟩
  | false =>
    rcases h with ⟨a, vs, rfl, h1, h2, h3, q⟩ | ⟨p, qs, h1, h2, h3, h4, h5, q⟩
    · exact op_in_seq pins s σ H y _ v u Q I ry rx ⟨a, vs, rfl, .inl h1, h2, h3, q⟩
    · exact op_inP hu pins s σ H y x v u Q I ry rx ⟨p, qs, h1, .inr h2, h3, h4, h5, q⟩
def linS (neg : Bool) (y x : D) (μ : Store) : Out D := match x with
  | .loc l => (match μ[l]? with
    | some (.lst xs) => opt ((inSeq y xs).map fun b => .bl (if neg then !b else b)) μ
    | _ => .bad)
  | _ => .bad
theorem linS_ok {neg : Bool} {y x d : D} {μ μ' : Store} (h : linS neg y x μ = .ok d μ') : ∃ l xs b, x = .loc l ∧ μ[l]? = some (.lst xs) ∧ inSeq y xs = some b ∧ d = .bl (if neg then !b else b) ∧ μ' = μ := by
  unfold linS at h
  split at h
  · split at h
    · rename_i xs el
      cases e : inSeq y xs with
      | none => rw [e] at h; cases h
      | some b =>
        rw [e] at h
        cases h
        exact ⟨_, xs, b, rfl, el, e, rfl, rfl⟩
    · cases h
  · cases h
theorem linS_exc {neg : Bool} {y x : D} {μ μ' : Store} {c : D} {fs : List (Str × D)} (h : linS neg y x μ = .exc c fs μ') : False := by
  unfold linS at h
  split at h
  · split at h
    · rename_i xs el
      cases e : inSeq y xs with
      | none => rw [e] at h; cases h
      | some b => rw [e] at h; cases h
    · cases h
  · cases h
theorem se_lin (neg : Bool) {k o : Ex} (hk : SE ga G N T k) (ho : SE ga G N T o) : SE ga G N T (.lin neg k o) ∧ ST ga G N T (.lin neg k o) := by
  refine in_both (neg := neg) (k := k) (o := o) (f := linS neg) (r := rLin neg) (fun ρ μ => rfl) (key_in hk ho fun sc x h => ?_) (fun X sc x C h => op_lin neg C.hu) (fun X sc x W C tk h ms Γ H μ σ y x' vy vx Q S ry rx _ hb q => ?_) (fun y x μ d μ' h => ?_) fun y x μ c fs μ' h => linS_exc h
  · cases x with
    | Compare p os qs pos =>
      match os, qs, h with
      | [op], [q], h => exact ⟨p, op, q, pos, rfl, h⟩
      | [], _, h => simp [chk] at h
      | [_], [], h => simp [chk] at h
      | [_], _ :: _ :: _, h => simp [chk] at h
      | _ :: _ :: _, _, h => simp [chk] at h
    | _ => exact absurd h (by simp [chk])
  · obtain ⟨b, μ', e⟩ := hb
    obtain ⟨l, xs, b', rfl, el, ei, ed, rfl⟩ := linS_ok e
    rw [e, ed] at q
    have q : Q (.bl (if neg then !b' else b')) H := PD.bl (show PD X ga ms Γ _ H (.bl (if neg then !b' else b')) Q from q) S
    obtain ⟨a, vs, rfl, h1, h2, h3, _⟩ := SI.lstV S el rx
    rcases inSeq_some ei with ⟨f1, f2, rfl⟩ | ⟨p, qs, e1, e2, s1, s2, s3, rfl⟩
    · refine .inl ⟨a, vs, rfl, SqL.of h1, flat_rep ry f1, flats_rep h3 f2, ?_⟩
      rw [any_rep ry f1 h3 f2]
      exact q
    · have rl : Rep X.K ga ms H (.lst xs) (.ref a) := by
        unfold Rep
        exact ⟨a, vs, rfl, h1, h2, h3.mono S.sub List.prefix_rfl⟩
      exact .inr ⟨p, qs, rep_dp S.sub _ _ _ ry e1, rep_dp (fun _ _ e => e) (.lst _) _ _ rl (by unfold toP; rw [e2]; rfl), s1, s2, s3, q⟩
  · obtain ⟨_, _, b, _, _, _, rfl, _⟩ := linS_ok h
    exact ⟨_, rfl⟩
/-! ### x in o -/
theorem se_oin (c f : Str) (neg : Bool) {k o : Ex} (hk : SE ga G N T k) (ho : SE ga G N T o) : SE ga G N T (.oin c f neg k o) ∧ ST ga G N T (.oin c f neg k o) := by
  have form : ∀ (sc : Scope) (x : Expr), chk N T sc (.oin c f neg k o) x = true → ∃ p op q pos, x = .Compare p [op] [q] pos ∧ (decide (op = if neg then CmpOp.NotIn else CmpOp.In) && chk N T sc k p && chk N T sc o q && notSet q && decide ((c, ("__contains__" : Str), f, 2) ∈ T.mt)) = true := fun sc x h => by
    cases x with
    | Compare p os qs pos =>
      match os, qs, h with
      | [op], [q], h => exact ⟨p, op, q, pos, rfl, h⟩
      | [], _, h => simp [chk] at h
      | [_], [], h => simp [chk] at h
      | [_], _ :: _ :: _, h => simp [chk] at h
      | _ :: _ :: _, _, h => simp [chk] at h
    | _ => exact absurd h (by simp [chk])
  have mem : ∀ (sc : Scope) (x : Expr), chk N T sc (.oin c f neg k o) x = true → (c, ("__contains__" : Str), f, 2) ∈ T.mt := fun sc x h => by
    obtain ⟨p, op, q, pos, rfl, hh⟩ := form sc x h
    exact of_decide_eq_true (Bool.and_eq_true_iff.mp hh).2
  refine in_both (neg := neg) (k := k) (o := o) (f := fun y x μ => if isObj μ x c then inB neg (G.call f [x, y] μ) else .bad) (r := fun X y x H Q => ∃ a dx fs, x = .ref a ∧ H a = some (.ins (ga c) dx fs) ∧ spC X.K ga (G.call f) [.ref a, y] H (fun v H2 => ∃ b : Bool, v = .bl b ∧ Q (.bl (if neg then !b else b)) H2) (fun _ _ _ => False))
    (fun ρ μ => rfl) (key_in hk ho fun sc x h => ?_) (fun X sc x C h => ?_) (fun X sc x W C tk h ms Γ H μ σ y x' vy vx Q S ry rx _ hb q => ?_) (fun y x μ d μ' h => ?_) fun y x μ c' fs μ' h => ?_
  · obtain ⟨p, op, q, pos, rfl, hh⟩ := form sc x h
    exact ⟨p, op, q, pos, rfl, (Bool.and_eq_true_iff.mp hh).1⟩
  · obtain ⟨k', a, fd, ps, hc, hm, hl, F, hr, hb⟩ := (C.mt c _ f _ (mem sc x h)).ex
    exact op_oin hm F (hr.mono (by omega)) hb
  · split at q
    · rename_i hi
      obtain ⟨l, fs, rfl, el⟩ := isObj_some hi
      obtain ⟨a', dx, ys, rfl, _, z1, z2, z3⟩ := SI.obj S el rx
      refine ⟨a', dx, ys, rfl, z1, noX_sp (F := inB neg) S (Reps.cons rx (Reps.cons ry Reps.nil)) q rfl (fun _ _ _ => rfl) fun d μ2 => ?_⟩
      cases d with
      | bl b =>
        refine .inr fun v H' ms' Γ' A' r' q' => ?_
        unfold Rep at r'
        exact ⟨b, r', PD.bl (show PD X ga ms' Γ' μ2 H' (.bl (if neg then !b else b)) Q from q') A'.si⟩
      | _ => exact .inl rfl
    · exact q.elim
  · split at h
    · unfold inB at h
      split at h
      · cases h; exact ⟨_, rfl⟩
      · cases h
    · cases h
  · split at h
    · unfold inB at h
      split at h <;> cases h
    · cases h
/-! ### {} -/
theorem se_newn : SE ga G N T .newn := by
  intro X sc x W C tk h
  have key : ∃ pos, x = .Dict [] [] pos := by
    cases x with
    | Dict ks vs pos =>
      cases ks with
      | nil =>
        cases vs with
        | nil => exact ⟨pos, rfl⟩
        | cons _ _ => exact absurd h (by simp [chk])
      | cons _ _ => exact absurd h (by simp [chk])
    | _ => exact absurd h (by simp [chk])
  obtain ⟨pos, rfl⟩ := key
  refine pe_dnewN.mono fun σ H Q ⟨ms, Γ, μ, ρ, S, R, q⟩ => fun p ep hp hs => ?_
  have q : LD.PO X ga ms Γ H (.ok (.loc μ.length) (μ ++ [.dcn []])) σ W Q := q
  obtain ⟨A, r⟩ := After.newS (so := .dcn []) (o := .ext (DN X.w p [] ep)) S hp ⟨[], ep, by rw [upd_same, C.hw], Nat.zero_le _, hs, rfl, List.nodup_nil⟩
  exact q _ _ _ _ A r
/-! ### C(..) -/
theorem dfl_rep {K : PySem.W.Frag} {ms : List Addr} {Γ : Hp} : ∀ ds : List Dfl, Reps K ga ms Γ (ds.map Dfl.d) (ds.map Dfl.v)
  | [] => Reps.nil
  | d :: ds => Reps.cons (by cases d <;> (unfold Dfl.d Rep; rfl)) (dfl_rep ds)
theorem se_new (c f : Str) {es : Exs} (ds : List Dfl) (hs : SA ga G N T es) : SE ga G N T (.new c f es ds) := by
  intro X sc x W C tk h
  cases x with
  | Call g xs kws pos =>
    cases g with
    | Name y py =>
      cases kws with
      | nil =>
        have h : (decide (y = c) && decide ((c, f, xs.length + 1 + ds.length, ds) ∈ T.nw) && glC sc y && okName y && chks N T sc es xs) = true := h
        simp only [Bool.and_eq_true] at h
        obtain ⟨⟨⟨⟨h1, h2⟩, h3⟩, h4⟩, h5⟩ := h
        have e := of_decide_eq_true h1
        subst e
        obtain ⟨k, a, fd, ps, dv, hg, M, hl, F, hr, hb, hd⟩ := (C.nw y f _ ds (of_decide_eq_true h2)).ex
        have hp : ∀ σ, PassesAt (L2.CX X.prog X.w) X σ (WE W σ) := fun σ => passAt tk σ
        have main : ∀ σ H Q, tE X ga G W (.new y f es ds) σ H Q → tMakeS (ga y) (spC X.K ga (G.call f)) (ds.map Dfl.v) (WE W) (tA X ga G W es) σ H Q := fun σ H Q ⟨ms, Γ, μ, ρ, S, R, q⟩ => by
          refine stepA S R q fun vs μ1 us H1 ms1 Γ1 A r R1 q1 => fun p dx hp hdx ne => ?_
          have B0 := After.layOwn (o := HO.own p) A.si hdx
          have hp2 : upd H1 dx (.own p) p = none := by rw [upd_ne (Ne.symm ne)]; exact hp
          obtain ⟨B1, rl⟩ := After.newS (so := .obj y []) (o := .ins (ga y) dx []) B0.si hp2 ⟨dx, [], upd_same, Nat.zero_le _, by unfold RepF; rfl⟩
          have B := B0.trans B1
          refine ⟨_, _, _, .loc μ1.length :: (vs ++ ds.map Dfl.d), B.si, Reps.cons rl ((r.mono B.le B.pre).append (dfl_rep ds)), ?_⟩
          cases e : G.call f (.loc μ1.length :: (vs ++ ds.map Dfl.d)) (μ1 ++ [.obj y []]) with
          | bad => rw [e] at q1; exact q1.elim
          | exc cc fs μ2 =>
            rw [e] at q1
            exact fun cls dd H' ms' Γ' A' r' => q1 cls dd H' ms' Γ' (B.trans A') r'
          | ok d μ2 =>
            rw [e] at q1
            have q1 : PO X ga ms1 Γ1 H1 (if isNon d then .ok (.loc μ1.length) μ2 else .bad) σ W Q := q1
            intro v H' ms' Γ' A' r'
            split at q1
            · rename_i hn
              cases d with
              | non =>
                unfold Rep at r'
                exact ⟨r', q1 _ _ _ _ (B.trans A') (rl.mono A'.le A'.pre)⟩
              | _ => cases hn
            · exact q1.elim
        cases xs with
        | nil =>
          refine (pe_makeS0 M F (hr.mono (by omega)) (C.gl _ h3) hg hb hd hp (okName_debug h4).1).mono fun σ H Q hq => ?_
          cases es with
          | nil =>
            obtain ⟨ms, Γ, μ, ρ, S, R, z⟩ := main σ H Q hq
            exact z [] H ms Γ (After.refl S) Reps.nil
          | cons e es => simp [chks] at h5
        | cons x xs =>
          have st := chks_star h5
          have st2 := Bool.and_eq_true_iff.mp (show (notStar x && xs.all notStar) = true from st)
          exact (pe_makeS M F (hr.mono (by omega)) (C.gl _ h3) hg hb hd hp (hs X sc _ W C tk h5) (okName_debug h4).1 (star_cons x xs X.env st2.1) (plain_any st2.2)).mono main
      | cons _ _ => exact absurd h (by simp [chk])
    | _ => exact absurd h (by simp [chk])
  | _ => exact absurd h (by simp [chk])
end
end LD

set_option Elab.async false
set_option linter.all false
set_option maxRecDepth 100000
set_option maxHeartbeats 2000000
/-! LDo4: sorted of data; f-strings. -/
namespace LD
open PySem PySem.Spec PyProof.Rows L2 HT PySem.W
section
variable {X : Cx}
/-- items that stand for data -/
def Des (X : Cx) (H : Hp) (R : V → D → Prop) (vs : List V) (bs : List D) : Prop := EachIs (fun v b => R v b ∧ ∃ p, toP b = some p ∧ Dp X.K H v p) vs bs
def SortG (X : Cx) (H : Hp) (bs : List D) (R : V → D → Prop) (Q : VK) : Prop := (∃ ps, toPs bs = some ps ∧ sortOk ps = true) ∧ bs.length ≤ sizeLine ∧ ∀ out p, H p = none → out.length = bs.length → EachIs R out (bs.mergeSort (dataLe false encD)) → Q (.ref p) (upd H p (.lst out))
theorem toPs_map : ∀ {bs : List D} {ps : List PyData}, toPs bs = some ps → ps = bs.map encD
  | [], ps, h => by cases h; rfl
  | b :: bs, ps, h => by
    have h : (match toP b, toPs bs with
      | some p, some ps => some (p :: ps)
      | _, _ => none) = some ps := h
    split at h
    · rename_i p qs e1 e2
      cases h
      rw [List.map_cons, ← toPs_map e2]
      have : encD b = p := by unfold encD; rw [e1]; rfl
      rw [this]
    · cases h
theorem sortOk_ok {ps : List PyData} (h : sortOk ps = true) : AllAlike ps ∧ Sortable ps ∧ ∀ p ∈ ps, p.depth ≤ 40 := by
  unfold sortOk at h
  rw [Bool.and_eq_true, Bool.and_eq_true, Bool.or_eq_true] at h
  obtain ⟨⟨h1, h2⟩, h3⟩ := h
  refine ⟨fun d hd d' hd' => ?_, ?_, fun p hp => of_decide_eq_true (List.all_eq_true.mp h2 p hp)⟩
  · exact List.all_eq_true.mp (List.all_eq_true.mp h1 d hd) d' hd'
  · rcases h3 with h3 | h3
    · refine .inl fun d hd => ?_
      have z := List.all_eq_true.mp h3 d hd
      split at z
      · exact ⟨_, _, rfl⟩
      · cases z
    · refine .inr fun d hd => ?_
      have z := List.all_eq_true.mp h3 d hd
      refine ⟨fun e => ?_, fun xs e => ?_⟩
      · rw [e] at z; cases z
      · rw [e] at z; cases z
theorem des_vals {pins : List (Addr × Obj)} {σ : L2.St} {s : Shared} {H : Hp} {R : V → D → Prop} (I : Inv X pins σ H s) : ∀ {vs : List V} {us : List Value} {bs : List D}, Vals vs us → Des X H R vs bs → EachIs (fun u b => (∃ v, L2.RelV v u ∧ R v b) ∧ ∃ as, Reads s.heap u (encD b) as) us bs
  | [], _, _, r, d => by
    cases r
    cases d
    exact .nil
  | v :: vs, _, _, r, d => by
    cases r with
    | cons r1 r2 =>
      cases d with
      | cons d1 d2 =>
        obtain ⟨h1, p, e, h2⟩ := d1
        refine .cons ⟨⟨v, r1, h1⟩, ?_⟩ (des_vals I r2 d2)
        have e2 : ∀ b, toP b = some p → encD b = p := fun b e => by unfold encD; rw [e]; rfl
        rw [e2 _ e]
        exact Dp.reads I p v _ h2 r1
theorem vals_back {R : V → D → Prop} : ∀ {us : List Value} {bs : List D}, EachIs (fun u b => ∃ v, L2.RelV v u ∧ R v b) us bs → ∃ vs, Vals vs us ∧ EachIs R vs bs
  | _, _, .nil => ⟨[], .nil, .nil⟩
  | _, _, .cons ⟨v, h1, h2⟩ t => by
    obtain ⟨vs, g1, g2⟩ := vals_back t
    exact ⟨v :: vs, .cons h1 g1, .cons h2 g2⟩
theorem sort_end {pins : List (Addr × Obj)} {σ : L2.St} {s : Shared} {H : Hp} {R : V → D → Prop} {Q : VK} {bs : List D} (g : SortG X H bs R Q) {h' : Heap} {tk : Nat} {a : Addr} {out : List Value} (I : Inv X pins σ H s) (ha : s.heap.objs.size ≤ a) (hk : ∀ b o, s.heap.get? b = some o → h'.get? b = some o)
    (hl : out.length = bs.length) (e : EachIs (fun u b => ∃ v, L2.RelV v u ∧ R v b) out (bs.mergeSort (dataLe false encD))) (hat : ∃ n, h'.get? a = some (seqObj "list" out.toArray n)) : EP X pins σ Q (.ref a) { s with heap := h', toks := tk } := by
  obtain ⟨_, hz, q⟩ := g
  obtain ⟨vs, g1, g2⟩ := vals_back e
  obtain ⟨n, hat⟩ := hat
  refine ⟨.ref a, upd H a (.lst vs), I.laid (t' := tk) hk ha ?_, rfl, q vs a (I.hok.fresh ha) (by rw [g1.length]; exact hl) g2⟩
  exact ⟨by rw [g1.length, hl]; exact hz, out, n, g1, hat⟩
/-- sorted(xs), sorted(d): of a list, of a dict with tuple keys -/
theorem call_sortG (hu : X.A.units + 64 < cLine) (hcalm : X.calm = true) : CallR X (.builtin "sorted") (fun xs H Q => ∃ a bs R, xs = [.ref a] ∧ SortG X H bs R Q ∧ ((∃ vs, SqL X.K H a vs ∧ Des X H R vs bs) ∨ ∃ es, NOk X H a es ∧ Des X H R (es.map fun x => .ref x.2.1) bs)) := by
  intro pins s σ H xs us Q I r h
  obtain ⟨a, bs, R, rfl, g, h⟩ := h
  obtain ⟨u, rfl, rx⟩ := vals1 r
  cases rx
  obtain ⟨⟨ps, e1, e2⟩, hz, q⟩ := id g
  have e3 := toPs_map e1
  obtain ⟨hal, hks, hdp⟩ := sortOk_ok e2
  rw [e3] at hal hks hdp
  have hd : ∀ b, b ∈ bs → (encD b).depth ≤ 40 := fun b hb => hdp _ (List.mem_map.mpr ⟨b, hb, rfl⟩)
  rcases h with ⟨vs, hl, d⟩ | ⟨es, hl, d⟩
  · obtain ⟨its, rv, pl, hz2⟩ := I.list hl
    have e := des_vals I rv d
    refine sorted_data (bs := bs) (enc := encD) (R := fun u b => ∃ v, L2.RelV v u ∧ R v b) pl.isList (e.mono fun _ _ z => z.1) (e.mono fun _ _ z => z.2) hal hks hz (fun b hb => by have := hd b hb; omega) fun out ho he => ?_
    exact sort_end g I (Nat.le_succ _) (fun b o q => sortedAll_old q) ho he (sortedAll_at _ _ _)
  · obtain ⟨ep, hl0⟩ := hl.1
    obtain ⟨⟨o, esd, g1, g2, g3, g4⟩, _, _⟩ := I.hok a _ hl0
    have hn : esd.size = es.length := by rw [← Array.length_toList, g4, List.length_map]
    refine Calls.call_function_entry PyProof.Rows.kind_sorted PyProof.Rows.plain_sorted PyProof.Rows.entry_sorted (PyProof.Rows.args_sorted1 _) ?_
    unfold Builtin.«sorted»
    refine wpAny_bind (m := checkCount "sorted" 1 1 _) (wpAny_pure ?_)
    refine wpAny_bind (PySem.W.kdu_collect (A := X.A.in1) (kdl_raw (prog := X.prog) (w := X.w) (o := o) (es := esd) (ep := ep) hl.2.2.1 g2 g3) (I.ok.hd hcalm) g1 (by rw [hn]; exact hl.2.1) fun h' tk acc hk hacc => ?_)
    have I1 : Inv X pins σ H { s with heap := h', toks := tk } := I.kept hk
    have rv : Vals (es.map fun x => V.ref x.2.1) acc.toList := by
      have e : acc.toList = es.map fun x => Value.ref x.2.1 := by
        apply List.ext_getElem?
        intro j
        rw [List.getElem?_map]
        cases ej : acc.toList[j]? with
        | none =>
          have : acc.toList.length ≤ j := List.getElem?_eq_none_iff.mp ej
          rw [Array.length_toList, hacc.1, hn] at this
          rw [List.getElem?_eq_none this]
          rfl
        | some v =>
          obtain ⟨en, h1, h2⟩ := hacc.2 j v (by rw [← Array.getElem?_toList]; exact ej)
          rw [← Array.getElem?_toList, g4, List.getElem?_map] at h1
          cases ex : es[j]? with
          | none => rw [ex] at h1; cases h1
          | some x =>
            rw [ex] at h1
            cases h1
            rw [h2]
            rfl
      rw [e]
      have key : ∀ l : List (NestedKey × Addr × Value), Vals (l.map fun x => V.ref x.2.1) (l.map fun x => Value.ref x.2.1) := fun l => by
        induction l with
        | nil => exact .nil
        | cons x l ih => exact .cons rfl ih
      exact key es
    have e := des_vals I1 rv d
    have hal' : acc.toList.length = bs.length := e.length
    refine wpAny_bind (wpAny_newList ?_ (by rw [hal']; exact hz))
    have hoL : (h'.push (seqObj "list" acc.toList.toArray 0)).get? h'.objs.size = some (seqObj "list" acc.toList.toArray 0) := Heap.get?_push_size _ rfl
    show wpAny _ _ _ _ _ { s with heap := h'.push (seqObj "list" acc.toList.toArray 0), toks := tk }
    have old : ∀ b o, h'.get? b = some o → (sortingHeap (h'.push (seqObj "list" acc.toList.toArray 0)) h'.objs.size acc.toList).get? b = some o := fun b o q => sortingHeap_old (Nat.ne_of_lt (Heap.lt_size q)) (Heap.get?_push_of_some _ q)
    have er' : EachIs (fun v b => ∃ as, Reads (sortingHeap (h'.push (seqObj "list" acc.toList.toArray 0)) h'.objs.size acc.toList) v (encD b) as) acc.toList bs := e.mono fun _ _ ⟨_, as, r⟩ => ⟨as, PyProof.Rows.Reads.keeps old r⟩
    refine wpAny_bind (wpAny_holding (wpAny_call_entry PyProof.Rows.slot_list_sort ⟨_, hoL, rfl⟩ PyProof.Rows.entry_list_sort
      (list_sort_vals (κ := dataKind (sortingHeap (h'.push (seqObj "list" acc.toList.toArray 0)) h'.objs.size acc.toList) (bs.map encD)) (s := { s with heap := h'.push (seqObj "list" acc.toList.toArray 0), toks := tk }) hoL
        (SortsAt.data (s := { s with heap := sortingHeap (h'.push (seqObj "list" acc.toList.toArray 0)) h'.objs.size acc.toList, toks := tk }) (each_map (R := fun v d => ∃ as, Reads (sortingHeap (h'.push (seqObj "list" acc.toList.toArray 0)) h'.objs.size acc.toList) v d as) encD er') hal hks (bound_map fun b hb => by
          have := hd b hb
          show X.A.in1.in1.units + _ < _
          rw [Around.in1_units, Around.in1_units]
          omega)) (by rw [hal']; exact hz) ⟨_, rfl, ?_⟩) (PyProof.Rows.args_list_sort _)))
    have hs := sortVals_data (h' := sortingHeap (h'.push (seqObj "list" acc.toList.toArray 0)) h'.objs.size acc.toList) (enc := encD) (R := fun u b => ∃ v, L2.RelV v u ∧ R v b) false (e.mono fun _ _ z => z.1) er' hal
    refine wpAny_pure ⟨_, rfl, ?_⟩
    refine sort_end (s := { s with heap := h', toks := tk }) g I1 (Nat.le_refl _) (fun b o q => ?_) (by rw [sortVals_length false rfl]; exact hal') hs (PyProof.Rows.sortedHeap_at hoL)
    have hb : b < h'.objs.size := Heap.lt_size q
    rw [PyProof.Rows.sortedHeap_old (Nat.ne_of_lt hb) (by rw [size_push']; exact Nat.lt_succ_of_lt hb)]
    exact Heap.get?_push_of_some _ q
end
section
variable {ga : GA} {G : GT} {N : List Str} {T : Tb}
theorem des_of {X : Cx} {ms : List Addr} {Γ H : Hp} (le : Same Γ H) : ∀ {bs : List D} {vs : List V} {ps : List PyData}, Reps X.K ga ms Γ bs vs → toPs bs = some ps → Des X H (fun v b => Rep X.K ga ms Γ b v) vs bs
  | [], vs, _, r, _ => by rw [r.nil_iff]; exact .nil
  | b :: bs, vs, ps, r, e => by
    obtain ⟨v, r', rfl, h1, h2⟩ := r.cons_iff
    have e : (match toP b, toPs bs with
      | some p, some ps => some (p :: ps)
      | _, _ => none) = some ps := e
    split at e
    · rename_i p qs e1 e2
      exact .cons ⟨h1, p, e1, rep_dp le _ _ _ h1 e1⟩ (des_of le h2 e2)
    · cases e
theorem each_reps {K : PySem.W.Frag} {ms : List Addr} {Γ : Hp} : ∀ {vs : List V} {bs : List D}, EachIs (fun v b => Rep K ga ms Γ b v) vs bs → Reps K ga ms Γ bs vs
  | _, _, .nil => Reps.nil
  | _, _, .cons h t => Reps.cons h (each_reps t)
theorem sortT_some {xs ys : List D} (h : sortT xs = some ys) : ∃ ps, toPs xs = some ps ∧ sortOk ps = true ∧ ys = xs.mergeSort (dataLe false encD) := by
  unfold sortT at h
  split at h
  · rename_i ps e
    split at h
    · rename_i e2
      cases h
      exact ⟨ps, e, e2, rfl⟩
    · cases h
  · cases h
theorem sortG_of {X : Cx} {ms : List Addr} {Γ H : Hp} {μ : Store} {xs ys : List D} {Q : VK} (S : SI X.K ga ms Γ μ H) (h : sortT xs = some ys) (hz : xs.length ≤ sizeLine) (q : PD X ga ms Γ μ H (.lst ys) Q) : SortG X H xs (fun v b => Rep X.K ga ms Γ b v) Q := by
  obtain ⟨ps, e1, e2, rfl⟩ := sortT_some h
  refine ⟨⟨ps, e1, e2⟩, hz, fun out p hp hl he => ?_⟩
  exact PD.newL q S (each_reps he) (by rw [List.length_mergeSort]; exact hz) p hp
theorem repN_keys {K : PySem.W.Frag} {ms : List Addr} {Γ : Hp} : ∀ {kvs : List (D × D)} {xs : List (NestedKey × Addr × Value)}, RepN K ga ms Γ kvs xs → Reps K ga ms Γ (kvs.map (·.1)) (xs.map fun x => V.ref x.2.1)
  | [], xs, r => by rw [show xs = [] from r]; exact Reps.nil
  | (k, d) :: kvs, xs, r => by
    obtain ⟨q, b, u, v, r', rfl, h1, h2, h3, h4, h5⟩ := r
    exact Reps.cons h2 (repN_keys h5)
theorem se_lsort {a : Ex} (ha : SE ga G N T a) : SE ga G N T (.lsort a) := by
  intro X sc x W C tk h
  cases x with
  | Call g xs kws pos =>
    cases g with
    | Name y py =>
      match xs, kws, h with
      | [z], [], h =>
        obtain ⟨h1, h2, h3, h4⟩ := and4 (show (decide (y = ("sorted" : Str)) && glC sc y && chk N T sc a z && notStar z) = true from h)
        have e := of_decide_eq_true h1
        subst e
        obtain ⟨b1, b2, b3, b4⟩ := blt_boot .sorted1
        refine (pe_callV (.inl ⟨_, rfl⟩) (call_sortG C.hu C.calm) (C.gl _ h2) (C.blt _ b1) b4 (pa_cons (ha X sc z W C tk h3) pa_nil (star_cons z [] X.env h4)) b2 b3 (star_cons z [] X.env h4) (plain_any rfl)).mono fun σ H Q ⟨ms, Γ, μ, ρ, S, R, q⟩ => ?_
        refine step S R q fun d μ1 v H1 ms1 Γ1 A r R1 q1 => ?_
        have fin : ∀ xs ys, sortT xs = some ys → xs.length ≤ sizeLine → PD X ga ms1 Γ1 μ1 H1 (.lst ys) Q → SortG X H1 xs (fun v b => Rep X.K ga ms1 Γ1 b v) Q := fun xs ys h hz q => sortG_of A.si h hz q
        cases d with
        | loc l =>
          have q1 : PO X ga ms1 Γ1 H1 (match μ1[l]? with
            | some (.lst xs) => opt ((sortT xs).map .lst) μ1
            | some (.dcn kvs) => opt ((sortT (kvs.map (·.1))).map .lst) μ1
            | _ => .bad) σ W Q := q1
          split at q1
          · rename_i xs el
            obtain ⟨d, e, q2⟩ := PO.opt q1
            obtain ⟨ys, e1, rfl⟩ := Option.map_eq_some_iff.mp e
            obtain ⟨a, vs, rfl, g1, g2, g3, _⟩ := SI.lstV A.si el r
            obtain ⟨ps, e2, _⟩ := sortT_some e1
            exact ⟨a, xs, _, rfl, fin xs ys e1 g2 q2, .inl ⟨vs, SqL.of g1, des_of A.si.sub g3 e2⟩⟩
          · rename_i kvs el
            obtain ⟨d, e, q2⟩ := PO.opt q1
            obtain ⟨ys, e1, rfl⟩ := Option.map_eq_some_iff.mp e
            unfold Rep at r
            obtain ⟨a, rfl, hp⟩ := r
            obtain ⟨es, g1, g2⟩ := nok_of C.hw A.si el hp
            obtain ⟨ps, e2, _⟩ := sortT_some e1
            exact ⟨a, _, _, rfl, fin _ ys e1 (by rw [List.length_map, repN_len g2]; exact g1.2.1) q2, .inr ⟨es, g1, des_of A.si.sub (repN_keys g2) e2⟩⟩
          · exact q1.elim
        | lst xs =>
          have q1 : PO X ga ms1 Γ1 H1 (opt ((sortT xs).map .lst) μ1) σ W Q := q1
          obtain ⟨d, e, q2⟩ := PO.opt q1
          obtain ⟨ys, e1, rfl⟩ := Option.map_eq_some_iff.mp e
          unfold Rep at r
          obtain ⟨a, vs, rfl, g1, g2, g3⟩ := r
          obtain ⟨ps, e2, _⟩ := sortT_some e1
          exact ⟨a, xs, _, rfl, fin xs ys e1 g2 q2, .inl ⟨vs, SqL.of (A.si.sub _ _ g1), des_of A.si.sub g3 e2⟩⟩
        | _ => exact False.elim q1
      | [], _, h => simp [chk] at h
      | [_], _ :: _, h => simp [chk] at h
      | _ :: _ :: _, _, h => simp [chk] at h
    | _ => exact absurd h (by simp [chk])
  | _ => exact absurd h (by simp [chk])
/-! ### f-strings -/
theorem chkF_con {sc : Scope} {e : Ex} {es : Exs} {z : Str} {j : Nat} {p : Pos} {xs : List Expr} (h : chkF N T sc (.cons e es) (.Constant (.str z) j p :: xs) = true) : ∃ a, e = .con (.str a) ∧ chk N T sc (.con (.str a)) (.Constant (.str z) j p) = true ∧ chkF N T sc es xs = true := by
  obtain ⟨h0, h1, h2⟩ := and3 (show (isCS e && chk N T sc e (.Constant (.str z) j p) && chkF N T sc es xs) = true from h)
  cases e with
  | con d =>
    cases d with
    | str a => exact ⟨a, rfl, h1, h2⟩
    | _ => cases h0
  | _ => cases h0
def fsT (X : Cx) (ga : GA) (G : GT) (W : WX) : Exs → List Expr → List TE
  | .cons e es, .FormattedValue _ _ _ _ :: xs => tFmt (tE X ga G W e) :: fsT X ga G W es xs
  | .cons e es, _ :: xs => tE X ga G W e :: fsT X ga G W es xs
  | _, _ => []
theorem fs_pj {X : Cx} {sc : Scope} {W : WX} (C : GC X ga G N T sc) (tk : Takes X W) : ∀ {es : Exs} {xs : List Expr}, SAll ga G N T es → chkF N T sc es xs = true → PJ X xs (fsT X ga G W es xs)
  | .nil, [], _, _ => .nil
  | .nil, _ :: _, _, h => by simp [chkF] at h
  | .cons e es, [], _, h => by simp [chkF] at h
  | .cons e es, x :: xs, hs, h => by
    cases x with
    | Constant c j p =>
      cases c with
      | str z =>
        obtain ⟨a, rfl, h1, h2⟩ := chkF_con h
        exact .cons (hs.1 X sc _ W C tk h1) (fs_pj C tk hs.2 h2)
      | _ => exact absurd h (by simp [chkF])
    | FormattedValue y c sp p =>
      cases sp with
      | none =>
        obtain ⟨h1, h2, h3⟩ := and3 (show (decide (c = -1) && chk N T sc e y && chkF N T sc es xs) = true from h)
        have e1 := of_decide_eq_true h1
        subst e1
        exact .cons (pe_fmt (hs.1 X sc y W C tk h2)) (fs_pj C tk hs.2 h3)
      | some _ => exact absurd h (by simp [chkF])
    | _ => exact absurd h (by simp [chkF])
theorem fs_run {X : Cx} {sc : Scope} {W : WX} : ∀ {es : Exs} {xs : List Expr} {acc : Str} {ms : List Addr} {Γ : Hp} {μ : Store} {H : Hp} {σ : L2.St} {ρ : Env} {Q : VK}, chkF N T sc es xs = true → SI X.K ga ms Γ μ H → ER X.K ga ms Γ H ρ σ → acc.length ≤ LINE →
    PO X ga ms Γ H ((noX (evs G es ρ μ)).bind fun ds μ => opt ((joinF acc ds).map .str) μ) σ W Q → tJs (fsT X ga G W es xs) acc σ H fun out H1 => Q (.str out) H1
  | .nil, [], acc, ms, Γ, μ, H, σ, ρ, Q, _, S, R, hz, q => by
    have q : PO X ga ms Γ H (.ok (.str acc) μ) σ W Q := q
    exact PD.str q S (by rw [← line_eq]; exact hz)
  | .nil, _ :: _, acc, ms, Γ, μ, H, σ, ρ, Q, h, _, _, _, _ => by simp [chkF] at h
  | .cons e es, [], acc, ms, Γ, μ, H, σ, ρ, Q, h, _, _, _, _ => by simp [chkF] at h
  | .cons e es, x :: xs, acc, ms, Γ, μ, H, σ, ρ, Q, h, S, R, hz, q => by
    have he : evs G (.cons e es) ρ μ = (ev G e ρ μ).bind fun d μ => (evs G es ρ μ).bind fun ds μ => .ok (d :: ds) μ := rfl
    rw [he] at q
    -- what the first one is, and the rest
    have main : ∀ (T1 : V → Hp → Prop), (∀ d μ1 v H1 ms1 Γ1 s, After X.K ga ms Γ H ms1 Γ1 μ1 H1 → Rep X.K ga ms1 Γ1 d v → ER X.K ga ms1 Γ1 H1 ρ σ → ev G e ρ μ = .ok d μ1 → fmtD d = some s → (acc ++ s).length ≤ LINE →
        PO X ga ms1 Γ1 H1 ((noX (evs G es ρ μ1)).bind fun ds μ => opt ((joinF (acc ++ s) ds).map .str) μ) σ W Q → T1 v H1) → tE X ga G W e σ H T1 := fun T1 k => by
      refine ⟨ms, Γ, μ, ρ, S, R, ?_⟩
      cases e1 : ev G e ρ μ with
      | ok d μ1 =>
        rw [e1] at q
        have q : PO X ga ms Γ H ((noX ((evs G es ρ μ1).bind fun ds μ => .ok (d :: ds) μ)).bind fun ds μ => opt ((joinF acc ds).map .str) μ) σ W Q := q
        intro v H1 ms1 Γ1 A r
        cases e2 : evs G es ρ μ1 with
        | ok ds μ2 =>
          rw [e2] at q
          have q : PO X ga ms Γ H (opt ((joinF acc (d :: ds)).map .str) μ2) σ W Q := q
          have q0 := q
          have e3 : joinF acc (d :: ds) = (match fmtD d with
            | some s => if (acc ++ s).length ≤ LINE then joinF (acc ++ s) ds else none
            | none => none) := rfl
          rw [e3] at q
          cases e4 : fmtD d with
          | none => rw [e4] at q; exact q.elim
          | some s =>
            rw [e4] at q
            by_cases hl : (acc ++ s).length ≤ LINE
            · refine k d μ1 v H1 ms1 Γ1 s A r (R.mono A) e1 e4 hl ?_
              rw [e2]
              have q : PO X ga ms Γ H (opt ((if (acc ++ s).length ≤ LINE then joinF (acc ++ s) ds else none).map .str) μ2) σ W Q := q
              rw [if_pos hl] at q
              exact PO.shift q A
            · have q : PO X ga ms Γ H (opt ((if (acc ++ s).length ≤ LINE then joinF (acc ++ s) ds else none).map .str) μ2) σ W Q := q
              rw [if_neg hl] at q
              exact q.elim
        | exc c fs μ2 => rw [e2] at q; exact q.elim
        | bad => rw [e2] at q; exact q.elim
      | exc c fs μ1 => rw [e1] at q; exact q.elim
      | bad => rw [e1] at q; exact q.elim
    cases x with
    | Constant c j p =>
      cases c with
      | str z =>
        obtain ⟨a, rfl, h1, h2⟩ := chkF_con h
        refine main _ fun d μ1 v H1 ms1 Γ1 s A r R1 ev0 ef hl q1 => ?_
        have ed : Out.ok (D.str a) μ = .ok d μ1 := ev0
        cases ed
        obtain rfl : a = s := Option.some.inj ef
        unfold Rep at r
        exact ⟨a, r.1, by rw [← line_eq]; exact hl, fs_run h2 A.si R1 hl q1⟩
      | _ => exact absurd h (by simp [chkF])
    | FormattedValue y c sp p =>
      cases sp with
      | none =>
        obtain ⟨h1, h2, h3⟩ := and3 (show (decide (c = -1) && chk N T sc e y && chkF N T sc es xs) = true from h)
        refine main _ fun d μ1 v H1 ms1 Γ1 s A r R1 _ ef hl q1 => ?_
        have fin : tJs (fsT X ga G W es xs) (acc ++ s) σ H1 fun out H1 => Q (.str out) H1 := fs_run h3 A.si R1 hl q1
        cases d with
        | str z =>
          obtain rfl : z = s := Option.some.inj ef
          unfold Rep at r
          exact .inl ⟨z, r.1, r.2, z, rfl, by rw [← line_eq]; exact hl, fin⟩
        | int i =>
          have ef : (if i.natAbs.log2 < 1920 then some (toString i : Str) else none) = some s := ef
          split at ef
          · rename_i hi
            cases ef
            unfold Rep at r
            exact .inr ⟨i, r, hi, _, rfl, by rw [← line_eq]; exact hl, fin⟩
          · cases ef
        | _ => cases ef
      | some _ => exact absurd h (by simp [chkF])
    | _ => exact absurd h (by simp [chkF])
theorem se_fstr {es : Exs} (hs : SAll ga G N T es) : SE ga G N T (.fstr es) := by
  intro X sc x W C tk h
  cases x with
  | JoinedStr xs pos =>
    obtain ⟨h1, h2⟩ := Bool.and_eq_true_iff.mp (show (chkF N T sc es xs && decide (2 ≤ xs.length)) = true from h)
    match xs, h1, of_decide_eq_true h2 with
    | v1 :: v2 :: rest, h1, _ =>
      refine (pe_joined (fs_pj C tk hs h1)).mono fun σ H Q ⟨ms, Γ, μ, ρ, S, R, q⟩ => ?_
      exact fs_run h1 S R (Nat.zero_le _) q
    | [_], _, h => exact absurd h (by simp)
    | [], _, h => exact absurd h (by simp)
  | _ => exact absurd h (by simp [chk])
end
end LD

set_option Elab.async false
set_option linter.all false
set_option maxRecDepth 100000
set_option maxHeartbeats 2000000
/-! LD8: targets, what is walked, comprehensions. -/
namespace LD
open PySem PySem.Spec PyProof.Rows L2 HT
/-! ### targets -/
def gNames : List Nat → TGs
  | [] => gNil
  | i :: is => gCons (gName i) (gNames is)
def gT (K : PySem.W.Frag) : Tg → TG
  | .name i => gName i
  | .tup is => gTup K is.length (gNames is)
theorem wipe_set_set (σ : L2.St) (i : Nat) (x : Option V) : ∀ vs : List Nat, (wipe (σ.set i x) vs).set i none = (wipe σ vs).set i none
  | [] => by unfold wipe; rw [List.set_set]
  | v :: vs => by
    unfold wipe
    by_cases e : v = i
    · subst e
      rw [List.set_set, List.set_set, wipe_set_set σ v x vs]
    · rw [List.set_comm _ _ e, wipe_set_set σ i x vs, List.set_comm _ _ (Ne.symm e)]
theorem wipe_set (σ : L2.St) (i : Nat) (x : Option V) : ∀ {vs : List Nat}, i ∈ vs → wipe (σ.set i x) vs = wipe σ vs
  | [], h => by cases h
  | v :: vs, h => by
    unfold wipe
    by_cases e : v = i
    · subst e
      exact wipe_set_set σ v x vs
    · rcases List.mem_cons.mp h with h | h
      · exact absurd h.symm e
      · rw [wipe_set σ i x h]
theorem wipe_wipe (σ : L2.St) (us : List Nat) : ∀ (vs : List Nat), (∀ i ∈ vs, i ∈ us) → wipe (wipe σ vs) us = wipe σ us
  | [], _ => rfl
  | v :: vs, h => by
    show wipe ((wipe σ vs).set v none) us = wipe σ us
    rw [wipe_set _ v none (h v List.mem_cons_self), wipe_wipe σ us vs fun i hi => h i (List.mem_cons_of_mem _ hi)]
section
variable {K : PySem.W.Frag} {ga : GA} {ms : List Addr} {Γ H : Hp} {ρ ρ' : Env} {σ : L2.St}
theorem ER.clear (R : ER K ga ms Γ H ρ σ) (i : Nat) : ER K ga ms Γ H (ρ.set i .no) (σ.set i none) := by
  refine ⟨by rw [List.length_set, List.length_set]; exact R.len, fun j s ov e1 e2 => ?_, fun j k xs ys a b ne e1 e2 e3 e4 => ?_⟩
  · by_cases q : i = j
    · subst q
      have hi : i < ρ.length := by have := (List.getElem?_eq_some_iff.mp e1).1; rwa [List.length_set] at this
      rw [List.getElem?_set_self hi] at e1
      cases e1
      trivial
    · rw [List.getElem?_set_ne q] at e1 e2
      exact R.at_ j s ov e1 e2
  · have hj : i ≠ j := fun q => by
      subst q
      have hi : i < ρ.length := by have := (List.getElem?_eq_some_iff.mp e1).1; rwa [List.length_set] at this
      rw [List.getElem?_set_self hi] at e1; cases e1
    have hk : i ≠ k := fun q => by
      subst q
      have hi : i < ρ.length := by have := (List.getElem?_eq_some_iff.mp e2).1; rwa [List.length_set] at this
      rw [List.getElem?_set_self hi] at e2; cases e2
    rw [List.getElem?_set_ne hj] at e1 e3
    rw [List.getElem?_set_ne hk] at e2 e4
    exact R.sep j k xs ys a b ne e1 e2 e3 e4
theorem ER.wipe (R : ER K ga ms Γ H ρ σ) : ∀ is : List Nat, ER K ga ms Γ H (wipeE ρ is) (L2.wipe σ is)
  | [] => R
  | i :: is => (R.wipe is).clear i
theorem put_some {i : Nat} {d : D} (h : ρ.put i d = some ρ') : i < ρ.length ∧ ρ' = ρ.set i (.val d) := by
  unfold Env.put at h
  split at h
  · rename_i hi
    cases h
    exact ⟨hi, rfl⟩
  · cases h
theorem names_use : ∀ {is : List Nat} {ds : List D} {vs : List V} {ρ : Env} {σ : L2.St} {Q : L2.St → Hp → Prop}, ER K ga ms Γ H ρ σ → Reps K ga ms Γ ds vs → putAll ρ is ds = some ρ' →
    (∀ σ', ER K ga ms Γ H ρ' σ' → (∀ us, (∀ i ∈ is, i ∈ us) → L2.wipe σ' us = L2.wipe σ us) → Q σ' H) → gNames is vs σ H Q
  | [], [], vs, ρ, σ, Q, R, r, e, q => by
    unfold putAll at e
    cases e
    exact ⟨r.nil_iff, q σ R fun _ _ => rfl⟩
  | [], _ :: _, _, _, _, _, _, _, e, _ => by unfold putAll at e; cases e
  | _ :: _, [], _, _, _, _, _, _, e, _ => by unfold putAll at e; cases e
  | i :: is, d :: ds, vs, ρ, σ, Q, R, r, e, q => by
    unfold putAll at e
    obtain ⟨v, s, rfl, h1, h2⟩ := r.cons_iff
    cases e1 : ρ.put i d with
    | none => rw [e1] at e; cases e
    | some ρ1 =>
      rw [e1] at e
      have e : putAll ρ1 is ds = some ρ' := e
      obtain ⟨_, rfl⟩ := put_some e1
      refine ⟨v, s, rfl, names_use (R.put h1) h2 e fun σ' R' hw => q σ' R' fun us hu => ?_⟩
      rw [hw us fun j hj => hu j (List.mem_cons_of_mem _ hj), wipe_set _ _ _ (hu i List.mem_cons_self)]
theorem putAll_ln {ρ' : Env} : ∀ {is : List Nat} {ds : List D} {ρ : Env}, putAll ρ is ds = some ρ' → ds.length = is.length := by
  intro is
  induction is with
  | nil => intro ds ρ e; cases ds with
    | nil => rfl
    | cons d ds => unfold putAll at e; cases e
  | cons i is ih => intro ds ρ e; cases ds with
    | nil => unfold putAll at e; cases e
    | cons d ds =>
      unfold putAll at e
      cases e1 : ρ.put i d with
      | none => rw [e1] at e; cases e
      | some ρ1 =>
        rw [e1] at e
        rw [List.length_cons, List.length_cons, ih (show putAll ρ1 is ds = some ρ' from e)]
/-- an item that is walked; zip's are tuples to be taken apart -/
def IRep (K : PySem.W.Frag) (ga : GA) (k : IK) (ms : List Addr) (Γ H : Hp) (d : D) (v : V) : Prop :=
  Rep K ga ms Γ d v ∨ (k = .zip ∧ ∃ ds a vs, d = .tup ds ∧ v = .ref a ∧ SqT K H a vs ∧ Reps K ga ms Γ ds vs)
theorem tg_use {t : Tg} {d : D} {v : V} {Q : L2.St → Hp → Prop} (le : Same Γ H) (R : ER K ga ms Γ H ρ σ) (r : Rep K ga ms Γ d v) (e : bindT ρ t d = some ρ')
    (q : ∀ σ', ER K ga ms Γ H ρ' σ' → (∀ us, (∀ i ∈ t.slots, i ∈ us) → L2.wipe σ' us = L2.wipe σ us) → Q σ' H) : gT K t v σ H Q := by
  cases t with
  | name i =>
    obtain ⟨_, rfl⟩ := put_some e
    exact q _ (R.put r) fun us hu => wipe_set _ _ _ (hu i (by simp [Tg.slots]))
  | tup is =>
    cases d with
    | tup ds =>
      unfold Rep at r
      obtain ⟨a, vs, rfl, h1, _, h3⟩ := r
      have hl : ds.length = is.length := by
        have : ∀ {is : List Nat} {ds : List D} {ρ : Env}, putAll ρ is ds = some ρ' → ds.length = is.length := by
          intro is
          induction is with
          | nil => intro ds ρ e; cases ds with
            | nil => rfl
            | cons d ds => unfold putAll at e; cases e
          | cons i is ih => intro ds ρ e; cases ds with
            | nil => unfold putAll at e; cases e
            | cons d ds =>
              unfold putAll at e
              cases e1 : ρ.put i d with
              | none => rw [e1] at e; cases e
              | some ρ1 =>
                rw [e1] at e
                rw [List.length_cons, List.length_cons, ih (show putAll ρ1 is ds = some ρ' from e)]
        exact this e
      exact ⟨a, vs, rfl, (h1.mono le).seq, by rw [← h3.length, hl], names_use R h3 e q⟩
    | _ => cases e
theorem tg_useI {k : IK} {t : Tg} {d : D} {v : V} {Q : L2.St → Hp → Prop} (hz : zipT k t = true) (le : Same Γ H) (R : ER K ga ms Γ H ρ σ) (r : IRep K ga k ms Γ H d v) (e : bindT ρ t d = some ρ')
    (q : ∀ σ', ER K ga ms Γ H ρ' σ' → (∀ us, (∀ i ∈ t.slots, i ∈ us) → L2.wipe σ' us = L2.wipe σ us) → Q σ' H) : gT K t v σ H Q := by
  rcases r with r | ⟨rfl, ds, a, vs, rfl, rfl, h1, h3⟩
  · exact tg_use le R r e q
  · cases t with
    | name i => exact absurd hz Bool.false_ne_true
    | tup is => exact ⟨a, vs, rfl, h1, by rw [← h3.length, putAll_ln e], names_use R h3 e q⟩
end
section
variable {X : Cx} {ga : GA} {G : GT} {N : List Str} {T : Tb} {sc : Scope}
theorem zip_tg {k : IK} {t : Tg} {tg : Expr} (hz : zipT k t = true) (h : tgC N sc t tg = true) : k = .zip → ∃ elts kk p, tg = .Tuple elts kk p := by
  intro e
  subst e
  cases t with
  | name i => exact absurd hz Bool.false_ne_true
  | tup is =>
    cases tg with
    | Tuple es k p => exact ⟨_, _, _, rfl⟩
    | _ => exact absurd h (by simp [tgC])
theorem assign_star : ∀ {is : List Nat} {es : List Expr} (env : PySem.Env), tgsC N sc is es = true → (assignEach es env).length = is.length ∧ (assignEach es env).findIdx? (·.1) = none
  | [], [], _, _ => ⟨rfl, rfl⟩
  | [], _ :: _, _, h => by simp [tgsC] at h
  | _ :: _, [], _, h => by simp [tgsC] at h
  | i :: is, e :: es, env, h => by
    cases e with
    | Name x p =>
      obtain ⟨_, _, h3⟩ := and3 (show (decide (N[i]? = some x) && locC sc x && tgsC N sc is es) = true from h)
      obtain ⟨k1, k2⟩ := assign_star env h3
      refine ⟨?_, ?_⟩
      · show (assignEach es env).length + 1 = is.length + 1
        rw [k1]
      · show List.findIdx? (·.1) ((false, assign (.Name x p) env) :: assignEach es env) = none
        rw [List.findIdx?_cons, k2]
        rfl
    | _ => simp [tgsC] at h
theorem pgs_names (C : GC X ga G N T sc) : ∀ {is : List Nat} {es : List Expr}, tgsC N sc is es = true → PGs X es (gNames is)
  | [], [], _ => pgs_nil
  | [], _ :: _, h => by simp [tgsC] at h
  | _ :: _, [], h => by simp [tgsC] at h
  | i :: is, e :: es, h => by
    cases e with
    | Name x p =>
      obtain ⟨h1, h2, h3⟩ := and3 (show (decide (N[i]? = some x) && locC sc x && tgsC N sc is es) = true from h)
      obtain ⟨l1, l2⟩ := C.loc x h2
      exact pgs_cons (pg_name (i := i) (by rw [C.hN]; exact C.nd) (by rw [C.hN]; exact of_decide_eq_true h1) l1 l2) (pgs_names C h3) rfl
    | _ => simp [tgsC] at h
theorem pg_ok (C : GC X ga G N T sc) {t : Tg} {e : Expr} (h : tgC N sc t e = true) : PG X e (gT X.K t) := by
  cases t with
  | name i =>
    cases e with
    | Name x p =>
      have h := Bool.and_eq_true_iff.mp (show (decide (N[i]? = some x) && locC sc x) = true from h)
      obtain ⟨l1, l2⟩ := C.loc x h.2
      exact pg_name (i := i) (by rw [C.hN]; exact C.nd) (by rw [C.hN]; exact of_decide_eq_true h.1) l1 l2
    | _ => exact absurd h (by simp [tgC])
  | tup is =>
    cases e with
    | Tuple es k p =>
      obtain ⟨k1, k2⟩ := assign_star X.env (show tgsC N sc is es = true from h)
      exact pg_tup C.calm (pgs_names C h) k1 k2
    | _ => exact absurd h (by simp [tgC])
end
/-! ### what is walked -/
/-- J walks the items vs, whatever stands beside Γ -/
def ItOk0 (J : It) (Γ : Hp) (vs : List V) : Prop := ∀ H, Same Γ H → (∀ i, i < vs.length → J.go i H) ∧ J.stop vs.length H ∧ ∀ i x H', J.yld i H x H' → i < vs.length → H' = H ∧ vs[i]? = some x
theorem itok_list {K : PySem.W.Frag} {Γ : Hp} {a : Addr} {vs : List V} (h : SqL K Γ a vs) : ItOk0 (Itl K a) Γ vs := fun H le =>
  ⟨fun i hi => ⟨vs, vs[i], le.seq h, List.getElem?_eq_getElem hi⟩, ⟨vs, le.seq h, Nat.le_refl _⟩, fun i x H' y _ => ⟨y.1, y.2 vs (le.seq h)⟩⟩
theorem itok_tup {K : PySem.W.Frag} {Γ : Hp} {a : Addr} {vs : List V} (h : TupOk K Γ a vs) : ItOk0 (Itt K a) Γ vs := fun H le =>
  ⟨fun i hi => ⟨vs, vs[i], (h.mono le).seq, List.getElem?_eq_getElem hi⟩, ⟨vs, (h.mono le).seq, Nat.le_refl _⟩, fun i x H' y _ => ⟨y.1, y.2 vs (h.mono le).seq⟩⟩
theorem itok_range {Γ : Hp} (lo : Int) (n : Nat) : ItOk0 (Itr lo n) Γ ((List.range n).map fun i : Nat => V.int (lo + (i : Nat))) := fun H le => by
  refine ⟨fun i hi => ?_, ?_, fun i x H' y hi => ⟨y.1, ?_⟩⟩
  · rw [List.length_map, List.length_range] at hi; exact hi
  · show n ≤ _
    rw [List.length_map, List.length_range]; exact Nat.le_refl _
  · rw [List.length_map, List.length_range] at hi
    rw [List.getElem?_map, List.getElem?_range hi, y.2]
    rfl
theorem itok_str {Γ : Hp} (z : Str) : ItOk0 (Its z) Γ (z.cps.toList.map fun c => V.str ⟨#[c]⟩) := fun H le => by
  refine ⟨fun i hi => ?_, ?_, fun i x H' y hi => ⟨y.1, ?_⟩⟩
  · rw [List.length_map] at hi
    show i < z.cps.size
    simpa using hi
  · show z.cps.size ≤ _
    rw [List.length_map]
    simp
  · obtain ⟨_, c, h1, rfl⟩ := y
    rw [List.getElem?_map]
    have e : z.cps.toList[i]? = some c := by simpa using h1
    rw [e]
    rfl
/-- J walks items that stand for xs, whatever stands beside (ms, Γ) -/
def ItOk (K : PySem.W.Frag) (ga : GA) (k : IK) (ms : List Addr) (Γ : Hp) (J : It) (xs : List D) : Prop := ∀ H ms2 Γ2 μ2, Same Γ Γ2 → ms <+: ms2 → SI K ga ms2 Γ2 μ2 H →
  (∀ i, i < xs.length → J.go i H) ∧ J.stop xs.length H ∧ ∀ i x H', J.yld i H x H' → i < xs.length → After K ga ms2 Γ2 H ms2 Γ2 μ2 H' ∧ ∃ d, xs[i]? = some d ∧ IRep K ga k ms2 Γ2 H' d x
theorem itok_of {K : PySem.W.Frag} {ga : GA} {k : IK} {ms : List Addr} {Γ : Hp} {J : It} {xs : List D} {vs : List V} (r : Reps K ga ms Γ xs vs) (h : ItOk0 J Γ vs) : ItOk K ga k ms Γ J xs := by
  intro H ms2 Γ2 μ2 le pre S
  obtain ⟨a, b, c⟩ := h H (le.trans S.sub)
  have hl := r.length
  refine ⟨fun i hi => a i (by rw [← hl]; exact hi), by rw [hl]; exact b, fun i x H' y hi => ?_⟩
  obtain ⟨rfl, hv⟩ := c i x H' y (by rw [← hl]; exact hi)
  have hx : xs[i]? = some xs[i] := List.getElem?_eq_getElem hi
  obtain ⟨w, hw, rw'⟩ := r.get hx
  rw [hv] at hw
  cases hw
  exact ⟨After.refl S, _, hx, .inl (rw'.mono le pre)⟩
theorem zip_get {xs ys : List D} {i : Nat} (h : i < (zipD xs ys).length) : ∃ x y, xs[i]? = some x ∧ ys[i]? = some y ∧ (zipD xs ys)[i]? = some (.tup [x, y]) := by
  unfold zipD at h ⊢
  rw [List.length_map, List.length_zip] at h
  have h1 : i < xs.length := by omega
  have h2 : i < ys.length := by omega
  refine ⟨xs[i], ys[i], List.getElem?_eq_getElem h1, List.getElem?_eq_getElem h2, ?_⟩
  rw [List.getElem?_map, List.getElem?_eq_getElem (by rw [List.length_zip]; omega)]
  simp
theorem itok_zipL {K : PySem.W.Frag} {ga : GA} {ms : List Addr} {Γ : Hp} {a b : Addr} {xs ys : List D} {vs us : List V} (h1 : SqL K Γ a vs) (h2 : SqL K Γ b us) (r1 : Reps K ga ms Γ xs vs) (r2 : Reps K ga ms Γ ys us) : ItOk K ga .zip ms Γ (Itz K a b) (zipD xs ys) := by
  intro H ms2 Γ2 μ2 le pre S
  have le2 : Same Γ H := le.trans S.sub
  refine ⟨fun i hi => ?_, ⟨vs, us, le2.seq h1, le2.seq h2, ?_⟩, fun i x H' y hi => ?_⟩
  · obtain ⟨x, y, e1, e2, _⟩ := zip_get hi
    obtain ⟨v, f1, _⟩ := r1.get e1
    obtain ⟨u, f2, _⟩ := r2.get e2
    exact ⟨vs, us, v, u, le2.seq h1, le2.seq h2, f1, f2⟩
  · unfold zipD
    rw [List.length_map, List.length_zip, ← r1.length, ← r2.length]
    omega
  · obtain ⟨p, v, u, rfl, hp, rfl, f1, f2⟩ := y
    obtain ⟨x, y, e1, e2, e3⟩ := zip_get hi
    obtain ⟨v', g1, g2⟩ := r1.get e1
    obtain ⟨u', g3, g4⟩ := r2.get e2
    have k1 := f1 vs (le2.seq h1)
    have k2 := f2 us (le2.seq h2)
    rw [g1] at k1
    rw [g3] at k2
    cases k1
    cases k2
    exact ⟨After.layOwn S hp, _, e3, .inr ⟨rfl, _, p, [_, _], rfl, rfl, .inl (.inl upd_same), Reps.cons (g2.mono le pre) (Reps.cons (g4.mono le pre) Reps.nil)⟩⟩
theorem itok_zipT {K : PySem.W.Frag} {ga : GA} {ms : List Addr} {Γ : Hp} {a b : Addr} {xs ys : List D} {vs us : List V} (h1 : TupOk K Γ a vs) (h2 : TupOk K Γ b us) (r1 : Reps K ga ms Γ xs vs) (r2 : Reps K ga ms Γ ys us) : ItOk K ga .zip ms Γ (RZ.ItzT K a b) (zipD xs ys) := by
  intro H ms2 Γ2 μ2 le pre S
  have le2 : Same Γ H := le.trans S.sub
  refine ⟨fun i hi => ?_, ⟨vs, us, (h1.mono le2).seq, (h2.mono le2).seq, ?_⟩, fun i x H' y hi => ?_⟩
  · obtain ⟨x, y, e1, e2, _⟩ := zip_get hi
    obtain ⟨v, f1, _⟩ := r1.get e1
    obtain ⟨u, f2, _⟩ := r2.get e2
    exact ⟨vs, us, v, u, (h1.mono le2).seq, (h2.mono le2).seq, f1, f2⟩
  · unfold zipD
    rw [List.length_map, List.length_zip, ← r1.length, ← r2.length]
    omega
  · obtain ⟨p, v, u, rfl, hp, rfl, f1, f2⟩ := y
    obtain ⟨x, y, e1, e2, e3⟩ := zip_get hi
    obtain ⟨v', g1, g2⟩ := r1.get e1
    obtain ⟨u', g3, g4⟩ := r2.get e2
    have k1 := f1 vs (h1.mono le2).seq
    have k2 := f2 us (h2.mono le2).seq
    rw [g1] at k1
    rw [g3] at k2
    cases k1
    cases k2
    exact ⟨After.layOwn S hp, _, e3, .inr ⟨rfl, _, p, [_, _], rfl, rfl, .inl (.inl upd_same), Reps.cons (g2.mono le pre) (Reps.cons (g4.mono le pre) Reps.nil)⟩⟩
def tI (X : Cx) (ga : GA) (G : GT) (W : WX) (k : IK) (its : Exs) : TI := fun σ H R => ∃ ms Γ μ ρ, SI X.K ga ms Γ μ H ∧ ER X.K ga ms Γ H ρ σ ∧
  match evs G its ρ μ with
  | .ok ds μ1 => (match iterD k ds with
    | some xs => ∀ J H' ms' Γ', After X.K ga ms Γ H ms' Γ' μ1 H' → xs.length ≤ sizeLine → ItOk X.K ga k ms' Γ' J xs → R J H'
    | none => False)
  | .exc c fs μ' => ∀ cls dd H' ms' Γ', After X.K ga ms Γ H ms' Γ' μ' H' → XRep X.K ga ms' Γ' H' c fs cls dd → W cls dd σ H'
  | .bad => False
section
variable {ga : GA} {G : GT} {N : List Str} {T : Tb}
theorem chars_rep {K : PySem.W.Frag} {ms : List Addr} {Γ : Hp} : ∀ cs : List Nat, Reps K ga ms Γ (cs.map fun c => D.str ⟨#[c]⟩) (cs.map fun c => V.str ⟨#[c]⟩)
  | [] => Reps.nil
  | c :: cs => Reps.cons (by unfold Rep; exact ⟨rfl, by show 1 ≤ sizeLine; rw [sizeLine_eq]; decide⟩) (chars_rep cs)
theorem ints_rep {K : PySem.W.Frag} {ms : List Addr} {Γ : Hp} (f : Nat → Int) : ∀ is : List Nat, Reps K ga ms Γ (is.map fun i => D.int (f i)) (is.map fun i => V.int (f i))
  | [] => Reps.nil
  | c :: cs => Reps.cons (by unfold Rep; rfl) (ints_rep f cs)
theorem set_fold {e : Expr} {env : PySem.Env} (h : notSet e = true) (x : Value) : foldedSetIterable e env x = pure x := by
  cases e <;> first | rfl | exact absurd h Bool.false_ne_true
/-- the value of an expression, walked -/
theorem pi_val {X : Cx} {tg : Expr} {W : WX} {e : Ex} {x : Expr} (h : PE X x (tE X ga G W e)) : PI X tg x (tI X ga G W .val (.cons e .nil)) := by
  refine ⟨fun pins s σ H R I ⟨ms, Γ, μ, ρ, S, Rr, q⟩ => ?_⟩
  have key : tE X ga G W e σ H fun v H1 => (∃ a vs, v = .ref a ∧ SqL X.K H1 a vs ∧ R (Itl X.K a) H1) ∨ (∃ a vs, v = .ref a ∧ SqT X.K H1 a vs ∧ R (Itt X.K a) H1) ∨ (∃ z, v = .str z ∧ R (Its z) H1) := by
    refine ⟨ms, Γ, μ, ρ, S, Rr, ?_⟩
    have q : (match (ev G e ρ μ).bind (fun d μ => (Out.ok [] μ : Out (List D)).bind fun ds μ => .ok (d :: ds) μ) with
      | .ok ds μ1 => (match iterD .val ds with
        | some xs => ∀ J H' ms' Γ', After X.K ga ms Γ H ms' Γ' μ1 H' → xs.length ≤ sizeLine → ItOk X.K ga .val ms' Γ' J xs → R J H'
        | none => False)
      | .exc c fs μ' => ∀ cls dd H' ms' Γ', After X.K ga ms Γ H ms' Γ' μ' H' → XRep X.K ga ms' Γ' H' c fs cls dd → W cls dd σ H'
      | .bad => False) := q
    cases e1 : ev G e ρ μ with
    | bad => rw [e1] at q; exact q
    | exc c fs μ1 => rw [e1] at q; exact q
    | ok d μ1 =>
      rw [e1] at q
      intro v H1 ms1 Γ1 A r
      have q : (match iterD .val [d] with
        | some xs => ∀ J H' ms' Γ', After X.K ga ms Γ H ms' Γ' μ1 H' → xs.length ≤ sizeLine → ItOk X.K ga .val ms' Γ' J xs → R J H'
        | none => False) := q
      cases d with
      | tup xs =>
        unfold Rep at r
        obtain ⟨a, vs, rfl, h1, h2, h3⟩ := r
        exact .inr (.inl ⟨a, vs, rfl, (h1.mono A.si.sub).seq, q _ _ _ _ A h2 (itok_of h3 (itok_tup h1))⟩)
      | lst xs =>
        unfold Rep at r
        obtain ⟨a, vs, rfl, h1, h2, h3⟩ := r
        exact .inl ⟨a, vs, rfl, SqL.of (A.si.sub _ _ h1), q _ _ _ _ A h2 (itok_of h3 (itok_list (SqL.of h1)))⟩
      | str z =>
        unfold Rep at r
        obtain ⟨rfl, hz⟩ := r
        exact .inr (.inr ⟨z, rfl, q _ _ _ _ A (by rw [List.length_map]; simpa [Str.length] using hz) (itok_of (chars_rep _) (itok_str z))⟩)
      | _ => exact False.elim q
  refine thn (h.run pins s σ H _ I key) fun v s1 ⟨y, H1, I1, r1, q1⟩ => ?_
  rcases q1 with ⟨a, vs, rfl, hq, q2⟩ | ⟨a, vs, rfl, hq, q2⟩ | ⟨z, rfl, q2⟩
  · cases r1
    obtain ⟨its, rv, p, hz⟩ := I1.list hq
    refine wpAny_pyIter_list p.isList ?_
    refine ⟨s1.heap.objs.size, [s1.heap.objs.size], _, _, H1, rfl, I1.kept (t' := s1.toks) fun b o e => Heap.get?_push_of_some _ e, turn_list a _, ⟨_, Heap.get?_push_size _ rfl, rfl, rfl⟩, fun b hb => ?_, q2⟩
    have e : b = s1.heap.objs.size := by simpa using hb
    subst e
    exact I1.fpOk (Nat.le_refl _) (I1.hok.fresh (Nat.le_refl _))
  · cases r1
    obtain ⟨its, rv, p, hz⟩ := I1.tuple hq
    refine wpAny_pyIter_tuple (show s1.heap.IsTuple a its.toArray from p) ?_
    refine ⟨s1.heap.objs.size, [s1.heap.objs.size], _, _, H1, rfl, I1.kept (t' := s1.toks) fun b o e => Heap.get?_push_of_some _ e, turn_tuple a _, ⟨_, Heap.get?_push_size _ rfl, rfl, rfl⟩, fun b hb => ?_, q2⟩
    have e : b = s1.heap.objs.size := by simpa using hb
    subst e
    exact I1.fpOk (Nat.le_refl _) (I1.hok.fresh (Nat.le_refl _))
  · obtain ⟨t, rfl⟩ := r1
    cases ha : z.cps.all (· < 128)
    · exact wpAny_pyIter_wide ha (pi_one (tk := s1.toks) I1 _ (turn_str _ z t "str_iterator" (.inr rfl)) ⟨_, Heap.get?_push_size _ rfl, rfl, rfl⟩ q2)
    · exact wpAny_pyIter_ascii ha (pi_one (tk := s1.toks) I1 _ (turn_str _ z t "str_ascii_iterator" (.inl rfl)) ⟨_, Heap.get?_push_size _ rfl, rfl, rfl⟩ q2)
theorem iter_rng1 {ds : List D} {xs : List D} (h : iterD .rng1 ds = some xs) : ∃ j : Int, ds = [.int j] ∧ -(2 ^ 62) ≤ j ∧ j < LINE ∧ xs = rangeL 0 j := by
  match ds, h with
  | [.int j], h =>
    have h : (if -(2 ^ 62) ≤ j ∧ j < LINE then some (rangeL 0 j) else none) = some xs := h
    split at h
    · rename_i hj
      cases h
      exact ⟨j, rfl, hj.1, hj.2, rfl⟩
    · cases h
theorem iter_rng2 {ds : List D} {xs : List D} (h : iterD .rng2 ds = some xs) : ∃ i j : Int, ds = [.int i, .int j] ∧ (-(2 ^ 62) ≤ i ∧ i < 2 ^ 62 ∧ -(2 ^ 62) ≤ j ∧ j < 2 ^ 62 ∧ j - i ≤ LINE) ∧ xs = rangeL i j := by
  match ds, h with
  | [.int i, .int j], h =>
    have h : (if -(2 ^ 62) ≤ i ∧ i < 2 ^ 62 ∧ -(2 ^ 62) ≤ j ∧ j < 2 ^ 62 ∧ j - i ≤ LINE then some (rangeL i j) else none) = some xs := h
    split at h
    · rename_i hj
      cases h
      exact ⟨i, j, rfl, hj, rfl⟩
    · cases h
theorem iter_zip {ds : List D} {zs : List D} (h : iterD .zip ds = some zs) : ∃ xs ys, zs = zipD xs ys ∧ ((ds = [.tup xs, .tup ys]) ∨ (ds = [.lst xs, .lst ys])) := by
  match ds, h with
  | [.tup xs, .tup ys], h => cases h; exact ⟨xs, ys, rfl, .inl rfl⟩
  | [.lst xs, .lst ys], h => cases h; exact ⟨xs, ys, rfl, .inr rfl⟩
theorem pi_ok {k : IK} {its : Exs} (hs : SA ga G N T its) (hv : ∀ e, its = .cons e .nil → SE ga G N T e) {X : Cx} {sc : Scope} {tg x : Expr} {W : WX} (C : GC X ga G N T sc) (tk : Takes X W) (h : itC N T sc k its x = true) (hzt : k = .zip → ∃ elts kk p, tg = .Tuple elts kk p) : PI X tg x (tI X ga G W k its) := by
  cases k with
  | val =>
    cases its with
    | nil => simp [itC] at h
    | cons e es =>
      cases es with
      | nil =>
        have h := Bool.and_eq_true_iff.mp (show (chk N T sc e x && notSet x) = true from h)
        exact pi_val (hv e rfl X sc x W C tk h.1)
      | cons _ _ => simp [itC] at h
  | rng1 =>
    cases x with
    | Call g xs kws pos =>
      cases g with
      | Name y py =>
        match its, xs, kws, h with
        | .cons a .nil, [z], [], h =>
          have h : (decide (y = ("range" : Str)) && glC sc y && chk N T sc a z && notStar z) = true := h
          simp only [Bool.and_eq_true] at h
          obtain ⟨⟨⟨h1, h2⟩, h3⟩, h4⟩ := h
          have e := of_decide_eq_true h1
          subst e
          have hc : chks N T sc (.cons a .nil) [z] = true := by
            show (chk N T sc a z && notStar z && true) = true
            rw [h3, h4]; rfl
          refine (pi_range1 (C.gl _ h2) (C.blt _ (by decide +kernel)) (hs X sc [z] W C tk hc) (star_cons z [] X.env h4)).mono fun σ H R ⟨ms, Γ, μ, ρ, S, Rr, q⟩ => ?_
          refine ⟨ms, Γ, μ, ρ, S, Rr, ?_⟩
          cases e1 : evs G (.cons a .nil) ρ μ with
          | bad => rw [e1] at q; exact q
          | exc c fs μ1 => rw [e1] at q; exact q
          | ok ds μ1 =>
            rw [e1] at q
            intro vs H1 ms1 Γ1 A r
            have q : (match iterD .rng1 ds with
              | some xs => ∀ J H' ms' Γ', After X.K ga ms Γ H ms' Γ' μ1 H' → xs.length ≤ sizeLine → ItOk X.K ga .rng1 ms' Γ' J xs → R J H'
              | none => False) := q
            split at q
            · rename_i xs e2
              obtain ⟨j, rfl, j1, j2, rfl⟩ := iter_rng1 e2
              obtain ⟨v, rfl, r1⟩ := reps1 r
              unfold Rep at r1
              subst r1
              have hL : (LINE : Int) = 16777216 := rfl
              refine ⟨j, rfl, j1, by omega, q _ _ _ _ A ?_ (itok_of (ints_rep (fun i => 0 + (i : Nat)) _) ?_)⟩
              · unfold rangeL; rw [List.length_map, List.length_range, sizeLine_eq]; omega
              · have e0 : (j - 0).toNat = j.toNat := by rw [Int.sub_zero]
                rw [e0]
                exact itok_range 0 j.toNat
            · exact False.elim q
        | .nil, _, _, h => simp [itC] at h
        | .cons _ (.cons _ _), _, _, h => simp [itC] at h
        | .cons _ .nil, [], _, h => simp [itC] at h
        | .cons _ .nil, _ :: _ :: _, _, h => simp [itC] at h
        | .cons _ .nil, [_], _ :: _, h => simp [itC] at h
      | _ => cases its with
        | nil => simp [itC] at h
        | cons e es => cases es <;> simp [itC] at h
    | _ => cases its with
      | nil => simp [itC] at h
      | cons e es => cases es <;> simp [itC] at h
  | rng2 =>
    cases x with
    | Call g xs kws pos =>
      cases g with
      | Name y py =>
        match its, xs, kws, h with
        | .cons a (.cons b .nil), [z, w], [], h =>
          have h : (decide (y = ("range" : Str)) && glC sc y && chk N T sc a z && notStar z && chk N T sc b w && notStar w) = true := h
          simp only [Bool.and_eq_true] at h
          obtain ⟨⟨⟨⟨⟨h1, h2⟩, h3⟩, h4⟩, h5⟩, h6⟩ := h
          have e := of_decide_eq_true h1
          subst e
          have hc : chks N T sc (.cons a (.cons b .nil)) [z, w] = true := by
            show (chk N T sc a z && notStar z && (chk N T sc b w && notStar w && true)) = true
            rw [h3, h4, h5, h6]; rfl
          refine (pi_range2 (C.gl _ h2) (C.blt _ (by decide +kernel)) (hs X sc [z, w] W C tk hc) (by rw [star_cons z [w] X.env h4, star_cons w [] X.env h6]; rfl) (star_cons w [] X.env h6)).mono fun σ H R ⟨ms, Γ, μ, ρ, S, Rr, q⟩ => ?_
          refine ⟨ms, Γ, μ, ρ, S, Rr, ?_⟩
          cases e1 : evs G (.cons a (.cons b .nil)) ρ μ with
          | bad => rw [e1] at q; exact q
          | exc c fs μ1 => rw [e1] at q; exact q
          | ok ds μ1 =>
            rw [e1] at q
            intro vs H1 ms1 Γ1 A r
            have q : (match iterD .rng2 ds with
              | some xs => ∀ J H' ms' Γ', After X.K ga ms Γ H ms' Γ' μ1 H' → xs.length ≤ sizeLine → ItOk X.K ga .rng2 ms' Γ' J xs → R J H'
              | none => False) := q
            split at q
            · rename_i xs e2
              obtain ⟨i, j, rfl, hj, rfl⟩ := iter_rng2 e2
              obtain ⟨v, u, rfl, r1, r2⟩ := reps2 r
              unfold Rep at r1 r2
              subst r1 r2
              obtain ⟨j1, j2, j3, j4, j5⟩ := hj
              have hL : (LINE : Int) = 16777216 := rfl
              refine ⟨i, j, rfl, ⟨j1, j2, j3, j4⟩, q _ _ _ _ A ?_ (itok_of (ints_rep (fun n => i + (n : Nat)) _) (itok_range i _))⟩
              unfold rangeL
              rw [List.length_map, List.length_range, sizeLine_eq]; omega
            · exact False.elim q
        | .nil, _, _, h => simp [itC] at h
        | .cons _ .nil, _, _, h => simp [itC] at h
        | .cons _ (.cons _ (.cons _ _)), _, _, h => simp [itC] at h
        | .cons _ (.cons _ .nil), [], _, h => simp [itC] at h
        | .cons _ (.cons _ .nil), [_], _, h => simp [itC] at h
        | .cons _ (.cons _ .nil), _ :: _ :: _ :: _, _, h => simp [itC] at h
        | .cons _ (.cons _ .nil), [_, _], _ :: _, h => simp [itC] at h
      | _ => cases its with
        | nil => simp [itC] at h
        | cons e es => cases es with
          | nil => simp [itC] at h
          | cons e2 es2 => cases es2 <;> simp [itC] at h
    | _ => cases its with
      | nil => simp [itC] at h
      | cons e es => cases es with
        | nil => simp [itC] at h
        | cons e2 es2 => cases es2 <;> simp [itC] at h
  | zip =>
    obtain ⟨elts, kk, tp, rfl⟩ := hzt rfl
    cases x with
    | Call g xs kws pos =>
      cases g with
      | Name y py =>
        match its, xs, kws, h with
        | .cons a (.cons b .nil), [z, w], [], h =>
          have h : (decide (y = ("zip" : Str)) && glC sc y && chk N T sc a z && notStar z && chk N T sc b w && notStar w) = true := h
          simp only [Bool.and_eq_true] at h
          obtain ⟨⟨⟨⟨⟨h1, h2⟩, h3⟩, h4⟩, h5⟩, h6⟩ := h
          have e := of_decide_eq_true h1
          subst e
          have hc : chks N T sc (.cons a (.cons b .nil)) [z, w] = true := by
            show (chk N T sc a z && notStar z && (chk N T sc b w && notStar w && true)) = true
            rw [h3, h4, h5, h6]; rfl
          have st2 := star_cons w [] X.env h6
          refine (RZ.pi_zipA (C.gl _ h2) (C.blt _ (by decide +kernel)) (hs X sc [z, w] W C tk hc) (star_cons z [w] X.env h4) (by rw [st2]; exact plain_any rfl)).mono fun σ H R ⟨ms, Γ, μ, ρ, S, Rr, q⟩ => ?_
          refine ⟨ms, Γ, μ, ρ, S, Rr, ?_⟩
          cases e1 : evs G (.cons a (.cons b .nil)) ρ μ with
          | bad => rw [e1] at q; exact q
          | exc c fs μ1 => rw [e1] at q; exact q
          | ok ds μ1 =>
            rw [e1] at q
            intro vs H1 ms1 Γ1 A r
            have q : (match iterD .zip ds with
              | some xs => ∀ J H' ms' Γ', After X.K ga ms Γ H ms' Γ' μ1 H' → xs.length ≤ sizeLine → ItOk X.K ga .zip ms' Γ' J xs → R J H'
              | none => False) := q
            split at q
            · rename_i zs e2
              obtain ⟨xs, ys, rfl, e3⟩ := iter_zip e2
              have len : ∀ n, xs.length ≤ n → (zipD xs ys).length ≤ n := fun n hn => by
                unfold zipD
                rw [List.length_map, List.length_zip]
                omega
              rcases e3 with rfl | rfl
              · obtain ⟨v, u, rfl, r1, r2⟩ := reps2 r
                unfold Rep at r1 r2
                obtain ⟨a1, vs1, rfl, g1, g2, g3⟩ := r1
                obtain ⟨a2, vs2, rfl, k1, k2, k3⟩ := r2
                exact ⟨a1, a2, vs1, vs2, rfl, .inr ⟨(g1.mono A.si.sub).seq, (k1.mono A.si.sub).seq, q _ _ _ _ A (len _ g2) (itok_zipT g1 k1 g3 k3)⟩⟩
              · obtain ⟨v, u, rfl, r1, r2⟩ := reps2 r
                unfold Rep at r1 r2
                obtain ⟨a1, vs1, rfl, g1, g2, g3⟩ := r1
                obtain ⟨a2, vs2, rfl, k1, k2, k3⟩ := r2
                exact ⟨a1, a2, vs1, vs2, rfl, .inl ⟨SqL.of (A.si.sub _ _ g1), SqL.of (A.si.sub _ _ k1), q _ _ _ _ A (len _ g2) (itok_zipL (SqL.of g1) (SqL.of k1) g3 k3)⟩⟩
            · exact False.elim q
        | .nil, _, _, h => simp [itC] at h
        | .cons _ .nil, _, _, h => simp [itC] at h
        | .cons _ (.cons _ (.cons _ _)), _, _, h => simp [itC] at h
        | .cons _ (.cons _ .nil), [], _, h => simp [itC] at h
        | .cons _ (.cons _ .nil), [_], _, h => simp [itC] at h
        | .cons _ (.cons _ .nil), _ :: _ :: _ :: _, _, h => simp [itC] at h
        | .cons _ (.cons _ .nil), [_, _], _ :: _, h => simp [itC] at h
      | _ => cases its with
        | nil => simp [itC] at h
        | cons e es => cases es with
          | nil => simp [itC] at h
          | cons e2 es2 => cases es2 <;> simp [itC] at h
    | _ => cases its with
      | nil => simp [itC] at h
      | cons e es => cases es with
        | nil => simp [itC] at h
        | cons e2 es2 => cases es2 <;> simp [itC] at h
/-- what is walked is no set -/
theorem it_fold {sc : Scope} {k : IK} {its : Exs} {it : Expr} {env : PySem.Env} (h3 : itC N T sc k its it = true) : ∀ v, foldedSetIterable it env v = pure v := fun v => by
  cases k with
  | val => cases its with
    | nil => simp [itC] at h3
    | cons a as => cases as with
      | nil => exact set_fold (Bool.and_eq_true_iff.mp (show (chk N T sc a it && notSet it) = true from h3)).2 v
      | cons _ _ => simp [itC] at h3
  | rng1 => cases it with
    | Call _ _ _ _ => rfl
    | _ => cases its with
      | nil => simp [itC] at h3
      | cons a as => cases as <;> simp [itC] at h3
  | rng2 => cases it with
    | Call _ _ _ _ => rfl
    | _ => cases its with
      | nil => simp [itC] at h3
      | cons a as => cases as with
        | nil => simp [itC] at h3
        | cons b bs => cases bs <;> simp [itC] at h3
  | zip => cases it with
    | Call _ _ _ _ => rfl
    | _ => cases its with
      | nil => simp [itC] at h3
      | cons a as => cases as with
        | nil => simp [itC] at h3
        | cons b bs => cases bs <;> simp [itC] at h3
end
/-! ### comprehensions -/
section
variable {ga : GA} {G : GT} {N : List Str} {T : Tb}
theorem own_snd {is : List Nat} (h : (is.all fun i => (N[i]?).isSome) = true) : (ownNames N is).map (·.2) = is := by
  induction is with
  | nil => rfl
  | cons i is ih =>
    have h := Bool.and_eq_true_iff.mp (show ((N[i]?).isSome && is.all fun i => (N[i]?).isSome) = true from h)
    obtain ⟨x, e⟩ := Option.isSome_iff_exists.mp h.1
    unfold ownNames at ih ⊢
    rw [List.filterMap_cons, e]
    show i :: _ = i :: is
    rw [ih h.2]
theorem own_ix {is : List Nat} : ∀ p ∈ ownNames N is, N[p.2]? = some p.1 := fun p hp => by
  unfold ownNames at hp
  obtain ⟨i, hi, e⟩ := List.mem_filterMap.mp hp
  obtain ⟨x, e1, rfl⟩ := map_some e
  exact e1
theorem blk_ok {X : Cx} {sc scope : Scope} {is : List Nat} (C : GC X ga G N T sc) (h : blkOkC N sc scope is = true) : BlkOk X.N X.env.scope scope (ownNames N is) ∧ (ownNames N is).map (·.2) = is ∧ scope.kind = .function := by
  unfold blkOkC at h
  simp only [Bool.and_eq_true] at h
  obtain ⟨⟨⟨h1, h2⟩, h3⟩, h4⟩ := h
  have h1 := of_decide_eq_true h1
  refine ⟨⟨h1, fun y hy => of_decide_eq_true (List.all_eq_true.mp h2 y hy), fun p hp => by rw [C.hN]; exact own_ix p hp, fun y hy e => ?_, fun y hy e => ?_⟩, own_snd h3, h1⟩
  · have q := List.all_eq_true.mp h4 y hy
    simp only [e] at q
    exact C.cf _ q
  · have q := List.all_eq_true.mp h4 y hy
    rw [C.hN]
    rcases e with e | e
    · simp only [e, Bool.or_eq_true] at q
      rcases q with q | q
      · exact .inl (of_decide_eq_true q)
      · exact .inr (of_decide_eq_true q)
    · simp only [e, Bool.or_eq_true] at q
      rcases q with q | q
      · exact .inl (of_decide_eq_true q)
      · exact .inr (of_decide_eq_true q)
theorem gc_blk {X : Cx} {sc scope : Scope} (C : GC X ga G N T sc) (hk : scope.kind = .function) (s : Shared) (H : Hp) (Ca : Addr) (cl : List (Str × Addr)) (fp : List Addr) : GC (X.blk s H scope (compEnvC scope cl Ca X.env) fp) ga G N T scope := by
  have keep : ∀ x k, k ≠ .free → scope.names.lookup x = some k → (compEnvC scope cl Ca X.env).scope.names.lookup x = some k := fun x k hk e => lookup_relS_keep (sc := X.env.scope) hk e
  have free : ∀ x, scope.names.lookup x = some .free → (compEnvC scope cl Ca X.env).scope.names.lookup x = some .cell ∨ (compEnvC scope cl Ca X.env).scope.names.lookup x = some .free := by
    intro x e
    cases q : (compEnvC scope cl Ca X.env).scope.names.lookup x with
    | none =>
      exfalso
      have : ∀ {names : List (Str × NameKind)}, names.lookup x = some .free → (names.map fun (n, k) => if (k == NameKind.free && X.env.scope.kind == .function && X.env.scope.names.lookup n == some .cell) then (n, NameKind.cell) else (n, k)).lookup x ≠ none := by
        intro names
        induction names with
        | nil => intro e; simp at e
        | cons p r ih =>
          obtain ⟨n, k⟩ := p
          intro e
          rw [List.lookup_cons] at e
          rw [List.map_cons]
          cases hx : x == n with
          | true =>
            show List.lookup x ((if _ then (n, NameKind.cell) else (n, k)) :: _) ≠ none
            split <;> (rw [List.lookup_cons, hx]; simp)
          | false =>
            rw [hx] at e
            show List.lookup x ((if _ then (n, NameKind.cell) else (n, k)) :: _) ≠ none
            split <;> (rw [List.lookup_cons, hx]; exact ih e)
      exact this e q
    | some k =>
      obtain ⟨k', e1, e2⟩ := lookup_relS (sc := X.env.scope) (names := scope.names) q
      rw [e] at e1
      cases e1
      rcases e2 with rfl | ⟨_, rfl⟩
      · exact .inr rfl
      · exact .inl rfl
  refine ⟨C.hN, C.nd, hk, fun x h => ?_, fun x h => ?_, fun x h => ?_, fun x h => ?_, C.calm, C.hu, C.blt, C.con, fun f n h hn => ⟨(C.fn f n h hn).ex⟩, C.xc, fun c f h => ⟨(C.xm c f h).ex⟩, C.xi, C.hw, fun c m f n h => ⟨(C.mt c m f n h).ex⟩, fun c m f h => ⟨(C.pr c m f h).ex⟩, fun c f n ds h => ⟨(C.nw c f n ds h).ex⟩, C.fl⟩
  · unfold visC at h
    split at h
    · rename_i e; exact .inl (keep x _ (by decide) e)
    · rename_i e; exact .inr (.inl (keep x _ (by decide) e))
    · rename_i e
      rcases free x e with q | q
      · exact .inr (.inl q)
      · exact .inr (.inr q)
    · cases h
  · unfold locC at h
    split at h
    · rename_i e; exact ⟨.inl (keep x _ (by decide) e), .inr (keep x _ (by decide) e)⟩
    · rename_i e
      refine ⟨.inr (keep x _ (by decide) e), .inl ?_⟩
      show (scope.names.lookup x == some .cell) = true
      rw [e]; rfl
    · cases h
  · unfold cfC at h
    split at h
    · rename_i e; exact .inl (keep x _ (by decide) e)
    · rename_i e; exact free x e
    · cases h
  · unfold glC at h
    split at h
    · rename_i e; exact keep x _ (by decide) e
    · cases h
theorem After.putOwn {K : PySem.W.Frag} {ms ms1 : List Addr} {Γ Γ1 H H1 : Hp} {μ1 : Store} (A : After K ga ms Γ H ms1 Γ1 μ1 H1) {p : Addr} {o : HO} (h0 : H p = none) (hΓ : Γ1 p = none) (hm : p ∉ ms1) : After K ga ms Γ H ms1 Γ1 μ1 (upd H1 p o) := by
  have S := A.si
  refine ⟨⟨fun a u e => by rw [upd_ne (ne_of_none e hΓ)]; exact S.sub _ _ e, S.len, fun l so a e1 e2 => ?_, S.fr, fun a ha => ?_, S.nd⟩, A.le, A.pre, fun a u e hn => by rw [upd_ne (ne_of_none e h0)]; exact A.keep a u e hn, A.newm, A.newg⟩
  · have z := S.st l so a e1 e2
    have na : a ≠ p := fun e => hm (e ▸ List.mem_of_getElem? e2)
    exact SRep.mono (fun _ _ e => e) List.prefix_rfl (fun o e => by rw [upd_ne na]; exact e) z
  · obtain ⟨u, e⟩ := S.there a ha
    exact ⟨u, by rw [upd_ne (fun e : a = p => hm (e ▸ ha))]; exact e⟩
/-! ### dict displays -/
def pairV : List V → List (V × V)
  | k :: v :: r => (k, v) :: pairV r
  | _ => []
def trsOf (X : Cx) (ga : GA) (G : GT) (W : WX) : Exs → List (TE × TE)
  | .cons k (.cons v es) => (tE X ga G W k, tE X ga G W v) :: trsOf X ga G W es
  | _ => []
theorem pps_of {X : Cx} {sc : Scope} {W : WX} (C : GC X ga G N T sc) (tk : Takes X W) {pos : Pos} : ∀ {es : Exs} {ks : List (Option Expr)} {vs : List Expr}, SAll ga G N T es → chkD N T sc es ks vs = true → PPs X pos ks vs (trsOf X ga G W es)
  | .nil, [], [], _, _ => pps_nil
  | .nil, _ :: _, _, _, h => by simp [chkD] at h
  | .nil, [], _ :: _, _, h => by simp [chkD] at h
  | .cons _ .nil, _, _, _, h => by simp [chkD] at h
  | .cons k (.cons v es), some x :: ks, y :: vs, hs, h => by
    obtain ⟨h1, h2, h3⟩ := and3 (show (chk N T sc k x && chk N T sc v y && chkD N T sc es ks vs) = true from h)
    exact pps_cons (hs.1 X sc x W C tk h1) (hs.2.1 X sc y W C tk h2) (pps_of C tk hs.2.2 h3)
  | .cons k (.cons v es), none :: _, _, _, h => by simp [chkD] at h
  | .cons k (.cons v es), [], _, _, h => by simp [chkD] at h
  | .cons k (.cons v es), some _ :: _, [], _, h => by simp [chkD] at h
theorem pairs_run {X : Cx} {sc : Scope} {W : WX} {σ : L2.St} {ρ : Env} : ∀ {es : Exs} {ks : List (Option Expr)} {vs : List Expr} {ms : List Addr} {Γ : Hp} {μ : Store} {H : Hp} {Q : List (V × V) → Hp → Prop}, chkD N T sc es ks vs = true → SI X.K ga ms Γ μ H → ER X.K ga ms Γ H ρ σ →
    POs X ga ms Γ H (evs G es ρ μ) σ W (fun us H' => Q (pairV us) H') → tPairs (trsOf X ga G W es) σ H Q
  | .nil, _, _, ms, Γ, μ, H, Q, _, S, R, q => q [] H ms Γ (After.refl S) Reps.nil
  | .cons _ .nil, ks, vs, _, _, _, _, _, h, _, _, _ => by cases ks <;> simp [chkD] at h
  | .cons k (.cons v es), some x :: ks, y :: vs, ms, Γ, μ, H, Q, h, S, R, q => by
    obtain ⟨h1, h2, h3⟩ := and3 (show (chk N T sc k x && chk N T sc v y && chkD N T sc es ks vs) = true from h)
    refine stepS (f := fun d μ => (evs G (.cons v es) ρ μ).bind fun ds μ => .ok (d :: ds) μ) S R q fun d μ1 v1 H1 ms1 Γ1 A r R1 q1 => ?_
    refine stepS (f := fun d2 μ => ((evs G es ρ μ).bind fun ds μ => (Out.ok (d2 :: ds) μ : Out (List D))).bind fun ds μ => .ok (d :: ds) μ) A.si R1 (by
      have q1 : POs X ga ms1 Γ1 H1 (((ev G v ρ μ1).bind fun d2 μ => (evs G es ρ μ).bind fun ds μ => (Out.ok (d2 :: ds) μ : Out (List D))).bind fun ds μ => .ok (d :: ds) μ) σ W _ := q1
      rw [Out.bind_assoc] at q1
      exact q1) fun d2 μ2 v2 H2 ms2 Γ2 A2 r2 R2 q2 => ?_
    refine pairs_run h3 A2.si R2 ?_
    cases e : evs G es ρ μ2 with
    | bad => rw [e] at q2; exact q2
    | exc c fs μ3 => rw [e] at q2; exact q2
    | ok ds μ3 =>
      rw [e] at q2
      exact fun us H3 ms3 Γ3 A3 r3 => q2 (v1 :: v2 :: us) H3 ms3 Γ3 A3 (Reps.cons ((r.mono A2.le A2.pre).mono A3.le A3.pre) (Reps.cons (r2.mono A3.le A3.pre) r3))
  | .cons k (.cons v es), none :: _, _, _, _, _, _, _, h, _, _, _ => by simp [chkD] at h
  | .cons k (.cons v es), [], _, _, _, _, _, _, h, _, _, _ => by simp [chkD] at h
  | .cons k (.cons v es), some _ :: _, [], _, _, _, _, _, h, _, _, _ => by simp [chkD] at h
theorem key_rep {K : PySem.W.Frag} {ms : List Addr} {Γ : Hp} {d : D} {v : V} {q : Key} (r : Rep K ga ms Γ d v) (h : keyD d = some q) : v = kV q := by
  cases d with
  | int i => cases h; unfold Rep at r; exact r
  | str s => cases h; unfold Rep at r; exact r.1
  | _ => cases h
theorem pair_rep {K : PySem.W.Frag} {ms : List Addr} {Γ : Hp} : ∀ {ds : List D} {us : List V} {kvs : List (D × D)}, Reps K ga ms Γ ds us → pairD ds = some kvs → kvs.all (fun p => (keyD p.1).isSome) = true →
    ∃ ks : List (Key × V), pairV us = ks.map (fun kv => (kV kv.1, kv.2)) ∧ RepKV K ga ms Γ kvs ks ∧ ks.map (fun p => some p.1) = kvs.map (fun p => keyD p.1)
  | [], us, kvs, r, h, _ => by
    cases h
    rw [r.nil_iff]
    exact ⟨[], rfl, by unfold RepKV; rfl, rfl⟩
  | [_], _, _, _, h, _ => by cases h
  | k :: v :: ds, us, kvs, r, h, ha => by
    obtain ⟨kvs', e, rfl⟩ := map_some (show (pairD ds).map ((k, v) :: ·) = some kvs from h)
    obtain ⟨u1, r1, rfl, g1, r⟩ := r.cons_iff
    obtain ⟨u2, r2, rfl, g2, r⟩ := r.cons_iff
    have ha := Bool.and_eq_true_iff.mp (show ((keyD k).isSome && kvs'.all fun p => (keyD p.1).isSome) = true from ha)
    obtain ⟨q, hq⟩ := Option.isSome_iff_exists.mp ha.1
    obtain ⟨ks, e1, e2, e3⟩ := pair_rep r e ha.2
    refine ⟨(q, u2) :: ks, ?_, ?_, ?_⟩
    · show (u1, u2) :: pairV r2 = _
      rw [e1, key_rep g1 hq]
      rfl
    · unfold RepKV
      exact ⟨q, u2, ks, rfl, hq, g2, e2⟩
    · show some q :: _ = keyD k :: _
      rw [hq, e3]
theorem merge_nodup : ∀ {more kvs : List (Key × V)}, ((kvs ++ more).map fun p => p.1).Nodup → mergeK kvs more = kvs ++ more
  | [], kvs, _ => by rw [List.append_nil]; rfl
  | p :: more, kvs, h => by
    show mergeK (putK kvs p.1 p.2) more = _
    have hn : (kvs.any fun kv => decide (kv.1 = p.1)) = false := by
      rw [List.any_eq_false]
      intro kv hkv
      simp only [decide_eq_true_eq]
      intro e
      rw [List.map_append, List.nodup_append] at h
      exact h.2.2 kv.1 (List.mem_map.mpr ⟨kv, hkv, rfl⟩) p.1 (List.mem_map.mpr ⟨p, List.mem_cons_self .., rfl⟩) e
    have e : putK kvs p.1 p.2 = kvs ++ [p] := by
      unfold putK
      rw [hn, if_neg Bool.false_ne_true]
    rw [e, merge_nodup (by rw [List.append_assoc]; exact h), List.append_assoc]
    rfl
theorem se_dict {es : Exs} (hs : SAll ga G N T es) : SE ga G N T (.dict es) := by
  intro X sc x W C tk h
  cases x with
  | Dict ks vs pos =>
    have h : (chkD N T sc es ks vs && decide (ks.length ≤ 15) && decide (ks.length = vs.length) && ks.all (·.isSome)) = true := h
    simp only [Bool.and_eq_true] at h
    obtain ⟨⟨⟨h1, h2⟩, h3⟩, h4⟩ := h
    cases ks with
    | nil =>
      cases vs with
      | cons _ _ => simp at h3
      | nil =>
        cases es with
        | cons k r => cases r <;> simp [chkD] at h1
        | nil =>
          refine pe_dnewK.mono fun σ H Q ⟨ms, Γ, μ, ρ, S, R, q⟩ => fun p hp => ?_
          have q : LD.PO X ga ms Γ H (.ok (.dct []) μ) σ W Q := q
          have A := After.lay (o := HO.dK []) S hp
          refine q _ _ _ _ A ?_
          unfold Rep
          exact ⟨p, [], rfl, upd_same, by unfold RepKV; rfl⟩
    | cons k0 kr =>
      refine (pe_disp (pps_of C tk hs h1) h4 (of_decide_eq_true h3) (List.cons_ne_nil _ _) (of_decide_eq_true h2)).mono fun σ H Q ⟨ms, Γ, μ, ρ, S, R, q⟩ => fun p hp => ?_
      have hpm : p ∉ ms := fun hm => by
        obtain ⟨u, e⟩ := S.there p hm
        rw [hp] at e; cases e
      have hΓ : Γ p = none := by
        cases e : Γ p with
        | none => rfl
        | some u => rw [S.sub _ _ e] at hp; cases hp
      have A0 := After.layOwn (o := HO.dK []) S hp
      have q : LD.PO X ga ms Γ H ((evs G es ρ μ).bind fun ds μ => match dictD ds with
        | some kvs => .ok (.dct kvs) μ
        | none => .bad) σ W Q := q
      refine pairs_run h1 A0.si (R.mono A0) ?_
      cases e : evs G es ρ μ with
      | bad => rw [e] at q; exact q
      | exc c fs μ1 =>
        rw [e] at q
        exact fun cls dd H' ms' Γ' A r => q cls dd H' ms' Γ' (A0.trans A) r
      | ok ds μ1 =>
        rw [e] at q
        intro us H' ms' Γ' A r
        have q : LD.PO X ga ms Γ H (match dictD ds with
          | some kvs => .ok (.dct kvs) μ1
          | none => .bad) σ W Q := q
        cases e2 : dictD ds with
        | none => rw [e2] at q; exact q.elim
        | some kvs =>
          rw [e2] at q
          unfold dictD at e2
          cases e3 : pairD ds with
          | none => rw [e3] at e2; cases e2
          | some kvs' =>
            rw [e3] at e2
            have e2 : (if keysOk kvs' = true then some kvs' else none) = some kvs := e2
            split at e2
            · rename_i hk
              cases e2
              unfold keysOk at hk
              simp only [Bool.and_eq_true] at hk
              obtain ⟨⟨k1, k2⟩, k3⟩ := hk
              have k1 := of_decide_eq_true k1
              have k3 := of_decide_eq_true k3
              obtain ⟨kv, g1, g2, g3⟩ := pair_rep r e3 k2
              have nd : (kv.map fun p => p.1).Nodup := by
                rw [← g3] at k3
                have : (kv.map fun p => (some p.1 : Option Key)) = (kv.map fun p => p.1).map some := by rw [List.map_map]; rfl
                rw [this] at k3
                exact (List.pairwise_map.mp (show List.Pairwise (· ≠ ·) _ from k3)).imp fun h e => h (congrArg some e)
              have hl : kv.length ≤ 15 := by
                have := congrArg List.length g3
                rw [List.length_map, List.length_map] at this
                omega
              have p1 := A.keep p (.dK []) upd_same hpm
              have p2 : Γ' p = none := by
                cases z : Γ' p with
                | none => rfl
                | some u =>
                  rcases A.newg _ _ z with z1 | z1
                  · rw [hΓ] at z1; cases z1
                  · rw [upd_same] at z1; cases z1
              have p3 : p ∉ ms' := fun hm => by
                rcases A.newm _ hm with z1 | z1
                · exact hpm z1
                · rw [upd_same] at z1; cases z1
              refine ⟨p1, kv, g1, hl, ?_⟩
              rw [merge_nodup (kvs := []) nd, List.nil_append]
              have B := After.putOwn (o := HO.dK kv) (A0.trans A) hp p2 p3
              have D2 : After X.K ga ms Γ H ms' (upd Γ' p (.dK kv)) μ1 (upd H' p (.dK kv)) := ⟨B.si.share upd_same p2 p3, fun a u z => by rw [upd_ne (ne_of_none (B.le _ _ z) p2)]; exact B.le _ _ z, B.pre, B.keep, B.newm, fun a u z => by
                by_cases w : a = p
                · subst w; exact .inr hp
                · rw [upd_ne w] at z; exact B.newg _ _ z⟩
              refine q _ _ _ _ D2 ?_
              unfold Rep
              exact ⟨p, kv, rfl, upd_same, RepKV.mono (fun a u z => by rw [upd_ne (ne_of_none z p2)]; exact z) List.prefix_rfl _ _ g2⟩
            · cases e2
  | _ => exact absurd h (by simp [chk])
theorem se_newd {es : Exs} (hs : SAll ga G N T es) : SE ga G N T (.newd es) := by
  intro X sc x W C tk h
  cases x with
  | Dict ks vs pos =>
    have h : (chkD N T sc es ks vs && decide (ks.length ≤ 15) && decide (ks.length = vs.length) && ks.all (·.isSome)) = true := h
    simp only [Bool.and_eq_true] at h
    obtain ⟨⟨⟨h1, h2⟩, h3⟩, h4⟩ := h
    cases ks with
    | nil =>
      cases vs with
      | cons _ _ => simp at h3
      | nil =>
        cases es with
        | cons k r => cases r <;> simp [chkD] at h1
        | nil =>
          refine pe_dnewK.mono fun σ H Q ⟨ms, Γ, μ, ρ, S, R, q⟩ => fun p hp => ?_
          have q : LD.PO X ga ms Γ H (.ok (.loc μ.length) (μ ++ [.dct []])) σ W Q := q
          have hpm : p ∉ ms := fun hm => by
            obtain ⟨u, e⟩ := S.there p hm
            rw [hp] at e; cases e
          have hΓ : Γ p = none := by
            cases e : Γ p with
            | none => rfl
            | some u => rw [S.sub _ _ e] at hp; cases hp
          have A0 := After.layOwn (o := HO.dK []) S hp
          have S3 := SI.storeD A0.si upd_same hΓ hpm (kvs := []) (ks := []) (by unfold RepKV; rfl)
          have D2 : After X.K ga ms Γ H (ms ++ [p]) Γ (μ ++ [.dct []]) (upd H p (.dK [])) := ⟨S3, A0.le, List.prefix_append _ _, A0.keep, fun a ha => by
            rcases List.mem_append.mp ha with ha | ha
            · exact .inl ha
            · have e : a = p := by simpa using ha
              rw [e]; exact .inr hp, A0.newg⟩
          refine q _ _ _ _ D2 ?_
          unfold Rep
          refine ⟨p, rfl, ?_⟩
          rw [← S.len, List.getElem?_append_right (Nat.le_refl _), Nat.sub_self]
          rfl
    | cons k0 kr =>
      refine (pe_disp (pps_of C tk hs h1) h4 (of_decide_eq_true h3) (List.cons_ne_nil _ _) (of_decide_eq_true h2)).mono fun σ H Q ⟨ms, Γ, μ, ρ, S, R, q⟩ => fun p hp => ?_
      have hpm : p ∉ ms := fun hm => by
        obtain ⟨u, e⟩ := S.there p hm
        rw [hp] at e; cases e
      have hΓ : Γ p = none := by
        cases e : Γ p with
        | none => rfl
        | some u => rw [S.sub _ _ e] at hp; cases hp
      have A0 := After.layOwn (o := HO.dK []) S hp
      have q : LD.PO X ga ms Γ H ((evs G es ρ μ).bind fun ds μ => match dictD ds with
        | some kvs => .ok (.loc μ.length) (μ ++ [.dct kvs])
        | none => .bad) σ W Q := q
      refine pairs_run h1 A0.si (R.mono A0) ?_
      cases e : evs G es ρ μ with
      | bad => rw [e] at q; exact q
      | exc c fs μ1 =>
        rw [e] at q
        exact fun cls dd H' ms' Γ' A r => q cls dd H' ms' Γ' (A0.trans A) r
      | ok ds μ1 =>
        rw [e] at q
        intro us H' ms' Γ' A r
        have q : LD.PO X ga ms Γ H (match dictD ds with
          | some kvs => .ok (.loc μ1.length) (μ1 ++ [.dct kvs])
          | none => .bad) σ W Q := q
        cases e2 : dictD ds with
        | none => rw [e2] at q; exact q.elim
        | some kvs =>
          rw [e2] at q
          unfold dictD at e2
          cases e3 : pairD ds with
          | none => rw [e3] at e2; cases e2
          | some kvs' =>
            rw [e3] at e2
            have e2 : (if keysOk kvs' = true then some kvs' else none) = some kvs := e2
            split at e2
            · rename_i hk
              cases e2
              unfold keysOk at hk
              simp only [Bool.and_eq_true] at hk
              obtain ⟨⟨k1, k2⟩, k3⟩ := hk
              have k1 := of_decide_eq_true k1
              have k3 := of_decide_eq_true k3
              obtain ⟨kv, g1, g2, g3⟩ := pair_rep r e3 k2
              have nd : (kv.map fun p => p.1).Nodup := by
                rw [← g3] at k3
                have : (kv.map fun p => (some p.1 : Option Key)) = (kv.map fun p => p.1).map some := by rw [List.map_map]; rfl
                rw [this] at k3
                exact (List.pairwise_map.mp (show List.Pairwise (· ≠ ·) _ from k3)).imp fun h e => h (congrArg some e)
              have hl : kv.length ≤ 15 := by
                have := congrArg List.length g3
                rw [List.length_map, List.length_map] at this
                omega
              have p1 := A.keep p (.dK []) upd_same hpm
              have p2 : Γ' p = none := by
                cases z : Γ' p with
                | none => rfl
                | some u =>
                  rcases A.newg _ _ z with z1 | z1
                  · rw [hΓ] at z1; cases z1
                  · rw [upd_same] at z1; cases z1
              have p3 : p ∉ ms' := fun hm => by
                rcases A.newm _ hm with z1 | z1
                · exact hpm z1
                · rw [upd_same] at z1; cases z1
              refine ⟨p1, kv, g1, hl, ?_⟩
              rw [merge_nodup (kvs := []) nd, List.nil_append]
              have B := After.putOwn (o := HO.dK kv) (A0.trans A) hp p2 p3
              have S3 := SI.storeD B.si upd_same p2 p3 (kvs := _) (RepKV.mono (fun _ _ e => e) List.prefix_rfl _ _ g2)
              have D2 : After X.K ga ms Γ H (ms' ++ [p]) Γ' (μ1 ++ [.dct kvs]) (upd H' p (.dK kv)) := ⟨S3, B.le, B.pre.trans (List.prefix_append _ _), B.keep, fun a ha => by
                rcases List.mem_append.mp ha with ha | ha
                · exact B.newm a ha
                · have e : a = p := by simpa using ha
                  rw [e]; exact .inr hp, B.newg⟩
              refine q _ _ _ _ D2 ?_
              unfold Rep
              refine ⟨p, rfl, ?_⟩
              rw [← B.si.len, List.getElem?_append_right (Nat.le_refl _), Nat.sub_self]
              rfl
            · cases e2
  | _ => exact absurd h (by simp [chk])
/-- the outcome is a new list that nobody shares -/
def PF (X : Cx) (ga : GA) (ms : List Addr) (Γ : Hp) (H : Hp) (o : Out D) (σ : L2.St) (W : WX) (Q : VK) : Prop := match o with
  | .ok d μ' => (match d with
    | .lst xs => ∀ p vs H' ms' Γ', After X.K ga ms Γ H ms' Γ' μ' H' → H' p = some (.lst vs) → Γ' p = none → p ∉ ms' → H p = none → xs.length ≤ sizeLine → Reps X.K ga ms' Γ' xs vs → Q (.ref p) H'
    | _ => False)
  | .exc c fs μ' => ∀ cls dd H' ms' Γ', After X.K ga ms Γ H ms' Γ' μ' H' → XRep X.K ga ms' Γ' H' c fs cls dd → W cls dd σ H'
  | .bad => False
theorem PF.shift {X : Cx} {ms ms1 : List Addr} {Γ Γ1 H H1 : Hp} {μ1 : Store} {o : Out D} {σ : L2.St} {W : WX} {Q : VK} (q : PF X ga ms Γ H o σ W Q) (A : After X.K ga ms Γ H ms1 Γ1 μ1 H1) : PF X ga ms1 Γ1 H1 o σ W Q := by
  cases o with
  | ok d μ' =>
    cases d with
    | lst xs => exact fun p vs H' ms' Γ' B h1 h2 h3 h4 h5 h6 => q p vs H' ms' Γ' (A.trans B) h1 h2 h3 (A.none_back h4 fun hm => h3 ((A.pre.trans B.pre).subset hm)) h5 h6
    | _ => exact q
  | exc c fs μ' => exact fun cls dd H' ms' Γ' B r => q cls dd H' ms' Γ' (A.trans B) r
  | bad => exact q
theorem PF.of {X : Cx} {ms : List Addr} {Γ H : Hp} {o : Out D} {σ : L2.St} {W : WX} {Q : VK} (hl : ∀ d μ, o = .ok d μ → ∃ xs, d = .lst xs) (q : PO X ga ms Γ H o σ W Q) : PF X ga ms Γ H o σ W Q := by
  cases o with
  | ok d μ' =>
    obtain ⟨xs, rfl⟩ := hl d μ' rfl
    intro p vs H' ms' Γ' A h1 h2 h3 h4 h5 h6
    have B : After X.K ga ms Γ H ms' (upd Γ' p (.lst vs)) μ' H' := ⟨A.si.share h1 h2 h3, fun a u e => by rw [upd_ne (ne_of_none (A.le _ _ e) h2)]; exact A.le _ _ e, A.pre, A.keep, A.newm, fun a u e => by
      by_cases q : a = p
      · subst q; exact .inr h4
      · rw [upd_ne q] at e; exact A.newg _ _ e⟩
    refine q _ _ _ _ B ?_
    unfold Rep
    exact ⟨p, vs, rfl, upd_same, h5, h6.mono (fun a u e => by rw [upd_ne (ne_of_none e h2)]; exact e) List.prefix_rfl⟩
  | exc c fs μ' => exact q
  | bad => exact q
/-- a comprehension by its turn -/
theorem lc_main {X : Cx} {t : Tg} {k : IK} {its : Exs} {W : WX} {f : D → Store → Out (Option D)} {tt : TT} {te : TE} {ms : List Addr} {Γ : Hp} {μ : Store} {ρ : Env} {σ : L2.St} {H : Hp} {Q : VK} (S : SI X.K ga ms Γ μ H) (R : ER X.K ga ms Γ H ρ σ)
    (turn : ∀ (x : D) (v : V) (r : Option D) (ms2 : List Addr) (Γ2 : Hp) (μ2 μ3 : Store) (H2 : Hp), SI X.K ga ms2 Γ2 μ2 H2 → ER X.K ga ms2 Γ2 H2 (wipeE ρ t.slots) (wipe σ t.slots) → IRep X.K ga k ms2 Γ2 H2 x v → f x μ2 = .ok r μ3 →
      (∀ (P : Option V → Hp → Prop), (∀ (w : Option V) (H' : Hp) (ms' : List Addr) (Γ' : Hp), After X.K ga ms2 Γ2 H2 ms' Γ' μ3 H' → (match r, w with | some d, some v => Rep X.K ga ms' Γ' d v | none, none => True | _, _ => False) → P w H') →
        gT X.K t v (wipe σ t.slots) H2 fun σ2 H2 => wipe σ2 t.slots = wipe σ t.slots ∧ tt σ2 H2 fun b H3 => if b = true then te σ2 H3 fun y H4 => P (some y) H4 else P none H3))
    (q : PF X ga ms Γ H ((evs G its ρ μ).bind fun ds μ => match iterD k ds with
      | some xs => (compLoop f xs [] μ).bind fun ys μ => .ok (.lst ys) μ
      | none => .bad) σ W Q) : tLc (tI X ga G W k its) (gT X.K t) tt te t.slots σ H Q := by
  refine ⟨ms, Γ, μ, ρ, S, R, ?_⟩
  cases e1 : evs G its ρ μ with
  | bad => rw [e1] at q; exact q
  | exc c fs μ1 => rw [e1] at q; exact q
  | ok ds μ1 =>
    rw [e1] at q
    have q : PF X ga ms Γ H (match iterD k ds with
      | some xs => (compLoop f xs [] μ1).bind fun ys μ => .ok (.lst ys) μ
      | none => .bad) σ W Q := q
    show match iterD k ds with
      | some xs => _
      | none => False
    cases e2 : iterD k ds with
    | none => rw [e2] at q; exact q
    | some xs =>
      rw [e2] at q
      have q : PF X ga ms Γ H ((compLoop f xs [] μ1).bind fun ys μ => .ok (.lst ys) μ) σ W Q := q
      intro J H1 ms1 Γ1 A hz ok D0 hD
      have q := PF.shift q A
      have S1 := A.si
      cases e3 : compLoop f xs [] μ1 with
      | bad => rw [e3] at q; exact q.elim
      | exc c fs μ' =>
        exfalso
        have : ∀ (xs acc : List D) (μ : Store), compLoop f xs acc μ ≠ .exc c fs μ' := by
          intro xs
          induction xs with
          | nil => intro acc μ e; cases e
          | cons x xs ih =>
            intro acc μ e
            unfold compLoop at e
            split at e
            · exact ih _ _ e
            · exact ih _ _ e
            · cases e
        exact this _ _ _ e3
      | ok ys μe =>
        rw [e3] at q
        have hD1 : Γ1 D0 = none := by
          cases e : Γ1 D0 with
          | none => rfl
          | some u => rw [S1.sub _ _ e] at hD; cases hD
        have hDm : D0 ∉ ms1 := fun hm => by
          obtain ⟨u, e⟩ := S1.there D0 hm
          rw [hD] at e; cases e
        refine ⟨fun i m H2 => m = xs.length - i ∧ i ≤ xs.length ∧ ∃ ms2 Γ2 μ2 acc vacc, After X.K ga ms1 Γ1 H1 ms2 Γ2 μ2 H2 ∧ H2 D0 = some (.lst vacc) ∧ Γ2 D0 = none ∧ D0 ∉ ms2 ∧ Reps X.K ga ms2 Γ2 acc vacc ∧ acc.length ≤ i ∧ compLoop f (xs.drop i) acc μ2 = .ok ys μe,
          ⟨_, rfl, Nat.zero_le _, ms1, Γ1, μ1, [], [], After.layOwn S1 hD, upd_same, hD1, hDm, Reps.nil, Nat.le_refl _, by rw [List.drop_zero]; exact e3⟩, ?_⟩
        rintro i m H2 ⟨hm, hi, ms2, Γ2, μ2, acc, vacc, A2, g1, g2, g3, g4, g5, g6⟩
        obtain ⟨ok1, ok2, ok3⟩ := ok H2 ms2 Γ2 μ2 A2.le A2.pre A2.si
        rcases Nat.lt_or_ge i xs.length with hi' | hi'
        · right
          refine ⟨ok1 i hi', fun H' => ∃ m', m' < m ∧ (m' = xs.length - (i + 1) ∧ i + 1 ≤ xs.length ∧ ∃ ms2 Γ2 μ2 acc vacc, After X.K ga ms1 Γ1 H1 ms2 Γ2 μ2 H' ∧ H' D0 = some (.lst vacc) ∧ Γ2 D0 = none ∧ D0 ∉ ms2 ∧ Reps X.K ga ms2 Γ2 acc vacc ∧ acc.length ≤ i + 1 ∧ compLoop f (xs.drop (i + 1)) acc μ2 = .ok ys μe), fun H' h => h, fun w H' hy => ?_⟩
          obtain ⟨A', dx, hx', rw'⟩ := ok3 i w H' hy hi'
          have hx : xs[i]? = some xs[i] := List.getElem?_eq_getElem hi'
          rw [hx] at hx'
          cases hx'
          have A2 := A2.trans A'
          have g1 := A'.keep _ _ g1 g3
          have dr : xs.drop i = xs[i] :: xs.drop (i + 1) := by rw [List.drop_eq_getElem_cons hi']
          rw [dr] at g6
          unfold compLoop at g6
          have Rw : ER X.K ga ms2 Γ2 H' (wipeE ρ t.slots) (wipe σ t.slots) := ((R.mono A).mono A2).wipe t.slots
          cases e4 : f xs[i] μ2 with
          | bad => rw [e4] at g6; cases g6
          | exc c fs μ' => rw [e4] at g6; cases g6
          | ok ro μ3 =>
            rw [e4] at g6
            refine turn xs[i] w ro ms2 Γ2 μ2 μ3 H' A2.si Rw rw' e4
              (fun y H4 => match y with
                | some y => ∃ acc, H4 D0 = some (.lst acc) ∧ acc.length < sizeLine ∧ ∃ m', m' < m ∧ (m' = xs.length - (i + 1) ∧ i + 1 ≤ xs.length ∧ ∃ ms2 Γ2 μ2 acc' vacc, After X.K ga ms1 Γ1 H1 ms2 Γ2 μ2 (upd H4 D0 (.lst (acc ++ [y]))) ∧ (upd H4 D0 (.lst (acc ++ [y]))) D0 = some (.lst vacc) ∧ Γ2 D0 = none ∧ D0 ∉ ms2 ∧ Reps X.K ga ms2 Γ2 acc' vacc ∧ acc'.length ≤ i + 1 ∧ compLoop f (xs.drop (i + 1)) acc' μ2 = .ok ys μe)
                | none => ∃ m', m' < m ∧ (m' = xs.length - (i + 1) ∧ i + 1 ≤ xs.length ∧ ∃ ms2 Γ2 μ2 acc vacc, After X.K ga ms1 Γ1 H1 ms2 Γ2 μ2 H4 ∧ H4 D0 = some (.lst vacc) ∧ Γ2 D0 = none ∧ D0 ∉ ms2 ∧ Reps X.K ga ms2 Γ2 acc vacc ∧ acc.length ≤ i + 1 ∧ compLoop f (xs.drop (i + 1)) acc μ2 = .ok ys μe)) ?_
            intro wo H4 ms4 Γ4 A4 hro
            have k1 := A4.keep _ _ g1 g3
            have k2 : Γ4 D0 = none := by
              cases e : Γ4 D0 with
              | none => rfl
              | some u =>
                rcases A4.newg _ _ e with q1 | q1
                · rw [g2] at q1; cases q1
                · rw [g1] at q1; cases q1
            have k3 : D0 ∉ ms4 := fun hm4 => by
              rcases A4.newm _ hm4 with q1 | q1
              · exact g3 q1
              · rw [g1] at q1; cases q1
            have A14 := A2.trans A4
            cases ro with
            | none =>
              cases wo with
              | some _ => exact hro.elim
              | none => exact ⟨_, by omega, rfl, by omega, ms4, Γ4, μ3, acc, vacc, A14, k1, k2, k3, g4.mono A4.le A4.pre, by omega, g6⟩
            | some d =>
              cases wo with
              | none => exact hro.elim
              | some y =>
                have hro : Rep X.K ga ms4 Γ4 d y := hro
                refine ⟨vacc, k1, ?_, _, by omega, rfl, by omega, ms4, Γ4, μ3, acc ++ [d], vacc ++ [y], A14.putOwn hD k2 k3, upd_same, k2, k3, (g4.mono A4.le A4.pre).append (Reps.cons hro Reps.nil), ?_, g6⟩
                · rw [← g4.length]; omega
                · rw [List.length_append]; exact Nat.add_le_add_right g5 1
        · left
          have e : i = xs.length := Nat.le_antisymm hi hi'
          subst e
          refine ⟨ok2, ?_⟩
          rw [List.drop_length] at g6
          cases g6
          exact q D0 vacc H2 ms2 Γ2 A2 g1 g2 g3 hD (Nat.le_trans g5 hz) g4
theorem bind_ok_inv {α β : Type} {o : Out α} {f : α → Store → Out β} {b : β} {μ : Store} (h : o.bind f = .ok b μ) : ∃ a μ1, o = .ok a μ1 ∧ f a μ1 = .ok b μ := by
  cases o with
  | ok a μ1 => exact ⟨a, μ1, rfl, h⟩
  | exc c fs μ1 => cases h
  | bad => cases h
abbrev W0 : WX := fun _ _ _ _ => False
theorem slots_refl (t : Tg) (σ : L2.St) : wipe (wipe σ t.slots) t.slots = wipe σ t.slots := wipe_wipe σ t.slots t.slots fun _ h => h
/-- the reading of an expression that makes a new list -/
def tF (X : Cx) (ga : GA) (G : GT) (W : WX) (e : Ex) : TE := fun σ H Q => ∃ ms Γ μ ρ, SI X.K ga ms Γ μ H ∧ ER X.K ga ms Γ H ρ σ ∧ PF X ga ms Γ H (ev G e ρ μ) σ W Q
/-- .. as a value, and given to a name on its own line -/
def SFL (ga : GA) (G : GT) (N : List Str) (T : Tb) (e : Ex) : Prop := ∀ (X : Cx) (sc : Scope) (x : Expr) (W : WX), GC X ga G N T sc → Takes X W → chk N T sc e x = true → PE X x (tF X ga G W e) ∧
  ∀ (i : Nat) (y : Str) (py spos : Pos), N[i]? = some y → X.env.scope.names.lookup y = some .local → swapsWith x (some (.Name y py)) spos.line X.env = pure true → PS X (.Assign [.Name y py] x spos) (tAsg (tF X ga G W e) (gName i))
/-- what an expression yields is a list -/
def ListOnly (G : GT) (e : Ex) : Prop := ∀ ρ μ d μ', ev G e ρ μ = .ok d μ' → ∃ xs, d = .lst xs
theorem tF_of {X : Cx} {W : WX} {e : Ex} (hl : ListOnly G e) {σ : L2.St} {H : Hp} {Q : VK} (h : tE X ga G W e σ H Q) : tF X ga G W e σ H Q := by
  obtain ⟨ms, Γ, μ, ρ, S, R, q⟩ := h
  exact ⟨ms, Γ, μ, ρ, S, R, PF.of (fun d μ' e1 => hl ρ μ d μ' e1) q⟩
theorem se_of_sfl {e : Ex} (h : SFL ga G N T e) (hl : ListOnly G e) : SE ga G N T e := fun X sc x W C tk hc => (h X sc x W C tk hc).1.mono fun σ H Q q => tF_of hl q
theorem lo_comp0 (elt : Ex) (t : Tg) (k : IK) (its : Exs) : ListOnly G (.comp elt t k its none) := fun ρ μ d μ' e => by
  obtain ⟨ds, μ1, _, e2⟩ := bind_ok_inv (show (evs G its ρ μ).bind _ = .ok d μ' from e)
  split at e2
  · obtain ⟨ys, μ2, _, e3⟩ := bind_ok_inv e2
    cases e3
    exact ⟨ys, rfl⟩
  · cases e2
theorem lo_comp1 (elt c : Ex) (t : Tg) (k : IK) (its : Exs) : ListOnly G (.comp elt t k its (some c)) := fun ρ μ d μ' e => by
  obtain ⟨ds, μ1, _, e2⟩ := bind_ok_inv (show (evs G its ρ μ).bind _ = .ok d μ' from e)
  split at e2
  · obtain ⟨ys, μ2, _, e3⟩ := bind_ok_inv e2
    cases e3
    exact ⟨ys, rfl⟩
  · cases e2
theorem sf_comp0 {elt : Ex} {t : Tg} {k : IK} {its : Exs} (he : SE ga G N T elt) (hs : SA ga G N T its) (hv : ∀ e, its = .cons e .nil → SE ga G N T e) : SFL ga G N T (.comp elt t k its none) := by
  intro X sc x W C tk h
  cases x with
  | ListComp e gs scope pos =>
    match gs, h with
    | [⟨tg, it, [], as⟩], h =>
      have h : (zipT k t && decide (as = 0) && chk N T scope elt e && tgC N scope t tg && itC N T sc k its it && blkOkC N sc scope t.slots) = true := h
      simp only [Bool.and_eq_true] at h
      obtain ⟨⟨⟨⟨⟨hzt, h0⟩, h1⟩, h2⟩, h3⟩, h4⟩ := h
      have e0 := of_decide_eq_true h0
      subst e0
      obtain ⟨b1, b2, b3⟩ := blk_ok C h4
      have hf0 : ∀ v, foldedSetIterable it X.env v = pure v := it_fold h3
      have hp := pe_lc (elt := e) (ifs := []) (pos := pos) (tt := tYes) (te := tE X ga G W0 elt) (g := gT X.K t) C.calm (by rw [C.hN]; exact C.nd) (pi_ok (tg := tg) hs hv C tk h3 (zip_tg hzt h2)) b1
        (fun s H Ca cl fp => pg_ok (gc_blk C b3 s H Ca cl fp) h2) (fun _ _ _ _ _ => pts_nil) (fun s H Ca cl fp => he _ scope e W0 (gc_blk C b3 s H Ca cl fp) takes0 h1)
        hf0
      have hp2 := fun (i : Nat) (y : Str) (py spos : Pos) (g1 : X.N[i]? = some y) (g2 : X.env.scope.names.lookup y = some .local) (g3 : swapsWith (.ListComp e [⟨tg, it, [], 0⟩] scope pos) (some (.Name y py)) spos.line X.env = pure true) => ps_setLc (i := i) (y := y) (py := py) (spos := spos) (elt := e) (ifs := []) (pos := pos) (tt := tYes) (te := tE X ga G W0 elt) (g := gT X.K t) C.calm (by rw [C.hN]; exact C.nd) g1 g2 g3 (pi_ok (tg := tg) hs hv C tk h3 (zip_tg hzt h2)) b1
        (fun s H Ca cl fp => pg_ok (gc_blk C b3 s H Ca cl fp) h2) (fun _ _ _ _ _ => pts_nil) (fun s H Ca cl fp => he _ scope e W0 (gc_blk C b3 s H Ca cl fp) takes0 h1)
        hf0
      rw [b2] at hp
      rw [b2] at hp2
      have key : ∀ σ H Q, tF X ga G W (.comp elt t k its none) σ H Q → tLc (tI X ga G W k its) (gT X.K t) tYes (tE X ga G W0 elt) t.slots σ H Q := by
       rintro σ H Q ⟨ms, Γ, μ, ρ, S, R, q⟩
       refine lc_main (f := fun x μ => match bindT (wipeE ρ t.slots) t x with
         | some ρ' => (ev G elt ρ' μ).bind fun y μ => .ok (some y) μ
         | none => .bad) S R ?_ q
       intro x v r ms2 Γ2 μ2 μ3 H2 S2 R2 rx hf P hP
       split at hf
       · rename_i ρ' e1
         obtain ⟨y, μ4, e2, e3⟩ := bind_ok_inv hf
         cases e3
         refine tg_useI hzt S2.sub R2 rx e1 fun σ' R' hw => ⟨by rw [hw t.slots fun _ h => h, slots_refl], ?_⟩
         unfold tYes
         dsimp only
         rw [if_pos rfl]
         refine ⟨ms2, Γ2, μ2, ρ', S2, R', ?_⟩
         rw [e2]
         exact fun w H4 ms4 Γ4 A4 r4 => hP (some w) H4 ms4 Γ4 A4 r4
       · cases hf
      exact ⟨hp.mono key, fun i y py spos g1 g2 g3 => ⟨fun pins s σ H D I hw => (hp2 i y py spos (by rw [C.hN]; exact g1) g2 g3).run pins s σ H D I (key σ H _ hw)⟩⟩
    | [], h => simp [chk] at h
    | [⟨_, _, _ :: _, _⟩], h => simp [chk] at h
    | _ :: _ :: _, h => simp [chk] at h
  | _ => exact absurd h (by simp [chk])
theorem sf_comp1 {elt c : Ex} {t : Tg} {k : IK} {its : Exs} (he : SE ga G N T elt) (hc : ST ga G N T c) (hs : SA ga G N T its) (hv : ∀ e, its = .cons e .nil → SE ga G N T e) : SFL ga G N T (.comp elt t k its (some c)) := by
  intro X sc x W C tk h
  cases x with
  | ListComp e gs scope pos =>
    match gs, h with
    | [⟨tg, it, [cc], as⟩], h =>
      have h : (zipT k t && decide (as = 0) && chk N T scope elt e && chk N T scope c cc && tgC N scope t tg && itC N T sc k its it && blkOkC N sc scope t.slots) = true := h
      simp only [Bool.and_eq_true] at h
      obtain ⟨⟨⟨⟨⟨⟨hzt, h0⟩, h1⟩, h1'⟩, h2⟩, h3⟩, h4⟩ := h
      have e0 := of_decide_eq_true h0
      subst e0
      obtain ⟨b1, b2, b3⟩ := blk_ok C h4
      have hf0 : ∀ v, foldedSetIterable it X.env v = pure v := it_fold h3
      have hp := pe_lc (elt := e) (ifs := [cc]) (pos := pos) (tt := tT X ga G W0 c) (te := tE X ga G W0 elt) (g := gT X.K t) C.calm (by rw [C.hN]; exact C.nd) (pi_ok (tg := tg) hs hv C tk h3 (zip_tg hzt h2)) b1
        (fun s H Ca cl fp => pg_ok (gc_blk C b3 s H Ca cl fp) h2) (fun s H Ca cl fp => pts_one (hc _ scope cc W0 (gc_blk C b3 s H Ca cl fp) takes0 h1')) (fun s H Ca cl fp => he _ scope e W0 (gc_blk C b3 s H Ca cl fp) takes0 h1)
        hf0
      have hp2 := fun (i : Nat) (y : Str) (py spos : Pos) (g1 : X.N[i]? = some y) (g2 : X.env.scope.names.lookup y = some .local) (g3 : swapsWith (.ListComp e [⟨tg, it, [cc], 0⟩] scope pos) (some (.Name y py)) spos.line X.env = pure true) => ps_setLc (i := i) (y := y) (py := py) (spos := spos) (elt := e) (ifs := [cc]) (pos := pos) (tt := tT X ga G W0 c) (te := tE X ga G W0 elt) (g := gT X.K t) C.calm (by rw [C.hN]; exact C.nd) g1 g2 g3 (pi_ok (tg := tg) hs hv C tk h3 (zip_tg hzt h2)) b1
        (fun s H Ca cl fp => pg_ok (gc_blk C b3 s H Ca cl fp) h2) (fun s H Ca cl fp => pts_one (hc _ scope cc W0 (gc_blk C b3 s H Ca cl fp) takes0 h1')) (fun s H Ca cl fp => he _ scope e W0 (gc_blk C b3 s H Ca cl fp) takes0 h1)
        hf0
      rw [b2] at hp
      rw [b2] at hp2
      have key : ∀ σ H Q, tF X ga G W (.comp elt t k its (some c)) σ H Q → tLc (tI X ga G W k its) (gT X.K t) (tT X ga G W0 c) (tE X ga G W0 elt) t.slots σ H Q := by
       rintro σ H Q ⟨ms, Γ, μ, ρ, S, R, q⟩
       refine lc_main (f := fun x μ => match bindT (wipeE ρ t.slots) t x with
         | some ρ' => (testOf (ev G c ρ' μ)).bind fun b μ => if b then (ev G elt ρ' μ).bind fun y μ => .ok (some y) μ else .ok none μ
         | none => .bad) S R ?_ q
       intro x v r ms2 Γ2 μ2 μ3 H2 S2 R2 rx hf P hP
       split at hf
       · rename_i ρ' e1
         obtain ⟨b, μ4, e2, e3⟩ := bind_ok_inv hf
         refine tg_useI hzt S2.sub R2 rx e1 fun σ' R' hw => ⟨by rw [hw t.slots fun _ h => h, slots_refl], ?_⟩
         refine ⟨ms2, Γ2, μ2, ρ', S2, R', ?_⟩
         rw [e2]
         intro H3 ms3 Γ3 A3
         cases b with
         | true =>
           rw [if_pos rfl] at e3 ⊢
           obtain ⟨y, μ5, e4, e5⟩ := bind_ok_inv e3
           cases e5
           refine ⟨ms3, Γ3, μ4, ρ', A3.si, R'.mono A3, ?_⟩
           rw [e4]
           exact fun w H4 ms4 Γ4 A4 r4 => hP (some w) H4 ms4 Γ4 (A3.trans A4) r4
         | false =>
           rw [if_neg Bool.false_ne_true] at e3 ⊢
           cases e3
           exact hP none H3 ms3 Γ3 A3 trivial
       · cases hf
      exact ⟨hp.mono key, fun i y py spos g1 g2 g3 => ⟨fun pins s σ H D I hw => (hp2 i y py spos (by rw [C.hN]; exact g1) g2 g3).run pins s σ H D I (key σ H _ hw)⟩⟩
    | [], h => simp [chk] at h
    | [⟨_, _, [], _⟩], h => simp [chk] at h
    | [⟨_, _, _ :: _ :: _, _⟩], h => simp [chk] at h
    | _ :: _ :: _, h => simp [chk] at h
  | _ => exact absurd h (by simp [chk])
/-! ### comprehensions over objects of the store -/
theorem opt_inv {o : Option D} {d : D} {μ μ1 : Store} (h : opt o μ = .ok d μ1) : o = some d ∧ μ1 = μ := by
  cases o with
  | none => cases h
  | some x => cases h; exact ⟨rfl, rfl⟩
theorem idx_pure {x y d : D} (h : idxD x y [] = some d) (μ : Store) : idxD x y μ = some d := by
  cases x with
  | loc l => cases y <;> simp [idxD] at h
  | _ => cases y <;> exact h
mutual
theorem pure_ev : ∀ (e : Ex), pureE e = true → ∀ (ρ : Env) (μ1 : Store) (d : D), ev G e ρ [] = .ok d μ1 → μ1 = [] ∧ ∀ μ, ev G e ρ μ = .ok d μ
  | .con c, _, ρ, μ1, d, e => by cases e; exact ⟨rfl, fun μ => rfl⟩
  | .var i, _, ρ, μ1, d, e => by
    obtain ⟨e1, rfl⟩ := opt_inv (show opt (ρ.get i) [] = .ok d μ1 from e)
    exact ⟨rfl, fun μ => by show opt (ρ.get i) μ = _; rw [e1]; rfl⟩
  | .glob x, _, ρ, μ1, d, e => by
    obtain ⟨e1, rfl⟩ := opt_inv (show opt (G.con x) [] = .ok d μ1 from e)
    exact ⟨rfl, fun μ => by show opt (G.con x) μ = _; rw [e1]; rfl⟩
  | .bin op a b, h, ρ, μ1, d, e => by
    obtain ⟨ha, hb⟩ := Bool.and_eq_true_iff.mp (show (pureE a && pureE b) = true from h)
    obtain ⟨x, μa, e1, e2⟩ := bind_ok_inv (show (ev G a ρ []).bind _ = .ok d μ1 from e)
    obtain ⟨rfl, k1⟩ := pure_ev a ha ρ μa x e1
    obtain ⟨y, μb, e3, e4⟩ := bind_ok_inv e2
    obtain ⟨rfl, k2⟩ := pure_ev b hb ρ μb y e3
    obtain ⟨e5, rfl⟩ := opt_inv e4
    refine ⟨rfl, fun μ => ?_⟩
    show (ev G a ρ μ).bind _ = _
    rw [k1]
    show (ev G b ρ μ).bind _ = _
    rw [k2]
    show opt (binop op x y) μ = _
    rw [e5]
    rfl
  | .cmp op a b, h, ρ, μ1, d, e => by
    obtain ⟨ha, hb⟩ := Bool.and_eq_true_iff.mp (show (pureE a && pureE b) = true from h)
    obtain ⟨x, μa, e1, e2⟩ := bind_ok_inv (show (ev G a ρ []).bind _ = .ok d μ1 from e)
    obtain ⟨rfl, k1⟩ := pure_ev a ha ρ μa x e1
    obtain ⟨y, μb, e3, e4⟩ := bind_ok_inv e2
    obtain ⟨rfl, k2⟩ := pure_ev b hb ρ μb y e3
    obtain ⟨e5, rfl⟩ := opt_inv e4
    refine ⟨rfl, fun μ => ?_⟩
    show (ev G a ρ μ).bind _ = _
    rw [k1]
    show (ev G b ρ μ).bind _ = _
    rw [k2]
    show opt ((cmpop op x y).map .bl) μ = _
    rw [e5]
    rfl
  | .idx a b, h, ρ, μ1, d, e => by
    obtain ⟨ha, hb⟩ := Bool.and_eq_true_iff.mp (show (pureE a && pureE b) = true from h)
    obtain ⟨x, μa, e1, e2⟩ := bind_ok_inv (show (ev G a ρ []).bind _ = .ok d μ1 from e)
    obtain ⟨rfl, k1⟩ := pure_ev a ha ρ μa x e1
    obtain ⟨y, μb, e3, e4⟩ := bind_ok_inv e2
    obtain ⟨rfl, k2⟩ := pure_ev b hb ρ μb y e3
    obtain ⟨e5, rfl⟩ := opt_inv e4
    refine ⟨rfl, fun μ => ?_⟩
    show (ev G a ρ μ).bind _ = _
    rw [k1]
    show (ev G b ρ μ).bind _ = _
    rw [k2]
    show opt (idxD x y μ) μ = _
    rw [idx_pure e5]
    rfl
  | .and_ a b, h, ρ, μ1, d, e => by
    obtain ⟨ha, hb⟩ := Bool.and_eq_true_iff.mp (show (pureE a && pureE b) = true from h)
    obtain ⟨x, μa, e1, e2⟩ := bind_ok_inv (show (ev G a ρ []).bind _ = .ok d μ1 from e)
    obtain ⟨rfl, k1⟩ := pure_ev a ha ρ μa x e1
    have key : ∀ μ, ev G (.and_ a b) ρ μ = (match truthy x with
      | some true => ev G b ρ μ
      | some false => .ok x μ
      | none => .bad) := fun μ => by
      show (ev G a ρ μ).bind _ = _
      rw [k1]
      rfl
    have e2 : (match truthy x with
      | some true => ev G b ρ []
      | some false => .ok x []
      | none => .bad) = .ok d μ1 := e2
    cases q : truthy x with
    | none => rw [q] at e2; cases e2
    | some v =>
      cases v with
      | true =>
        rw [q] at e2
        obtain ⟨rfl, k2⟩ := pure_ev b hb ρ μ1 d e2
        exact ⟨rfl, fun μ => by rw [key, q]; exact k2 μ⟩
      | false =>
        rw [q] at e2
        cases e2
        exact ⟨rfl, fun μ => by rw [key, q]⟩
  | .or_ a b, h, ρ, μ1, d, e => by
    obtain ⟨ha, hb⟩ := Bool.and_eq_true_iff.mp (show (pureE a && pureE b) = true from h)
    obtain ⟨x, μa, e1, e2⟩ := bind_ok_inv (show (ev G a ρ []).bind _ = .ok d μ1 from e)
    obtain ⟨rfl, k1⟩ := pure_ev a ha ρ μa x e1
    have key : ∀ μ, ev G (.or_ a b) ρ μ = (match truthy x with
      | some true => .ok x μ
      | some false => ev G b ρ μ
      | none => .bad) := fun μ => by
      show (ev G a ρ μ).bind _ = _
      rw [k1]
      rfl
    have e2 : (match truthy x with
      | some true => Out.ok x []
      | some false => ev G b ρ []
      | none => .bad) = .ok d μ1 := e2
    cases q : truthy x with
    | none => rw [q] at e2; cases e2
    | some v =>
      cases v with
      | false =>
        rw [q] at e2
        obtain ⟨rfl, k2⟩ := pure_ev b hb ρ μ1 d e2
        exact ⟨rfl, fun μ => by rw [key, q]; exact k2 μ⟩
      | true =>
        rw [q] at e2
        cases e2
        exact ⟨rfl, fun μ => by rw [key, q]⟩
  | .not_ a, h, ρ, μ1, d, e => by
    obtain ⟨x, μa, e1, e2⟩ := bind_ok_inv (show (ev G a ρ []).bind _ = .ok d μ1 from e)
    obtain ⟨rfl, k1⟩ := pure_ev a h ρ μa x e1
    obtain ⟨e5, rfl⟩ := opt_inv e2
    refine ⟨rfl, fun μ => ?_⟩
    show (ev G a ρ μ).bind _ = _
    rw [k1]
    show opt ((truthy x).map fun b => .bl (!b)) μ = _
    rw [e5]
    rfl
  | .tup es, h, ρ, μ1, d, e => by
    obtain ⟨ds, μa, e1, e2⟩ := bind_ok_inv (show (evs G es ρ []).bind _ = .ok d μ1 from e)
    obtain ⟨rfl, k1⟩ := pure_evs es h ρ μa ds e1
    have e2 : (if ds.length ≤ LINE then Out.ok (.tup ds) [] else .bad) = .ok d μ1 := e2
    split at e2
    · rename_i hl
      cases e2
      refine ⟨rfl, fun μ => ?_⟩
      show (evs G es ρ μ).bind _ = _
      rw [k1]
      exact if_pos hl
    · cases e2
theorem pure_evs : ∀ (es : Exs), pureEs es = true → ∀ (ρ : Env) (μ1 : Store) (ds : List D), evs G es ρ [] = .ok ds μ1 → μ1 = [] ∧ ∀ μ, evs G es ρ μ = .ok ds μ
  | .nil, _, ρ, μ1, ds, e => by cases e; exact ⟨rfl, fun μ => rfl⟩
  | .cons a es, h, ρ, μ1, ds, e => by
    obtain ⟨ha, hb⟩ := Bool.and_eq_true_iff.mp (show (pureE a && pureEs es) = true from h)
    obtain ⟨x, μa, e1, e2⟩ := bind_ok_inv (show (ev G a ρ []).bind _ = .ok ds μ1 from e)
    obtain ⟨rfl, k1⟩ := pure_ev a ha ρ μa x e1
    obtain ⟨ys, μb, e3, e4⟩ := bind_ok_inv e2
    obtain ⟨rfl, k2⟩ := pure_evs es hb ρ μb ys e3
    cases e4
    refine ⟨rfl, fun μ => ?_⟩
    show (ev G a ρ μ).bind _ = _
    rw [k1]
    show (evs G es ρ μ).bind _ = _
    rw [k2]
    rfl
end
/-- a dict with tuple keys, key by key -/
def Itn (w : World) (a : Addr) (n ep : Nat) : It :=
  ⟨fun i H => (∃ xs, H a = some (.ext (DN w a xs ep)) ∧ xs.length = n) ∧ i < n, fun i H x H' => H' = H ∧ ∀ xs, H a = some (.ext (DN w a xs ep)) → ∃ y, xs[i]? = some y ∧ x = .ref y.2.1, fun i H => (∃ xs, H a = some (.ext (DN w a xs ep)) ∧ xs.length = n) ∧ n ≤ i⟩
theorem dn_ent {w : World} {a : Addr} {xs : List (NestedKey × Addr × Value)} {es : Array DictEntry} (h : es.toList = xs.map fun x => (⟨x.1.hash w, .ref x.2.1, x.2.2⟩ : DictEntry)) (i : Nat) : es[i]? = (xs[i]?).map fun x => (⟨x.1.hash w, .ref x.2.1, x.2.2⟩ : DictEntry) := by
  rw [← Array.getElem?_toList, h, List.getElem?_map]
theorem turn_n {P : Program} {w : World} {K : PySem.W.Frag} {tg : Expr} {a : Addr} {n ep : Nat} (it : Addr) : Turn P w K tg (Itn w a n ep) [it] it (fun i h => h.IsKeyIter it a i n ep) where
  mem := by simp
  obj := fun i h st b hb => by
    have e : b = it := by simpa using hb
    subst e
    obtain ⟨oi, e, c, dd⟩ := st
    exact ⟨oi, e, fun v z => by rw [dd] at z; cases z⟩
  keep := fun i h h' st k => st.at fun oi e => k it (by simp) oi e
  item := by
    intro X hP hw hK hc i pins s σ H E I hf st hg
    subst hP hw hK
    obtain ⟨⟨xs, hd, hn⟩, hi⟩ := hg
    obtain ⟨f0, f1, f2, f3, f4, f5⟩ := hf it (by simp)
    obtain ⟨⟨o, es, g1, g2, g3, g4⟩, _, _⟩ := I.hok a _ hd
    have hsz : es.size = n := by rw [← Array.length_toList, g4, List.length_map, hn]
    have hx : xs[i]? = some xs[i] := List.getElem?_eq_getElem (by omega)
    have hen := dn_ent (a := a) g4 i
    rw [hx] at hen
    refine next_key_item st g1 g3 hsz hen fun h' st' sb => ?_
    have I1 : Inv X pins σ H { s with heap := h' } := I.turned (t' := s.toks) (fun b ob hb e => (sb.2 b hb).trans e) f0 f1 f3 f4 f5
    obtain ⟨oi, e, c, dd⟩ := id st'
    refine ⟨_, rfl, go_of (s := { s with heap := h' }) e c dd (by decide) ⟨.ref xs[i].2.1, H, I1, rfl, ⟨rfl, fun ys hy => ?_⟩, st', fun b hb => (hf b hb).1⟩⟩
    obtain ⟨⟨o2, es2, k1, k2, k3, k4⟩, _, _⟩ := I.hok a _ hy
    rw [g1] at k1
    cases k1
    rw [g3] at k3
    cases k3
    have h2 := dn_ent (a := a) k4 i
    rw [hen] at h2
    cases ey : ys[i]? with
    | none => rw [ey] at h2; cases h2
    | some y =>
      rw [ey] at h2
      simp only [Option.map_some, Option.some.injEq, DictEntry.mk.injEq, Value.ref.injEq] at h2
      exact ⟨y, rfl, by rw [h2.2.1]⟩
  done := by
    intro X hP hw hK hc i pins s σ H E I hf st hg
    subst hP hw hK
    obtain ⟨⟨xs, hd, hn⟩, hi⟩ := hg
    obtain ⟨f0, f1, f2, f3, f4, f5⟩ := hf it (by simp)
    obtain ⟨⟨o, es, g1, g2, g3, g4⟩, _, _⟩ := I.hok a _ hd
    have hsz : es.size = n := by rw [← Array.length_toList, g4, List.length_map, hn]
    exact next_key_end (I.ok.hd hc) st g1 g3 hsz hi fun h' eb => ⟨rfl, I.turned (t' := s.toks) (fun b ob hb e => eb b ob hb e) f0 f1 f3 f4 f5⟩
  self := fun A i s Q E st h => by
    refine wpAny_pyIter_slot st.typeIs F.slot_dict_keyiterator_iter (wpAny_call_entry F.slot_dict_keyiterator_iter st.typeIs F.entry_dict_keyiterator_iter ?_ (F.args_dict_keyiterator_iter_1 _))
    show wpAny _ _ (ret (.ref it)) _ _ s
    exact wpAny_pure ⟨_, rfl, "dict_keyiterator", _, st.typeIs, F.slot_dict_keyiterator_next.lookup, h⟩
/-- J walks items that stand for xs while the store is μe -/
def ItOkE (K : PySem.W.Frag) (ga : GA) (ms : List Addr) (Γ : Hp) (μe : Store) (J : It) (xs : List D) : Prop := ∀ H ms2 Γ2, Same Γ Γ2 → ms <+: ms2 → SI K ga ms2 Γ2 μe H →
  (∀ i, i < xs.length → J.go i H) ∧ J.stop xs.length H ∧ ∀ i x H', J.yld i H x H' → i < xs.length → H' = H ∧ ∃ d, xs[i]? = some d ∧ Rep K ga ms2 Γ2 d x
def tIS (X : Cx) (ga : GA) (G : GT) (W : WX) (o : Ex) : TI := fun σ H R => ∃ ms Γ μ ρ, SI X.K ga ms Γ μ H ∧ ER X.K ga ms Γ H ρ σ ∧
  match ev G o ρ μ with
  | .ok d μ1 => (match itemsS μ1 d with
    | some xs => ∀ J H' ms' Γ' μe, After X.K ga ms Γ H ms' Γ' μ1 H' → SI X.K ga ms' Γ' μe H' → (∀ H2 ms2 Γ2, ms' <+: ms2 → SI X.K ga ms2 Γ2 μe H2 → SI X.K ga ms2 Γ2 μ1 H2) → xs.length ≤ sizeLine → ItOkE X.K ga ms' Γ' μe J xs → R J H'
    | none => False)
  | .exc c fs μ' => ∀ cls dd H' ms' Γ', After X.K ga ms Γ H ms' Γ' μ' H' → XRep X.K ga ms' Γ' H' c fs cls dd → W cls dd σ H'
  | .bad => False
theorem set_si {K : PySem.W.Frag} {ms : List Addr} {Γ H : Hp} {μ : Store} {l : Nat} {so so' : SO} (S : SI K ga ms Γ μ H) (el : μ[l]? = some so) (h : ∀ a, ms[l]? = some a → SRep K ga ms Γ H a so → SRep K ga ms Γ H a so') : SI K ga ms Γ (μ.set l so') H := by
  refine ⟨S.sub, by rw [List.length_set]; exact S.len, fun j x a e1 e2 => ?_, S.fr, S.there, S.nd⟩
  by_cases q : l = j
  · subst q
    rw [List.getElem?_set_self (List.getElem?_eq_some_iff.mp el).1] at e1
    cases e1
    exact h a e2 (S.st l _ a el e2)
  · rw [List.getElem?_set_ne q] at e1
    exact S.st j x a e1 e2
theorem pi_S {X : Cx} {tg : Expr} {W : WX} {e : Ex} {x : Expr} (hw : ga.w = X.w) (h : PE X x (tE X ga G W e)) : PI X tg x (tIS X ga G W e) := by
  refine ⟨fun pins s σ H R I ⟨ms, Γ, μ, ρ, S, Rr, q⟩ => ?_⟩
  have key : tE X ga G W e σ H fun v H1 => (∃ a vs, v = .ref a ∧ SqL X.K H1 a vs ∧ R (Itl X.K a) H1) ∨ (∃ a xs ep, v = .ref a ∧ H1 a = some (.ext (DN X.w a xs ep)) ∧ (a == sysModules) = false ∧ R (Itn X.w a xs.length ep) H1) := by
    refine ⟨ms, Γ, μ, ρ, S, Rr, ?_⟩
    cases e1 : ev G e ρ μ with
    | bad => rw [e1] at q; exact q
    | exc c fs μ1 => rw [e1] at q; exact q
    | ok d μ1 =>
      rw [e1] at q
      intro v H1 ms1 Γ1 A r
      have q : (match itemsS μ1 d with
        | some xs => ∀ J H' ms' Γ' μe, After X.K ga ms Γ H ms' Γ' μ1 H' → SI X.K ga ms' Γ' μe H' → (∀ H2 ms2 Γ2, ms' <+: ms2 → SI X.K ga ms2 Γ2 μe H2 → SI X.K ga ms2 Γ2 μ1 H2) → xs.length ≤ sizeLine → ItOkE X.K ga ms' Γ' μe J xs → R J H'
        | none => False) := q
      cases d with
      | loc l =>
        have ei : itemsS μ1 (.loc l) = (match μ1[l]? with
          | some (.lst xs) => some xs
          | some (.dcn kvs) => some (kvs.map (·.1))
          | _ => none) := rfl
        rw [ei] at q
        cases el : μ1[l]? with
        | none => rw [el] at q; exact q.elim
        | some so =>
          rw [el] at q
          cases so with
          | lst xs =>
            obtain ⟨a, vs, rfl, z1, z2, z3, z4⟩ := SI.lstV A.si el r
            refine .inl ⟨a, vs, rfl, SqL.of z1, q _ _ _ _ μ1 A A.si (fun _ _ _ _ h => h) z2 ?_⟩
            intro H2 ms2 Γ2 le pre S2
            obtain ⟨vs2, y1, y2, y3⟩ := S2.st l _ a el (pre_get pre z4)
            have hl := y3.length
            refine ⟨fun i hi => ⟨vs2, vs2[i]'(by omega), SqL.of y1, List.getElem?_eq_getElem (by omega)⟩, ⟨vs2, SqL.of y1, by omega⟩, fun i x H' y hi => ⟨y.1, ?_⟩⟩
            have hx : xs[i]? = some xs[i] := List.getElem?_eq_getElem hi
            obtain ⟨w, hw', rw'⟩ := y3.get hx
            have hv := y.2 vs2 (SqL.of y1)
            rw [hv] at hw'
            cases hw'
            exact ⟨_, hx, rw'⟩
          | dcn kvs =>
            unfold Rep at r
            obtain ⟨a, rfl, hp⟩ := r
            obtain ⟨xs, ep, z1, z2, z3, z4, z5⟩ := A.si.st l _ a el hp
            have hk : ∀ {K : PySem.W.Frag} {ms : List Addr} {Γ H : Hp} {a : Addr} {ep : Nat}, SRep K ga ms Γ H a (.lk kvs ep) → SRep K ga ms Γ H a (.dcn kvs) := fun ⟨xs, h1, h2⟩ => ⟨xs, _, h1, h2⟩
            have hll : l < μ1.length := (List.getElem?_eq_some_iff.mp el).1
            have Sk : SI X.K ga ms1 Γ1 (μ1.set l (.lk kvs ep)) H1 := set_si A.si el fun b hb _ => by
              rw [hp] at hb
              cases hb
              exact ⟨xs, z1, z2, z3, z4, z5⟩
            refine .inr ⟨a, xs, ep, rfl, by rw [← hw]; exact z1, z3, q _ _ _ _ (μ1.set l (.lk kvs ep)) A Sk (fun H2 ms2 Γ2 pre S2 => ?_) (by rw [List.length_map]; exact z2) ?_⟩
            · have e0 : μ1 = (μ1.set l (.lk kvs ep)).set l (.dcn kvs) := by
                rw [List.set_set]
                refine List.ext_getElem? fun j => ?_
                by_cases qj : l = j
                · subst qj
                  rw [el, List.getElem?_set_self hll]
                · rw [List.getElem?_set_ne qj]
              rw [e0]
              exact set_si S2 (List.getElem?_set_self hll) fun b _ => hk
            · intro H2 ms2 Γ2 le pre S2
              obtain ⟨xs2, y1, y2, y3, y4, y5⟩ := S2.st l _ a (List.getElem?_set_self hll) (pre_get pre hp)
              rw [hw] at y1
              have hn : xs2.length = xs.length := by rw [← repN_len y4, ← repN_len z4]
              have hl : (kvs.map (·.1)).length = xs.length := by rw [List.length_map, repN_len z4]
              refine ⟨fun i hi => ⟨⟨xs2, y1, hn⟩, by omega⟩, ⟨⟨xs2, y1, hn⟩, by omega⟩, fun i x H' y hi => ⟨y.1, ?_⟩⟩
              obtain ⟨p, hp1, hp2⟩ := y.2 xs2 y1
              have hx : (kvs.map (·.1))[i]? = some (kvs.map (·.1))[i] := List.getElem?_eq_getElem hi
              obtain ⟨w, hw', rw'⟩ := (repN_keys y4).get hx
              rw [List.getElem?_map, hp1] at hw'
              cases hw'
              rw [hp2]
              exact ⟨_, hx, rw'⟩
          | _ => exact q.elim
      | _ => exact q.elim
  refine thn (h.run pins s σ H _ I key) fun v s1 ⟨y, H1, I1, r1, q1⟩ => ?_
  rcases q1 with ⟨a, vs, rfl, hq, q2⟩ | ⟨a, xs, ep, rfl, hq, hs, q2⟩
  · cases r1
    obtain ⟨its, rv, p, hz⟩ := I1.list hq
    refine wpAny_pyIter_list p.isList ?_
    refine ⟨s1.heap.objs.size, [s1.heap.objs.size], _, _, H1, rfl, I1.kept (t' := s1.toks) fun b o e => Heap.get?_push_of_some _ e, turn_list a _, ⟨_, Heap.get?_push_size _ rfl, rfl, rfl⟩, fun b hb => ?_, q2⟩
    have e : b = s1.heap.objs.size := by simpa using hb
    subst e
    exact I1.fpOk (Nat.le_refl _) (I1.hok.fresh (Nat.le_refl _))
  · cases r1
    obtain ⟨⟨o, es, g1, g2, g3, g4⟩, _, _⟩ := I1.hok a _ hq
    have hsz : es.size = xs.length := by rw [← Array.length_toList, g4, List.length_map]
    refine iter_keys hs g1 g2 g3 ?_
    refine ⟨s1.heap.objs.size, [s1.heap.objs.size], _, _, H1, rfl, I1.kept (t' := s1.toks) fun b o e => Heap.get?_push_of_some _ e, turn_n _, ⟨_, Heap.get?_push_size _ rfl, rfl, by rw [hsz]; rfl⟩, fun b hb => ?_, q2⟩
    have e : b = s1.heap.objs.size := by simpa using hb
    subst e
    exact I1.fpOk (Nat.le_refl _) (I1.hok.fresh (Nat.le_refl _))
theorem lc_mainS {X : Cx} {t : Tg} {o : Ex} {W : WX} {f : D → Store → Out (Option D)} {tt : TT} {te : TE} {ms : List Addr} {Γ : Hp} {μ : Store} {ρ : Env} {σ : L2.St} {H : Hp} {Q : VK} (S : SI X.K ga ms Γ μ H) (R : ER X.K ga ms Γ H ρ σ)
    (pf : ∀ x r μ', f x [] = .ok r μ' → μ' = [])
    (turn : ∀ (x : D) (v : V) (r : Option D) (ms2 : List Addr) (Γ2 : Hp) (μe : Store) (H2 : Hp), SI X.K ga ms2 Γ2 μe H2 → ER X.K ga ms2 Γ2 H2 (wipeE ρ t.slots) (wipe σ t.slots) → Rep X.K ga ms2 Γ2 x v → f x [] = .ok r [] →
      (∀ (P : Option V → Hp → Prop), (∀ (w : Option V) (H' : Hp) (ms' : List Addr) (Γ' : Hp), After X.K ga ms2 Γ2 H2 ms' Γ' μe H' → (match r, w with | some d, some v => Rep X.K ga ms' Γ' d v | none, none => True | _, _ => False) → P w H') →
        gT X.K t v (wipe σ t.slots) H2 fun σ2 H2 => wipe σ2 t.slots = wipe σ t.slots ∧ tt σ2 H2 fun b H3 => if b = true then te σ2 H3 fun y H4 => P (some y) H4 else P none H3))
    (q : PF X ga ms Γ H ((ev G o ρ μ).bind fun x μ => match itemsS μ x with
      | some xs => (compLoop f xs [] []).bind fun ys _ => .ok (.lst ys) μ
      | none => .bad) σ W Q) : tLc (tIS X ga G W o) (gT X.K t) tt te t.slots σ H Q := by
  refine ⟨ms, Γ, μ, ρ, S, R, ?_⟩
  cases e1 : ev G o ρ μ with
  | bad => rw [e1] at q; exact q
  | exc c fs μ1 => rw [e1] at q; exact q
  | ok d μ1 =>
    rw [e1] at q
    have q : PF X ga ms Γ H (match itemsS μ1 d with
      | some xs => (compLoop f xs [] []).bind fun ys _ => .ok (.lst ys) μ1
      | none => .bad) σ W Q := q
    show match itemsS μ1 d with
      | some xs => _
      | none => False
    cases e2 : itemsS μ1 d with
    | none => rw [e2] at q; exact q
    | some xs =>
      rw [e2] at q
      have q : PF X ga ms Γ H ((compLoop f xs [] []).bind fun ys _ => .ok (.lst ys) μ1) σ W Q := q
      intro J H1 ms1 Γ1 μe A Se ul hz ok D0 hD
      have q := PF.shift q A
      have S1 := A.si
      have toE : ∀ {H2 ms2 Γ2}, After X.K ga ms1 Γ1 H1 ms2 Γ2 μe H2 → After X.K ga ms1 Γ1 H1 ms2 Γ2 μ1 H2 := fun B => ⟨ul _ _ _ B.pre B.si, B.le, B.pre, B.keep, B.newm, B.newg⟩
      cases e3 : compLoop f xs [] [] with
      | bad => rw [e3] at q; exact q.elim
      | exc c fs μ' =>
        exfalso
        have : ∀ (xs acc : List D) (μ : Store), compLoop f xs acc μ ≠ .exc c fs μ' := by
          intro xs
          induction xs with
          | nil => intro acc μ e; cases e
          | cons x xs ih =>
            intro acc μ e
            unfold compLoop at e
            split at e
            · exact ih _ _ e
            · exact ih _ _ e
            · cases e
        exact this _ _ _ e3
      | ok ys μz =>
        rw [e3] at q
        have hD1 : Γ1 D0 = none := by
          cases e : Γ1 D0 with
          | none => rfl
          | some u => rw [S1.sub _ _ e] at hD; cases hD
        have hDm : D0 ∉ ms1 := fun hm => by
          obtain ⟨u, e⟩ := S1.there D0 hm
          rw [hD] at e; cases e
        refine ⟨fun i m H2 => m = xs.length - i ∧ i ≤ xs.length ∧ ∃ ms2 Γ2 acc vacc, After X.K ga ms1 Γ1 H1 ms2 Γ2 μe H2 ∧ H2 D0 = some (.lst vacc) ∧ Γ2 D0 = none ∧ D0 ∉ ms2 ∧ Reps X.K ga ms2 Γ2 acc vacc ∧ acc.length ≤ i ∧ compLoop f (xs.drop i) acc [] = .ok ys μz,
          ⟨_, rfl, Nat.zero_le _, ms1, Γ1, [], [], After.layOwn Se hD, upd_same, hD1, hDm, Reps.nil, Nat.le_refl _, by rw [List.drop_zero]; exact e3⟩, ?_⟩
        rintro i m H2 ⟨hm, hi, ms2, Γ2, acc, vacc, A2, g1, g2, g3, g4, g5, g6⟩
        obtain ⟨ok1, ok2, ok3⟩ := ok H2 ms2 Γ2 A2.le A2.pre A2.si
        rcases Nat.lt_or_ge i xs.length with hi' | hi'
        · right
          refine ⟨ok1 i hi', fun H' => ∃ m', m' < m ∧ (m' = xs.length - (i + 1) ∧ i + 1 ≤ xs.length ∧ ∃ ms2 Γ2 acc vacc, After X.K ga ms1 Γ1 H1 ms2 Γ2 μe H' ∧ H' D0 = some (.lst vacc) ∧ Γ2 D0 = none ∧ D0 ∉ ms2 ∧ Reps X.K ga ms2 Γ2 acc vacc ∧ acc.length ≤ i + 1 ∧ compLoop f (xs.drop (i + 1)) acc [] = .ok ys μz), fun H' h => h, fun w H' hy => ?_⟩
          obtain ⟨hHH, dx, hx', rw'⟩ := ok3 i w H' hy hi'
          subst hHH
          have hx : xs[i]? = some xs[i] := List.getElem?_eq_getElem hi'
          rw [hx] at hx'
          cases hx'
          have dr : xs.drop i = xs[i] :: xs.drop (i + 1) := by rw [List.drop_eq_getElem_cons hi']
          rw [dr] at g6
          unfold compLoop at g6
          have Rw : ER X.K ga ms2 Γ2 H' (wipeE ρ t.slots) (wipe σ t.slots) := ((R.mono A).mono (toE A2)).wipe t.slots
          cases e4 : f xs[i] [] with
          | bad => rw [e4] at g6; cases g6
          | exc c fs μ' => rw [e4] at g6; cases g6
          | ok ro μ3 =>
            have hμ := pf _ _ _ e4
            subst hμ
            rw [e4] at g6
            refine turn xs[i] w ro ms2 Γ2 μe H' A2.si Rw rw' e4
              (fun y H4 => match y with
                | some y => ∃ acc, H4 D0 = some (.lst acc) ∧ acc.length < sizeLine ∧ ∃ m', m' < m ∧ (m' = xs.length - (i + 1) ∧ i + 1 ≤ xs.length ∧ ∃ ms2 Γ2 acc' vacc, After X.K ga ms1 Γ1 H1 ms2 Γ2 μe (upd H4 D0 (.lst (acc ++ [y]))) ∧ (upd H4 D0 (.lst (acc ++ [y]))) D0 = some (.lst vacc) ∧ Γ2 D0 = none ∧ D0 ∉ ms2 ∧ Reps X.K ga ms2 Γ2 acc' vacc ∧ acc'.length ≤ i + 1 ∧ compLoop f (xs.drop (i + 1)) acc' [] = .ok ys μz)
                | none => ∃ m', m' < m ∧ (m' = xs.length - (i + 1) ∧ i + 1 ≤ xs.length ∧ ∃ ms2 Γ2 acc vacc, After X.K ga ms1 Γ1 H1 ms2 Γ2 μe H4 ∧ H4 D0 = some (.lst vacc) ∧ Γ2 D0 = none ∧ D0 ∉ ms2 ∧ Reps X.K ga ms2 Γ2 acc vacc ∧ acc.length ≤ i + 1 ∧ compLoop f (xs.drop (i + 1)) acc [] = .ok ys μz)) ?_
            intro wo H4 ms4 Γ4 A4 hro
            have k1 := A4.keep _ _ g1 g3
            have k2 : Γ4 D0 = none := by
              cases e : Γ4 D0 with
              | none => rfl
              | some u =>
                rcases A4.newg _ _ e with q1 | q1
                · rw [g2] at q1; cases q1
                · rw [g1] at q1; cases q1
            have k3 : D0 ∉ ms4 := fun hm4 => by
              rcases A4.newm _ hm4 with q1 | q1
              · exact g3 q1
              · rw [g1] at q1; cases q1
            have A14 := A2.trans A4
            cases ro with
            | none =>
              cases wo with
              | some _ => exact hro.elim
              | none => exact ⟨_, by omega, rfl, by omega, ms4, Γ4, acc, vacc, A14, k1, k2, k3, g4.mono A4.le A4.pre, by omega, g6⟩
            | some d =>
              cases wo with
              | none => exact hro.elim
              | some y =>
                have hro : Rep X.K ga ms4 Γ4 d y := hro
                refine ⟨vacc, k1, ?_, _, by omega, rfl, by omega, ms4, Γ4, acc ++ [d], vacc ++ [y], A14.putOwn hD k2 k3, upd_same, k2, k3, (g4.mono A4.le A4.pre).append (Reps.cons hro Reps.nil), ?_, g6⟩
                · rw [← g4.length]; omega
                · rw [List.length_append]; exact Nat.add_le_add_right g5 1
        · left
          have e : i = xs.length := Nat.le_antisymm hi hi'
          subst e
          refine ⟨ok2, ?_⟩
          rw [List.drop_length] at g6
          cases g6
          exact q D0 vacc H2 ms2 Γ2 (toE A2) g1 g2 g3 hD (Nat.le_trans g5 hz) g4
theorem lo_comps0 (elt : Ex) (t : Tg) (o : Ex) : ListOnly G (.comps elt t o none) := fun ρ μ d μ' e => by
  obtain ⟨ds, μ1, _, e2⟩ := bind_ok_inv (show (ev G o ρ μ).bind _ = .ok d μ' from e)
  split at e2
  · obtain ⟨ys, μ2, _, e3⟩ := bind_ok_inv e2
    cases e3
    exact ⟨ys, rfl⟩
  · cases e2
theorem lo_comps1 (elt c : Ex) (t : Tg) (o : Ex) : ListOnly G (.comps elt t o (some c)) := fun ρ μ d μ' e => by
  obtain ⟨ds, μ1, _, e2⟩ := bind_ok_inv (show (ev G o ρ μ).bind _ = .ok d μ' from e)
  split at e2
  · obtain ⟨ys, μ2, _, e3⟩ := bind_ok_inv e2
    cases e3
    exact ⟨ys, rfl⟩
  · cases e2
theorem sf_comps0 {elt : Ex} {t : Tg} {o : Ex} (he : SE ga G N T elt) (ho : SE ga G N T o) : SFL ga G N T (.comps elt t o none) := by
  intro X sc x W C tk h
  cases x with
  | ListComp e gs scope pos =>
    match gs, h with
    | [⟨tg, it, [], as⟩], h =>
      have h : (pureE elt && decide (as = 0) && chk N T scope elt e && tgC N scope t tg && chk N T sc o it && notSet it && blkOkC N sc scope t.slots) = true := h
      simp only [Bool.and_eq_true] at h
      obtain ⟨⟨⟨⟨⟨⟨hp, h0⟩, h1⟩, h2⟩, h3⟩, h5⟩, h4⟩ := h
      have e0 := of_decide_eq_true h0
      subst e0
      obtain ⟨b1, b2, b3⟩ := blk_ok C h4
      have hf0 : ∀ v, foldedSetIterable it X.env v = pure v := fun v => set_fold h5 v
      have hpi : PI X tg it (tIS X ga G W o) := pi_S C.hw (ho X sc it W C tk h3)
      have hpe := pe_lc (elt := e) (ifs := []) (pos := pos) (tt := tYes) (te := tE X ga G W0 elt) (g := gT X.K t) C.calm (by rw [C.hN]; exact C.nd) hpi b1
        (fun s H Ca cl fp => pg_ok (gc_blk C b3 s H Ca cl fp) h2) (fun _ _ _ _ _ => pts_nil) (fun s H Ca cl fp => he _ scope e W0 (gc_blk C b3 s H Ca cl fp) takes0 h1)
        hf0
      have hp2 := fun (i : Nat) (y : Str) (py spos : Pos) (g1 : X.N[i]? = some y) (g2 : X.env.scope.names.lookup y = some .local) (g3 : swapsWith (.ListComp e [⟨tg, it, [], 0⟩] scope pos) (some (.Name y py)) spos.line X.env = pure true) => ps_setLc (i := i) (y := y) (py := py) (spos := spos) (elt := e) (ifs := []) (pos := pos) (tt := tYes) (te := tE X ga G W0 elt) (g := gT X.K t) C.calm (by rw [C.hN]; exact C.nd) g1 g2 g3 hpi b1
        (fun s H Ca cl fp => pg_ok (gc_blk C b3 s H Ca cl fp) h2) (fun _ _ _ _ _ => pts_nil) (fun s H Ca cl fp => he _ scope e W0 (gc_blk C b3 s H Ca cl fp) takes0 h1)
        hf0
      rw [b2] at hpe
      rw [b2] at hp2
      have key : ∀ σ H Q, tF X ga G W (.comps elt t o none) σ H Q → tLc (tIS X ga G W o) (gT X.K t) tYes (tE X ga G W0 elt) t.slots σ H Q := by
       rintro σ H Q ⟨ms, Γ, μ, ρ, S, R, q⟩
       have pf : ∀ (x : D) (r : Option D) (μ' : Store), (match bindT (wipeE ρ t.slots) t x with
         | some ρ' => (ev G elt ρ' []).bind fun y μ => .ok (some y) μ
         | none => .bad : Out (Option D)) = .ok r μ' → μ' = [] := fun x r μ' hf => by
         split at hf
         · obtain ⟨y, μ4, e2, e3⟩ := bind_ok_inv hf
           cases e3
           exact (pure_ev elt hp _ _ _ e2).1
         · cases hf
       refine lc_mainS (f := fun x μ => match bindT (wipeE ρ t.slots) t x with
         | some ρ' => (ev G elt ρ' μ).bind fun y μ => .ok (some y) μ
         | none => .bad) S R pf ?_ q
       intro x v r ms2 Γ2 μe H2 S2 R2 rx hf P hP
       split at hf
       · rename_i ρ' e1
         obtain ⟨y, μ4, e2, e3⟩ := bind_ok_inv hf
         cases e3
         refine tg_use S2.sub R2 rx e1 fun σ' R' hw => ⟨by rw [hw t.slots fun _ h => h, slots_refl], ?_⟩
         unfold tYes
         dsimp only
         rw [if_pos rfl]
         refine ⟨ms2, Γ2, μe, ρ', S2, R', ?_⟩
         rw [(pure_ev elt hp _ _ _ e2).2]
         exact fun w H4 ms4 Γ4 A4 r4 => hP (some w) H4 ms4 Γ4 A4 r4
       · cases hf
      exact ⟨hpe.mono key, fun i y py spos g1 g2 g3 => ⟨fun pins s σ H D I hw => (hp2 i y py spos (by rw [C.hN]; exact g1) g2 g3).run pins s σ H D I (key σ H _ hw)⟩⟩
    | [], h => simp [chk] at h
    | [⟨_, _, _ :: _, _⟩], h => simp [chk] at h
    | _ :: _ :: _, h => simp [chk] at h
  | _ => exact absurd h (by simp [chk])
theorem sf_comps1 {elt c : Ex} {t : Tg} {o : Ex} (he : SE ga G N T elt) (hc : ST ga G N T c) (ho : SE ga G N T o) : SFL ga G N T (.comps elt t o (some c)) := by
  intro X sc x W C tk h
  cases x with
  | ListComp e gs scope pos =>
    match gs, h with
    | [⟨tg, it, [cc], as⟩], h =>
      have h : (pureE elt && pureE c && decide (as = 0) && chk N T scope elt e && chk N T scope c cc && tgC N scope t tg && chk N T sc o it && notSet it && blkOkC N sc scope t.slots) = true := h
      simp only [Bool.and_eq_true] at h
      obtain ⟨⟨⟨⟨⟨⟨⟨⟨hp, hpc⟩, h0⟩, h1⟩, h1'⟩, h2⟩, h3⟩, h5⟩, h4⟩ := h
      have e0 := of_decide_eq_true h0
      subst e0
      obtain ⟨b1, b2, b3⟩ := blk_ok C h4
      have hf0 : ∀ v, foldedSetIterable it X.env v = pure v := fun v => set_fold h5 v
      have hpi : PI X tg it (tIS X ga G W o) := pi_S C.hw (ho X sc it W C tk h3)
      have hpe := pe_lc (elt := e) (ifs := [cc]) (pos := pos) (tt := tT X ga G W0 c) (te := tE X ga G W0 elt) (g := gT X.K t) C.calm (by rw [C.hN]; exact C.nd) hpi b1
        (fun s H Ca cl fp => pg_ok (gc_blk C b3 s H Ca cl fp) h2) (fun s H Ca cl fp => pts_one (hc _ scope cc W0 (gc_blk C b3 s H Ca cl fp) takes0 h1')) (fun s H Ca cl fp => he _ scope e W0 (gc_blk C b3 s H Ca cl fp) takes0 h1)
        hf0
      have hp2 := fun (i : Nat) (y : Str) (py spos : Pos) (g1 : X.N[i]? = some y) (g2 : X.env.scope.names.lookup y = some .local) (g3 : swapsWith (.ListComp e [⟨tg, it, [cc], 0⟩] scope pos) (some (.Name y py)) spos.line X.env = pure true) => ps_setLc (i := i) (y := y) (py := py) (spos := spos) (elt := e) (ifs := [cc]) (pos := pos) (tt := tT X ga G W0 c) (te := tE X ga G W0 elt) (g := gT X.K t) C.calm (by rw [C.hN]; exact C.nd) g1 g2 g3 hpi b1
        (fun s H Ca cl fp => pg_ok (gc_blk C b3 s H Ca cl fp) h2) (fun s H Ca cl fp => pts_one (hc _ scope cc W0 (gc_blk C b3 s H Ca cl fp) takes0 h1')) (fun s H Ca cl fp => he _ scope e W0 (gc_blk C b3 s H Ca cl fp) takes0 h1)
        hf0
      rw [b2] at hpe
      rw [b2] at hp2
      have key : ∀ σ H Q, tF X ga G W (.comps elt t o (some c)) σ H Q → tLc (tIS X ga G W o) (gT X.K t) (tT X ga G W0 c) (tE X ga G W0 elt) t.slots σ H Q := by
       rintro σ H Q ⟨ms, Γ, μ, ρ, S, R, q⟩
       have tst : ∀ ρ' b μ4, testOf (ev G c ρ' []) = .ok b μ4 → μ4 = [] ∧ ∀ μ, testOf (ev G c ρ' μ) = .ok b μ := fun ρ' b μ4 h => by
         obtain ⟨d, μ5, e1, e2⟩ := bind_ok_inv (show (ev G c ρ' []).bind _ = .ok b μ4 from h)
         obtain ⟨rfl, k⟩ := pure_ev c hpc _ _ _ e1
         split at e2
         · rename_i b' hb
           cases e2
           refine ⟨rfl, fun μ => ?_⟩
           unfold testOf
           rw [k]
           show (match truthy d with
             | some b => Out.ok b μ
             | none => .bad) = _
           rw [hb]
         · cases e2
       have pf : ∀ (x : D) (r : Option D) (μ' : Store), (match bindT (wipeE ρ t.slots) t x with
         | some ρ' => (testOf (ev G c ρ' [])).bind fun b μ => if b then (ev G elt ρ' μ).bind fun y μ => .ok (some y) μ else .ok none μ
         | none => .bad : Out (Option D)) = .ok r μ' → μ' = [] := fun x r μ' hf => by
         split at hf
         · obtain ⟨b, μ4, e2, e3⟩ := bind_ok_inv hf
           obtain ⟨rfl, _⟩ := tst _ _ _ e2
           cases b with
           | true =>
             rw [if_pos rfl] at e3
             obtain ⟨y, μ5, e4, e5⟩ := bind_ok_inv e3
             cases e5
             exact (pure_ev elt hp _ _ _ e4).1
           | false =>
             rw [if_neg Bool.false_ne_true] at e3
             cases e3
             rfl
         · cases hf
       refine lc_mainS (f := fun x μ => match bindT (wipeE ρ t.slots) t x with
         | some ρ' => (testOf (ev G c ρ' μ)).bind fun b μ => if b then (ev G elt ρ' μ).bind fun y μ => .ok (some y) μ else .ok none μ
         | none => .bad) S R pf ?_ q
       intro x v r ms2 Γ2 μe H2 S2 R2 rx hf P hP
       split at hf
       · rename_i ρ' e1
         obtain ⟨b, μ4, e2, e3⟩ := bind_ok_inv hf
         obtain ⟨rfl, k2⟩ := tst _ _ _ e2
         refine tg_use S2.sub R2 rx e1 fun σ' R' hw => ⟨by rw [hw t.slots fun _ h => h, slots_refl], ?_⟩
         refine ⟨ms2, Γ2, μe, ρ', S2, R', ?_⟩
         rw [k2]
         intro H3 ms3 Γ3 A3
         cases b with
         | true =>
           rw [if_pos rfl] at e3 ⊢
           obtain ⟨y, μ5, e4, e5⟩ := bind_ok_inv e3
           cases e5
           refine ⟨ms3, Γ3, μe, ρ', A3.si, R'.mono A3, ?_⟩
           rw [(pure_ev elt hp _ _ _ e4).2]
           exact fun w H4 ms4 Γ4 A4 r4 => hP (some w) H4 ms4 Γ4 (A3.trans A4) r4
         | false =>
           rw [if_neg Bool.false_ne_true] at e3 ⊢
           cases e3
           exact hP none H3 ms3 Γ3 A3 trivial
       · cases hf
      exact ⟨hpe.mono key, fun i y py spos g1 g2 g3 => ⟨fun pins s σ H D I hw => (hp2 i y py spos (by rw [C.hN]; exact g1) g2 g3).run pins s σ H D I (key σ H _ hw)⟩⟩
    | [], h => simp [chk] at h
    | [⟨_, _, [], _⟩], h => simp [chk] at h
    | [⟨_, _, _ :: _ :: _, _⟩], h => simp [chk] at h
    | _ :: _ :: _, h => simp [chk] at h
  | _ => exact absurd h (by simp [chk])
/-- a test where no rule of its own is wanted: the value's truth -/
theorem st_of {e : Ex} (h : SE ga G N T e) (he : ∀ (sc : Scope) (x : Expr), chk N T sc e x = true → ∀ env whole, isTrue x env whole = (do let v ← whole; standAt x.pos; holding [v] (PySem.truthy v))) : ST ga G N T e := fun X sc x W C tk hc => pt_of (h X sc x W C tk hc) (he sc x hc X.env)
/-- forms whose test is the value's truth -/
def plainT : Expr → Bool
  | .BoolOp _ _ _ => false
  | .UnaryOp .Not _ _ => false
  | .IfExp _ _ _ _ => false
  | .Compare _ _ _ _ => false
  | _ => true
theorem plainT_ok {x : Expr} (h : plainT x = true) (env : PySem.Env) (whole : Sem Value) : isTrue x env whole = (do let v ← whole; standAt x.pos; holding [v] (PySem.truthy v)) := by
  cases x with
  | BoolOp _ _ _ => exact absurd h Bool.false_ne_true
  | UnaryOp o _ _ => cases o <;> first | rfl | exact absurd h Bool.false_ne_true
  | IfExp _ _ _ _ => exact absurd h Bool.false_ne_true
  | Compare _ _ _ _ => exact absurd h Bool.false_ne_true
  | _ => rfl
theorem sw_no {e : Ex} (h : ∀ sc op xs p, chk N T sc e (.BoolOp op xs p) = false) : SW ga G N T e := fun X sc op xs p W C tk hc => by rw [h] at hc; cases hc
mutual
theorem sound : ∀ e : Ex, SE ga G N T e ∧ ST ga G N T e ∧ SW ga G N T e
  | .con d => ⟨se_con d, st_of (se_con d) (fun sc x h env whole => plainT_ok (by cases x <;> first | rfl | (cases d <;> exact absurd h (by simp [chk, conC]))) env whole), sw_no fun _ _ _ _ => by cases d <;> rfl⟩
  | .var i => ⟨se_var i, st_of (se_var i) (fun sc x h env whole => plainT_ok (by cases x <;> first | rfl | exact absurd h (by simp [chk])) env whole), sw_no fun _ _ _ _ => rfl⟩
  | .glob y => ⟨se_glob y, st_of (se_glob y) (fun sc x h env whole => plainT_ok (by cases x <;> first | rfl | exact absurd h (by simp [chk])) env whole), sw_no fun _ _ _ _ => rfl⟩
  | .bin op a b => have k := se_bin op (sound a).1 (sound b).1; ⟨k, st_of k (fun sc x h env whole => plainT_ok (by cases x <;> first | rfl | exact absurd h (by simp [chk])) env whole), sw_no fun _ _ _ _ => rfl⟩
  | .neg a => have k := se_neg (sound a).1; ⟨k, st_of k (fun sc x h env whole => plainT_ok (by
      cases x with
      | UnaryOp o p q => cases o <;> first | rfl | exact absurd h (by simp [chk])
      | _ => first | rfl | exact absurd h (by simp [chk])) env whole), sw_no fun _ _ _ _ => rfl⟩
  | .cmp op a b => ⟨(se_cmp op (sound a).1 (sound b).1).1, (se_cmp op (sound a).1 (sound b).1).2, sw_no fun _ _ _ _ => rfl⟩
  | .din neg a b => ⟨(se_din neg (sound a).1 (sound b).1).1, (se_din neg (sound a).1 (sound b).1).2, sw_no fun _ _ _ _ => rfl⟩
  | .chain op op' a b c => ⟨(se_chain op op' (sound a).1 (sound b).1 (sound c).1).1, (se_chain op op' (sound a).1 (sound b).1 (sound c).1).2, sw_no fun _ _ _ _ => rfl⟩
  | .and_ a b => have k := sw_and (sound a).2.1 (sound b).2.1 (sound b).2.2; ⟨se_and (sound a).1 (sound b).1, fun X sc x W C tk h => by
      cases x with
      | BoolOp op xs p => exact (k X sc op xs p W C tk h).pt
      | _ => exact absurd h (by simp [chk]), k⟩
  | .or_ a b => have k := sw_or (sound a).2.1 (sound b).2.1 (sound b).2.2; ⟨se_or (sound a).1 (sound b).1, fun X sc x W C tk h => by
      cases x with
      | BoolOp op xs p => exact (k X sc op xs p W C tk h).pt
      | _ => exact absurd h (by simp [chk]), k⟩
  | .not_ a => ⟨(se_not (sound a).1 (sound a).2.1).1, (se_not (sound a).1 (sound a).2.1).2, sw_no fun _ _ _ _ => rfl⟩
  | .ite c a b => ⟨(se_ite (sound c).2.1 (sound a).1 (sound b).1 (sound a).2.1 (sound b).2.1).1, (se_ite (sound c).2.1 (sound a).1 (sound b).1 (sound a).2.1 (sound b).2.1).2, sw_no fun _ _ _ _ => rfl⟩
  | .tup es => have k := se_tup (sounds es).1; ⟨k, st_of k (fun sc x h env whole => plainT_ok (by cases x <;> first | rfl | exact absurd h (by simp [chk])) env whole), sw_no fun _ _ _ _ => rfl⟩
  | .lst es => have k := se_lst (sounds es).1; ⟨k, st_of k (fun sc x h env whole => plainT_ok (by cases x <;> first | rfl | exact absurd h (by simp [chk])) env whole), sw_no fun _ _ _ _ => rfl⟩
  | .newl es => have k := se_newl (sounds es).1; ⟨k, st_of k (fun sc x h env whole => plainT_ok (by cases x <;> first | rfl | exact absurd h (by simp [chk])) env whole), sw_no fun _ _ _ _ => rfl⟩
  | .idx a b => have k := se_idx (sound a).1 (sound b).1; ⟨k, st_of k (fun sc x h env whole => plainT_ok (by cases x <;> first | rfl | exact absurd h (by simp [chk])) env whole), sw_no fun _ _ _ _ => rfl⟩
  | .dget a b => have k := se_dget (sound a).1 (sound b).1; ⟨k, st_of k (fun sc x h env whole => plainT_ok (by cases x <;> first | rfl | exact absurd h (by simp [chk])) env whole), sw_no fun _ _ _ _ => rfl⟩
  | .slice k a es => have z := se_slice k (sound a).1 (sounds es).2; ⟨z, st_of z (fun sc x h env whole => plainT_ok (by cases x <;> first | rfl | exact absurd h (by simp [chk])) env whole), sw_no fun _ _ _ _ => rfl⟩
  | .dict es => have z := se_dict (sounds es).2; ⟨z, st_of z (fun sc x h env whole => plainT_ok (by cases x <;> first | rfl | exact absurd h (by simp [chk])) env whole), sw_no fun _ _ _ _ => rfl⟩
  | .rev a => have k := se_rev (sound a).1; ⟨k, st_of k (fun sc x h env whole => plainT_ok (by cases x <;> first | rfl | exact absurd h (by simp [chk])) env whole), sw_no fun _ _ _ _ => rfl⟩
  | .popl o a => have k := se_popl (sound o).1 (sound a).1; ⟨k, st_of k (fun sc x h env whole => plainT_ok (by cases x <;> first | rfl | exact absurd h (by simp [chk])) env whole), sw_no fun _ _ _ _ => rfl⟩
  | .llen a => have k := se_llen (sound a).1; ⟨k, st_of k (fun sc x h env whole => plainT_ok (by cases x <;> first | rfl | exact absurd h (by simp [chk])) env whole), sw_no fun _ _ _ _ => rfl⟩
  | .dsort a => have k := se_dsort (sound a).1; ⟨k, st_of k (fun sc x h env whole => plainT_ok (by cases x <;> first | rfl | exact absurd h (by simp [chk])) env whole), sw_no fun _ _ _ _ => rfl⟩
  | .newc a => have k := se_newc (sound a).1; ⟨k, st_of k (fun sc x h env whole => plainT_ok (by cases x <;> first | rfl | exact absurd h (by simp [chk])) env whole), sw_no fun _ _ _ _ => rfl⟩
  | .newn => have k := se_newn; ⟨k, st_of k (fun sc x h env whole => plainT_ok (by cases x <;> first | rfl | exact absurd h (by simp [chk])) env whole), sw_no fun _ _ _ _ => rfl⟩
  | .attr o f cs => have k := se_attr f cs (sound o).1; ⟨k, st_of k (fun sc x h env whole => plainT_ok (by cases x <;> first | rfl | exact absurd h (by simp [chk])) env whole), sw_no fun _ _ _ _ => rfl⟩
  | .mcall c m f o es => have k := se_mcall c m f (sound o).1 (sounds es).1; ⟨k, st_of k (fun sc x h env whole => plainT_ok (by cases x <;> first | rfl | exact absurd h (by simp [chk])) env whole), sw_no fun _ _ _ _ => rfl⟩
  | .prop c m f o => have k := se_prop c m f (sound o).1; ⟨k, st_of k (fun sc x h env whole => plainT_ok (by cases x <;> first | rfl | exact absurd h (by simp [chk])) env whole), sw_no fun _ _ _ _ => rfl⟩
  | .new c f es ds => have k := se_new c f ds (sounds es).1; ⟨k, st_of k (fun sc x h env whole => plainT_ok (by cases x <;> first | rfl | exact absurd h (by simp [chk])) env whole), sw_no fun _ _ _ _ => rfl⟩
  | .olen c f o => have k := se_olen c f (sound o).1; ⟨k, st_of k (fun sc x h env whole => plainT_ok (by cases x <;> first | rfl | exact absurd h (by simp [chk])) env whole), sw_no fun _ _ _ _ => rfl⟩
  | .ostr c f o => have k := se_ostr c f (sound o).1; ⟨k, st_of k (fun sc x h env whole => plainT_ok (by cases x <;> first | rfl | exact absurd h (by simp [chk])) env whole), sw_no fun _ _ _ _ => rfl⟩
  | .fstr es => have k := se_fstr (sounds es).2; ⟨k, st_of k (fun sc x h env whole => plainT_ok (by cases x <;> first | rfl | exact absurd h (by simp [chk])) env whole), sw_no fun _ _ _ _ => rfl⟩
  | .lsort o => have k := se_lsort (sound o).1; ⟨k, st_of k (fun sc x h env whole => plainT_ok (by cases x <;> first | rfl | exact absurd h (by simp [chk])) env whole), sw_no fun _ _ _ _ => rfl⟩
  | .oin c f neg a b => ⟨(se_oin c f neg (sound a).1 (sound b).1).1, (se_oin c f neg (sound a).1 (sound b).1).2, sw_no fun _ _ _ _ => rfl⟩
  | .lin neg a b => ⟨(se_lin neg (sound a).1 (sound b).1).1, (se_lin neg (sound a).1 (sound b).1).2, sw_no fun _ _ _ _ => rfl⟩
  | .never => ⟨se_never, st_never, sw_never⟩
  | .newd es => have k := se_newd (sounds es).2; ⟨k, st_of k (fun sc x h env whole => plainT_ok (by cases x <;> first | rfl | exact absurd h (by simp [chk])) env whole), sw_no fun _ _ _ _ => rfl⟩
  | .mkx c f e => have k := se_mkx c f (sound e).1; ⟨k, st_of k (fun sc x h env whole => plainT_ok (by cases f <;> cases x <;> first | rfl | exact absurd h (by simp [chk])) env whole), sw_no fun _ _ _ _ => by cases f <;> rfl⟩
  | .isx e t yes no => have k := se_isx t yes no (sound e).1; ⟨k, st_of k (fun sc x h env whole => plainT_ok (by cases x <;> first | rfl | exact absurd h (by simp [chk])) env whole), sw_no fun _ _ _ _ => rfl⟩
  | .fldx e f cs => have k := se_fldx f cs (sound e).1; ⟨k, st_of k (fun sc x h env whole => plainT_ok (by cases x <;> first | rfl | exact absurd h (by simp [chk])) env whole), sw_no fun _ _ _ _ => rfl⟩
  | .bidx i b => have k := se_bidx i (sound b).1; ⟨k, st_of k (fun sc x h env whole => plainT_ok (by cases x <;> first | rfl | exact absurd h (by simp [chk])) env whole), sw_no fun _ _ _ _ => rfl⟩
  | .call f es => have k := se_call f (sounds es).1; ⟨k, st_of k (fun sc x h env whole => plainT_ok (by cases x <;> first | rfl | exact absurd h (by simp [chk])) env whole), sw_no fun _ _ _ _ => rfl⟩
  | .blt f es => have k := se_blt f (sounds es).1; ⟨k, st_of k (fun sc x h env whole => plainT_ok (by cases x <;> first | rfl | exact absurd h (by simp [chk])) env whole), sw_no fun _ _ _ _ => rfl⟩
  | .meth m o es => have k := se_meth m (sound o).1 (sounds es).1; ⟨k, st_of k (fun sc x h env whole => plainT_ok (by cases x <;> first | rfl | exact absurd h (by simp [chk])) env whole), sw_no fun _ _ _ _ => rfl⟩
  | .comp elt t k its none => have z := se_of_sfl (sf_comp0 (t := t) (k := k) (sound elt).1 (sounds its).1 (hv_of (sounds its).2)) (lo_comp0 elt t k its); ⟨z, st_of z (fun sc x h env whole => plainT_ok (by cases x <;> first | rfl | exact absurd h (by simp [chk])) env whole), sw_no fun _ _ _ _ => rfl⟩
  | .comp elt t k its (some c) => have z := se_of_sfl (sf_comp1 (t := t) (k := k) (sound elt).1 (sound c).2.1 (sounds its).1 (hv_of (sounds its).2)) (lo_comp1 elt c t k its); ⟨z, st_of z (fun sc x h env whole => plainT_ok (by cases x <;> first | rfl | exact absurd h (by simp [chk])) env whole), sw_no fun _ _ _ _ => rfl⟩
  | .comps elt t o none => have z := se_of_sfl (sf_comps0 (t := t) (sound elt).1 (sound o).1) (lo_comps0 elt t o); ⟨z, st_of z (fun sc x h env whole => plainT_ok (by cases x <;> first | rfl | exact absurd h (by simp [chk])) env whole), sw_no fun _ _ _ _ => rfl⟩
  | .comps elt t o (some c) => have z := se_of_sfl (sf_comps1 (t := t) (sound elt).1 (sound c).2.1 (sound o).1) (lo_comps1 elt c t o); ⟨z, st_of z (fun sc x h env whole => plainT_ok (by cases x <;> first | rfl | exact absurd h (by simp [chk])) env whole), sw_no fun _ _ _ _ => rfl⟩
theorem sounds : ∀ es : Exs, SA ga G N T es ∧ SAll ga G N T es
  | .nil => ⟨sa_nil, trivial⟩
  | .cons e es => ⟨sa_cons (sound e).1 (sounds es).1, (sound e).1, (sounds es).2⟩
end
end
end LD

set_option Elab.async false
set_option linter.all false
set_option maxRecDepth 100000
set_option maxHeartbeats 2000000
/-! LD9: statements. -/
namespace LD
open PySem PySem.Spec PyProof.Rows L2 HT

/-- what a statement leans on: the entry of the def (only what is new since then is a local's own); what it must not lose -/
structure Base where
  ms0 : List Addr
  Γ0 : Hp
  H0 : Hp
  msb : List Addr
  Γb : Hp
structure FS (K : PySem.W.Frag) (ga : GA) (B : Base) (ms : List Addr) (Γ : Hp) (μ : Store) (ρ : Env) (σ : L2.St) (H : Hp) : Prop where
  af : After K ga B.ms0 B.Γ0 B.H0 ms Γ μ H
  le : Same B.Γb Γ
  pre : B.msb <+: ms
  er : ER K ga ms Γ H ρ σ
  fresh : ∀ (i : Nat) (xs : List D) (a : Addr), ρ[i]? = some (.own xs) → σ[i]? = some (some (.ref a)) → B.H0 a = none
def FP (X : Cx) (ga : GA) (B : Base) (fl : Fl) (W : WX) (D : Ends) : Prop := match fl with
  | .nx ρ μ => ∀ ms Γ σ H, FS X.K ga B ms Γ μ ρ σ H → D.nx σ H
  | .brk ρ μ => ∀ ms Γ σ H, FS X.K ga B ms Γ μ ρ σ H → D.bk σ H
  | .cont ρ μ => ∀ ms Γ σ H, FS X.K ga B ms Γ μ ρ σ H → D.ct σ H
  | .ret d μ => ∀ ms Γ v H, After X.K ga B.ms0 B.Γ0 B.H0 ms Γ μ H → Same B.Γb Γ → B.msb <+: ms → Rep X.K ga ms Γ d v → D.rt v H
  | .exc c fs ρ μ => ∀ ms Γ σ H cls dd, FS X.K ga B ms Γ μ ρ σ H → XRep X.K ga ms Γ H c fs cls dd → W cls dd σ H
  | .bad => False
def tS (X : Cx) (ga : GA) (G : GT) (fuel : Nat) (W : WX) (s : Sm) : TS := fun D σ H => ∃ B ms Γ μ ρ, FS X.K ga B ms Γ μ ρ σ H ∧ FP X ga B (exS G fuel s ρ μ) W D
def tSs (X : Cx) (ga : GA) (G : GT) (fuel : Nat) (W : WX) (s : Sms) : TS := fun D σ H => ∃ B ms Γ μ ρ, FS X.K ga B ms Γ μ ρ σ H ∧ FP X ga B (exSs G fuel s ρ μ) W D
theorem _root_.L2.PS.mono {X : Cx} {e : Stmt} {t t' : TS} (h : PS X e t) (k : ∀ D σ H, t' D σ H → t D σ H) : PS X e t' := ⟨fun pins s σ H D I hw => h.run pins s σ H D I (k D σ H hw)⟩
theorem _root_.L2.PSs.mono {X : Cx} {e : List Stmt} {t t' : TS} (h : PSs X e t) (k : ∀ D σ H, t' D σ H → t D σ H) : PSs X e t' := ⟨fun pins s σ H D I hw => h.run pins s σ H D I (k D σ H hw)⟩

section
variable {K : PySem.W.Frag} {ga : GA} {B : Base} {ms ms1 : List Addr} {Γ Γ1 : Hp} {μ μ1 : Store} {H H1 : Hp} {ρ : Env} {σ : L2.St}
theorem FS.si (F : FS K ga B ms Γ μ ρ σ H) : SI K ga ms Γ μ H := F.af.si
theorem FS.step (F : FS K ga B ms Γ μ ρ σ H) (A : After K ga ms Γ H ms1 Γ1 μ1 H1) : FS K ga B ms1 Γ1 μ1 ρ σ H1 :=
  ⟨F.af.trans A, F.le.trans A.le, F.pre.trans A.pre, F.er.mono A, F.fresh⟩
theorem FS.put (F : FS K ga B ms Γ μ ρ σ H) {i : Nat} {d : D} {v : V} (r : Rep K ga ms Γ d v) : FS K ga B ms Γ μ (ρ.set i (.val d)) (σ.set i (some v)) H := by
  refine ⟨F.af, F.le, F.pre, F.er.put r, fun j xs a e1 e2 => ?_⟩
  by_cases q : i = j
  · subst q
    have hi : i < ρ.length := by have := (List.getElem?_eq_some_iff.mp e1).1; rwa [List.length_set] at this
    rw [List.getElem?_set_self hi] at e1
    cases e1
  · rw [List.getElem?_set_ne q] at e1 e2
    exact F.fresh j xs a e1 e2
theorem FS.putOwn (F : FS K ga B ms Γ μ ρ σ H) {i : Nat} {xs : List D} {p : Addr} {vs : List V} (h1 : H p = some (.lst vs)) (h2 : Γ p = none) (h3 : p ∉ ms) (h0 : B.H0 p = none) (h4 : xs.length ≤ sizeLine) (h5 : Reps K ga ms Γ xs vs)
    (hd : ∀ (j : Nat) (ys : List D) (b : Addr), j ≠ i → ρ[j]? = some (.own ys) → σ[j]? = some (some (.ref b)) → b ≠ p) : FS K ga B ms Γ μ (ρ.set i (.own xs)) (σ.set i (some (.ref p))) H := by
  refine ⟨F.af, F.le, F.pre, F.er.putOwn h1 h2 h3 h4 h5 hd, fun j xs a e1 e2 => ?_⟩
  by_cases q : i = j
  · subst q
    have hi : i < ρ.length := by have := (List.getElem?_eq_some_iff.mp e1).1; rwa [List.length_set] at this
    have hi2 : i < σ.length := by rw [← F.er.len]; exact hi
    rw [List.getElem?_set_self hi2] at e2
    cases e2
    exact h0
  · rw [List.getElem?_set_ne q] at e1 e2
    exact F.fresh j xs a e1 e2
/-- a new own list is stored -/
theorem FS.newOwn (F : FS K ga B ms Γ μ ρ σ H) {i : Nat} {xs : List D} {p : Addr} {vs : List V} (A : After K ga ms Γ H ms1 Γ1 μ1 H1) (h1 : H1 p = some (.lst vs)) (h2 : Γ1 p = none) (h3 : p ∉ ms1) (h0 : H p = none) (h4 : xs.length ≤ sizeLine) (h5 : Reps K ga ms1 Γ1 xs vs) :
    FS K ga B ms1 Γ1 μ1 (ρ.set i (.own xs)) (σ.set i (some (.ref p))) H1 := by
  refine (F.step A).putOwn h1 h2 h3 (F.af.none_back h0 fun hm => h3 ((F.af.pre.trans A.pre).subset hm)) h4 h5 fun j ys b _ e1 e2 q => ?_
  obtain ⟨b', vs', f1, f2, _⟩ := F.er.own e1
  rw [e2] at f1
  cases f1
  rw [q, h0] at f2
  cases f2
/-- an own list is changed -/
theorem FS.chOwn (F : FS K ga B ms Γ μ ρ σ H) {i : Nat} {xs ys : List D} {p : Addr} {us : List V} (e : ρ[i]? = some (.own xs)) (e2 : σ[i]? = some (some (.ref p))) (h4 : ys.length ≤ sizeLine) (h5 : Reps K ga ms Γ ys us) :
    FS K ga B ms Γ μ (ρ.set i (.own ys)) σ (upd H p (.lst us)) := by
  obtain ⟨p', vs, f1, f2, f3, f4, f5, f6⟩ := F.er.own e
  rw [e2] at f1
  cases f1
  have h0 := F.fresh i xs p e e2
  have hi : i < ρ.length := (List.getElem?_eq_some_iff.mp e).1
  have hi2 : i < σ.length := by rw [← F.er.len]; exact hi
  refine ⟨F.af.putOwn h0 f3 f4, F.le, F.pre, ⟨by rw [List.length_set]; exact F.er.len, fun j s ov g1 g2 => ?_, fun j k xs' ys' a b ne g1 g2 g3 g4 => ?_⟩, fun j xs' a g1 g2 => ?_⟩
  · by_cases q : i = j
    · subst q
      rw [List.getElem?_set_self hi] at g1
      cases g1
      rw [e2] at g2
      cases g2
      exact ⟨p, us, rfl, upd_same, f3, f4, h4, h5⟩
    · rw [List.getElem?_set_ne q] at g1
      have z := F.er.at_ j s ov g1 g2
      cases s with
      | no => trivial
      | val d => exact z
      | own zs =>
        obtain ⟨b, ws, z1, z2, z3⟩ := z
        subst z1
        have ne := F.er.sep i j xs zs p b q e g1 e2 g2
        exact ⟨b, ws, rfl, by rw [upd_ne (Ne.symm ne)]; exact z2, z3⟩
  · have own' : ∀ (j : Nat) (zs : List D), (ρ.set i (.own ys))[j]? = some (.own zs) → ∃ zs', ρ[j]? = some (.own zs') := fun j zs g => by
      by_cases q : i = j
      · subst q; exact ⟨xs, e⟩
      · rw [List.getElem?_set_ne q] at g; exact ⟨zs, g⟩
    obtain ⟨_, g1'⟩ := own' _ _ g1
    obtain ⟨_, g2'⟩ := own' _ _ g2
    exact F.er.sep j k _ _ a b ne g1' g2' g3 g4
  · by_cases q : i = j
    · subst q
      rw [e2] at g2
      cases g2
      exact h0
    · rw [List.getElem?_set_ne q] at g1
      exact F.fresh j xs' a g1 g2
/-- an own list is given away -/
theorem FS.give (F : FS K ga B ms Γ μ ρ σ H) {i : Nat} {xs : List D} (e : ρ[i]? = some (.own xs)) : ∃ Γ', FS K ga B ms Γ' μ (ρ.set i (.val (.lst xs))) σ H := by
  obtain ⟨p, vs, e2, f2, f3, f4, f5, f6⟩ := F.er.own e
  have h0 := F.fresh i xs p e e2
  have le : Same Γ (upd Γ p (.lst vs)) := fun a u q => by rw [upd_ne (ne_of_none q f3)]; exact q
  have hi : i < ρ.length := (List.getElem?_eq_some_iff.mp e).1
  refine ⟨upd Γ p (.lst vs), ⟨F.si.share f2 f3 f4, F.af.le.trans le, F.af.pre, F.af.keep, F.af.newm, fun a o q => ?_⟩, F.le.trans le, F.pre, ⟨by rw [List.length_set]; exact F.er.len, fun j s ov g1 g2 => ?_, fun j k xs' ys' a b ne g1 g2 g3 g4 => ?_⟩, fun j xs' a g1 g2 => ?_⟩
  · by_cases z : a = p
    · subst z; exact .inr h0
    · rw [upd_ne z] at q; exact F.af.newg a o q
  · by_cases q : i = j
    · subst q
      rw [List.getElem?_set_self hi] at g1
      cases g1
      rw [e2] at g2
      cases g2
      refine ⟨.ref p, rfl, ?_⟩
      unfold Rep
      exact ⟨p, vs, rfl, upd_same, f5, f6.mono le List.prefix_rfl⟩
    · rw [List.getElem?_set_ne q] at g1
      have z := F.er.at_ j s ov g1 g2
      cases s with
      | no => trivial
      | val d =>
        obtain ⟨v, z1, z2⟩ := z
        exact ⟨v, z1, z2.mono le List.prefix_rfl⟩
      | own zs =>
        obtain ⟨b, ws, z1, z2, z3, z4, z5, z6⟩ := z
        subst z1
        have ne := F.er.sep i j xs zs p b q e g1 e2 g2
        exact ⟨b, ws, rfl, z2, by rw [upd_ne (Ne.symm ne)]; exact z3, z4, z5, z6.mono le List.prefix_rfl⟩
  · by_cases q : i = j
    · subst q; rw [List.getElem?_set_self hi] at g1; cases g1
    · by_cases q2 : i = k
      · subst q2; rw [List.getElem?_set_self hi] at g2; cases g2
      · rw [List.getElem?_set_ne q] at g1
        rw [List.getElem?_set_ne q2] at g2
        exact F.er.sep j k _ _ a b ne g1 g2 g3 g4
  · by_cases q : i = j
    · subst q; rw [List.getElem?_set_self hi] at g1; cases g1
    · rw [List.getElem?_set_ne q] at g1
      exact F.fresh j xs' a g1 g2
end
section
variable {X : Cx} {ga : GA} {G : GT} {W : WX} {B : Base} {ms : List Addr} {Γ : Hp} {μ : Store} {H : Hp} {σ : L2.St} {ρ : Env} {D : Ends}
/-- an expression in a statement -/
theorem stF {e : Ex} {f : LD.D → Store → Fl} {T : VK} (F : FS X.K ga B ms Γ μ ρ σ H) (h : FP X ga B (Fl.of ρ (ev G e ρ μ) f) W D)
    (k : ∀ d μ1 v H1 ms1 Γ1, FS X.K ga B ms1 Γ1 μ1 ρ σ H1 → After X.K ga ms Γ H ms1 Γ1 μ1 H1 → Rep X.K ga ms1 Γ1 d v → FP X ga B (f d μ1) W D → T v H1) : tE X ga G W e σ H T := by
  refine ⟨ms, Γ, μ, ρ, F.si, F.er, ?_⟩
  cases e1 : ev G e ρ μ with
  | ok d μ1 =>
    rw [e1] at h
    exact fun v H1 ms1 Γ1 A r => k d μ1 v H1 ms1 Γ1 (F.step A) A r h
  | exc c fs μ1 =>
    rw [e1] at h
    exact fun cls dd H' ms' Γ' A r => h ms' Γ' σ H' cls dd (F.step A) r
  | bad => rw [e1] at h; exact h.elim
theorem stFA {es : Exs} {f : List LD.D → Store → Fl} {T : List V → Hp → Prop} (F : FS X.K ga B ms Γ μ ρ σ H) (h : FP X ga B (Fl.of ρ (evs G es ρ μ) f) W D)
    (k : ∀ ds μ1 vs H1 ms1 Γ1, FS X.K ga B ms1 Γ1 μ1 ρ σ H1 → After X.K ga ms Γ H ms1 Γ1 μ1 H1 → Reps X.K ga ms1 Γ1 ds vs → FP X ga B (f ds μ1) W D → T vs H1) : tA X ga G W es σ H T := by
  refine ⟨ms, Γ, μ, ρ, F.si, F.er, ?_⟩
  cases e1 : evs G es ρ μ with
  | ok d μ1 =>
    rw [e1] at h
    exact fun v H1 ms1 Γ1 A r => k d μ1 v H1 ms1 Γ1 (F.step A) A r h
  | exc c fs μ1 =>
    rw [e1] at h
    exact fun cls dd H' ms' Γ' A r => h ms' Γ' σ H' cls dd (F.step A) r
  | bad => rw [e1] at h; exact h.elim
theorem stFB {e : Ex} {f : Bool → Store → Fl} {T : Bool → Hp → Prop} (F : FS X.K ga B ms Γ μ ρ σ H) (h : FP X ga B (Fl.of ρ (testOf (ev G e ρ μ)) f) W D)
    (k : ∀ b μ1 H1 ms1 Γ1, FS X.K ga B ms1 Γ1 μ1 ρ σ H1 → After X.K ga ms Γ H ms1 Γ1 μ1 H1 → FP X ga B (f b μ1) W D → T b H1) : tT X ga G W e σ H T := by
  refine ⟨ms, Γ, μ, ρ, F.si, F.er, ?_⟩
  cases e1 : testOf (ev G e ρ μ) with
  | ok d μ1 =>
    rw [e1] at h
    exact fun H1 ms1 Γ1 A => k d μ1 H1 ms1 Γ1 (F.step A) A h
  | exc c fs μ1 =>
    rw [e1] at h
    exact fun cls dd H' ms' Γ' A r => h ms' Γ' σ H' cls dd (F.step A) r
  | bad => rw [e1] at h; exact h.elim
/-- an expression that makes a new list -/
theorem stFF {e : Ex} {f : LD.D → Store → Fl} {T : VK} (F : FS X.K ga B ms Γ μ ρ σ H) (h : FP X ga B (Fl.of ρ (ev G e ρ μ) f) W D) (hl : ∀ d μ1, FP X ga B (f d μ1) W D → ∃ xs, d = .lst xs)
    (k : ∀ xs μ1 p vs H1 ms1 Γ1, After X.K ga ms Γ H ms1 Γ1 μ1 H1 → H1 p = some (.lst vs) → Γ1 p = none → p ∉ ms1 → H p = none → xs.length ≤ sizeLine → Reps X.K ga ms1 Γ1 xs vs → FP X ga B (f (.lst xs) μ1) W D → T (.ref p) H1) : tF X ga G W e σ H T := by
  refine ⟨ms, Γ, μ, ρ, F.si, F.er, ?_⟩
  cases e1 : ev G e ρ μ with
  | ok d μ1 =>
    rw [e1] at h
    obtain ⟨xs, rfl⟩ := hl d μ1 h
    exact fun p vs H1 ms1 Γ1 A h1 h2 h3 h4 h5 h6 => k xs μ1 p vs H1 ms1 Γ1 A h1 h2 h3 h4 h5 h6 h
  | exc c fs μ1 =>
    rw [e1] at h
    exact fun cls dd H' ms' Γ' A r => h ms' Γ' σ H' cls dd (F.step A) r
  | bad => rw [e1] at h; exact h.elim
theorem FP.opt {o : Option Env} {μ : Store} (h : FP X ga B (Fl.opt o μ) W D) : ∃ ρ', o = some ρ' ∧ FP X ga B (.nx ρ' μ) W D := by
  cases o with
  | none => exact False.elim h
  | some d => exact ⟨d, rfl, h⟩
end
end LD

set_option Elab.async false
set_option linter.all false
set_option maxRecDepth 100000
set_option maxHeartbeats 2000000
/-! LD10: the checker of statements, and that statements do what the interpreter says. -/
namespace LD
open PySem PySem.Spec PyProof.Rows L2 HT

def notComp : Expr → Bool
  | .ListComp _ _ _ _ => false
  | .SetComp _ _ _ _ => false
  | .DictComp _ _ _ _ _ => false
  | _ => true
def notTup : Expr → Bool
  | .Tuple _ _ _ => false
  | _ => true
def isComp : Ex → Bool
  | .comp _ _ _ _ _ => true
  | _ => false
def isFresh : Ex → Bool
  | .lst _ => true
  | .blt .list1 _ => true
  | _ => false
def isFreshO : Ex → Bool
  | .bin .add _ _ => true
  | e => isFresh e
def swB (sc : Scope) (x : Expr) (y : Str) (py : Pos) : Bool := match x with
  | .ListComp _ _ scope _ => (sc.names.lookup y == some .local) && py.line == x.pos.line && !(scope.names.any fun (n, k) => n == y && (k == .local || k == .cell))
  | _ => false
def parOk (sc : Scope) (x : Str) : Bool := decide (sc.names.lookup x = some .local)
def allConst (xs : List Expr) : Bool := xs.all (foldedForSure 8)
def allAlone (xs : List Expr) : Bool := xs.all (constantsAlone 8)
/-- some target is a cell: the tuple is built and taken apart -/
def cellIn (sc : Scope) (ts : List Expr) : Bool := ts.any fun
  | .Name x _ => decide (sc.names.lookup x = some .cell)
  | _ => false
def tupConst : Expr → Bool
  | .Tuple xs _ _ => allConst xs
  | _ => false
def parOwn (N : List Str) (T : Tb) (sc : Scope) (es : Exs) (a b : Expr) : Bool := match es with
  | .cons e1 (.cons e2 .nil) => isFresh e1 && chk N T sc e1 a && notStar a && chk N T sc e2 b && notStar b
  | _ => false
def parC (N : List Str) (T : Tb) (sc : Scope) (is : List (Nat × Bool)) (es : Exs) (ts : List Expr) (v : Expr) : Bool := match is, ts, v with
  | [(i, false), (j, false)], [.Tuple [.Name x px, .Name y py] _ _], .Tuple [a, b] _ _ => decide (N[i]? = some x) && decide (N[j]? = some y) && parOk sc x && parOk sc y && decide (x ≠ y) && decide (px.line = py.line) && chks N T sc es [a, b] && !allConst [a, b] && !allAlone [a, b]
  | [(i, false), (j, false), (l, false)], [.Tuple [.Name x px, .Name y py, .Name z pz] _ _], .Tuple [a, b, c] _ _ => decide (N[i]? = some x) && decide (N[j]? = some y) && decide (N[l]? = some z) && parOk sc x && parOk sc y && parOk sc z && decide (x ≠ y) && decide (x ≠ z) && decide (y ≠ z) && decide (px.line = py.line) && decide (px.line = pz.line) && chks N T sc es [a, b, c] && !allConst [a, b, c] && !allAlone [a, b, c]
  | [(i, true), (j, false)], [.Tuple [.Name x px, .Name y py] _ _], .Tuple [a, b] _ _ => decide (N[i]? = some x) && decide (N[j]? = some y) && parOk sc x && parOk sc y && decide (x ≠ y) && decide (px.line = py.line) && parOwn N T sc es a b && !allConst [a, b] && !allAlone [a, b]
  | _, _, _ => false
def raisC (T : Tb) (sc : Scope) (c : Str) : Option Expr → Option Expr → Bool
  | some (.Call (.Name x _) [.Constant (.str _) _ _] [] _), none => decide (x = c) && decide ((c, 1000) ∈ T) && glC sc x && okName x
  | _, _ => false
def tryC (T : Tb) (sc : Scope) (c z : Str) : List ExceptHandler → List Stmt → List Stmt → Bool
  | [.ExceptHandler (some (.Name x _)) none [.Return (some (.Constant (.str y) _ _)) _] _], [], [] => decide (x = c) && decide ((c, 1000) ∈ T) && glC sc x && okName x && decide (y = z) && decide (z.length ≤ LINE)
  | _, _, _ => false
theorem raisC_ok {T : Tb} {sc : Scope} {c : Str} {e cause : Option Expr} (h : raisC T sc c e cause = true) : ∃ x m j p p2 p3, e = some (.Call (.Name x p) [.Constant (.str m) j p2] [] p3) ∧ cause = none ∧ x = c ∧ (c, 1000) ∈ T ∧ glC sc x = true ∧ okName x = true := by
  unfold raisC at h
  split at h
  · simp only [Bool.and_eq_true, decide_eq_true_eq] at h
    exact ⟨_, _, _, _, _, _, rfl, rfl, h.1.1.1, h.1.1.2, h.1.2, h.2⟩
  · cases h
theorem tryC_ok {T : Tb} {sc : Scope} {c z : Str} {hs : List ExceptHandler} {els fin : List Stmt} (h : tryC T sc c z hs els fin = true) : ∃ x y j p1 p2 p3 p4, hs = [.ExceptHandler (some (.Name x p1)) none [.Return (some (.Constant (.str y) j p2)) p3] p4] ∧ els = [] ∧ fin = [] ∧
    x = c ∧ (c, 1000) ∈ T ∧ glC sc x = true ∧ okName x = true ∧ y = z ∧ z.length ≤ LINE := by
  unfold tryC at h
  split at h
  · simp only [Bool.and_eq_true, decide_eq_true_eq] at h
    exact ⟨_, _, _, _, _, _, _, rfl, rfl, rfl, h.1.1.1.1.1, h.1.1.1.1.2, h.1.1.1.2, h.1.1.2, h.1.2, h.2⟩
  · cases h
def setd2F : Stmt → Option (Expr × Expr × Expr × Expr × Expr × Expr)
  | .Assign [.Tuple [.Subscript x1 i1 _, .Subscript x2 i2 _] _ _] (.Tuple [v1, v2] _ _) _ => some (x1, i1, x2, i2, v1, v2)
  | _ => none
theorem setd2F_some {st : Stmt} {x1 i1 x2 i2 v1 v2 : Expr} (h : setd2F st = some (x1, i1, x2, i2, v1, v2)) : ∃ p1 p2 kk pp kk2 pp2 pos, st = .Assign [.Tuple [.Subscript x1 i1 p1, .Subscript x2 i2 p2] kk pp] (.Tuple [v1, v2] kk2 pp2) pos := by
  unfold setd2F at h
  split at h
  · cases h
    exact ⟨_, _, _, _, _, _, _, rfl⟩
  · cases h
def setd2C (N : List Str) (T : Tb) (sc : Scope) (o1 k1 o2 k2 e1 e2 : Ex) : Option (Expr × Expr × Expr × Expr × Expr × Expr) → Bool
  | some (x1, i1, x2, i2, v1, v2) => chk N T sc o1 x1 && chk N T sc k1 i1 && plainIx i1 && chk N T sc o2 x2 && chk N T sc k2 i2 && plainIx i2 && chks N T sc (.cons e1 (.cons e2 .nil)) [v1, v2]
  | none => false
mutual
def chkS (N : List Str) (T : Tb) (sc : Scope) : Sm → Stmt → Bool
  | .expr e, .Expr x _ => chk N T sc e x && notComp x
  | .asg (.name i) e, .Assign [.Name y py] x _ => decide (N[i]? = some y) && locC sc y && chk N T sc e x && (notComp x || (isComp e && swB sc x y py))
  | .asg (.tup is) e, .Assign [.Tuple ts k p] x _ => tgC N sc (.tup is) (.Tuple ts k p) && chk N T sc e x && notComp x && (notTup x || decide (3 < ts.length) || tupConst x || cellIn sc ts)
  | .own i e, .Assign [.Name y py] x _ => decide (N[i]? = some y) && locC sc y && chk N T sc e x && ((notComp x && isFreshO e) || (isComp e && swB sc x y py))
  | .app i e, .Expr (.Call (.Attribute (.Name y _) n ap) [x] [] cp) _ => nIs N sc i y && decide (n = ("append" : Str)) && chk N T sc e x && notStar x && decide (ap.endLine = cp.line)
  | .seti i k e, .Assign [.Subscript (.Name y _) ix _] x _ => nIs N sc i y && chk N T sc k ix && plainIx ix && chk N T sc e x && notComp x
  | .appl o e, .Expr (.Call (.Attribute y n ap) [x] [] cp) _ => decide (n = ("append" : Str)) && chk N T sc o y && notSuper y && chk N T sc e x && notStar x && decide (ap.endLine = cp.line)
  | .setd o k e, .Assign [.Subscript ox ix _] x _ => chk N T sc o ox && chk N T sc k ix && plainIx ix && chk N T sc e x && notComp x
  | .setl o k e, .Assign [.Subscript ox ix _] x _ => chk N T sc o ox && chk N T sc k ix && plainIx ix && chk N T sc e x && notComp x
  | .setf o f cs e, .Assign [.Attribute ox n _] x _ => decide (n = f) && chk N T sc o ox && chk N T sc e x && notComp x && cs.all fun c => decide ((c, f) ∈ T.fl)
  | .unl is e, .Assign [.Tuple ts k p] x _ => tgC N sc (.tup is) (.Tuple ts k p) && chk N T sc e x && notComp x && notTup x
  | .setd2 o1 k1 o2 k2 e1 e2, st => setd2C N T sc o1 k1 o2 k2 e1 e2 (setd2F st)
  | .par is es, .Assign ts x _ => parC N T sc is es ts x
  | .ret e, .Return (some x) _ => chk N T sc e x
  | .retn, .Return none _ => true
  | .ite c a b, .If t p q _ => chk N T sc c t && chkSs N T sc a p && chkSs N T sc b q
  | .for_ t k its body, .For tg it b [] _ => zipT k t && tgC N sc t tg && itC N T sc k its it && chkSs N T sc body b
  | .forl t o body, .For tg it b [] _ => tgC N sc t tg && itC N T sc .val (.cons o .nil) it && chkSs N T sc body b
  | .while_ c body, .While t b [] _ => chk N T sc c t && chkSs N T sc body b
  | .raise_ _ _, .Raise _ _ _ => true
  | .rais c, .Raise e cause _ => raisC T sc c e cause
  | .try_ body c z, .Try b hs els fin _ => tryC T sc c z hs els fin && chkSs N T sc body b
  | .brk, .Break _ => true
  | .cont, .Continue _ => true
  | .pass, .Pass _ => true
  | _, _ => false
def chkSs (N : List Str) (T : Tb) (sc : Scope) : Sms → List Stmt → Bool
  | .nil, [] => true
  | .cons (.fre _) ss, sts => chkSs N T sc ss sts
  | .cons s ss, st :: sts => chkS N T sc s st && chkSs N T sc ss sts
  | _, _ => false
end
section
variable {ga : GA} {G : GT} {N : List Str} {T : Tb} {sc : Scope} {X : Cx} {W : WX}
theorem blockKind_fn {env : PySem.Env} (h : env.scope.kind = .function) : env.blockKind = .function := by
  unfold Env.blockKind
  rw [h]
  rfl
theorem sw_plain {x : Expr} {tg : Option Expr} {line : Nat} {env : PySem.Env} (h : notComp x = true) : swapsWith x tg line env = pure false := by
  unfold swapsWith
  cases x <;> first | rfl | exact absurd h Bool.false_ne_true
theorem sw_sole {x tg : Expr} {line : Nat} {env : PySem.Env} (h : notComp x = true) : swapsWithSole [tg] x line env = pure false := sw_plain h
theorem sw_comp {x : Expr} {y : Str} {py : Pos} {line : Nat} (hk : X.env.scope.kind = .function) (h : swB X.env.scope x y py = true) : swapsWith x (some (.Name y py)) line X.env = pure true ∧ X.env.scope.names.lookup y = some .local := by
  cases x with
  | ListComp e gs scope pos =>
    have h' : ((X.env.scope.names.lookup y == some .local) && py.line == (Expr.ListComp e gs scope pos).pos.line && !(scope.names.any fun (n, k) => n == y && (k == .local || k == .cell))) = true := h
    have h2 := h'
    simp only [Bool.and_eq_true] at h2
    refine ⟨?_, by simpa using h2.1.1⟩
    show (pure (X.env.blockKind == .function && X.env.kindOf y == some .local && py.line == (Expr.ListComp e gs scope pos).pos.line && !(scope.names.any fun (n, k) => n == y && (k == .local || k == .cell))) : Sem Bool) = pure true
    rw [blockKind_fn hk]
    show (pure (true && (X.env.scope.names.lookup y == some .local) && py.line == (Expr.ListComp e gs scope pos).pos.line && !(scope.names.any fun (n, k) => n == y && (k == .local || k == .cell))) : Sem Bool) = pure true
    rw [Bool.true_and, h']
  | _ => exact absurd h Bool.false_ne_true
theorem sfl_comp {e : Ex} (h : isComp e = true) : SFL ga G N T e ∧ ListOnly G e := by
  cases e with
  | comp elt t k its c =>
    cases c with
    | none => exact ⟨sf_comp0 (sound elt).1 (sounds its).1 (hv_of (sounds its).2), lo_comp0 elt t k its⟩
    | some c => exact ⟨sf_comp1 (sound elt).1 (sound c).2.1 (sounds its).1 (hv_of (sounds its).2), lo_comp1 elt c t k its⟩
  | _ => exact absurd h Bool.false_ne_true
/-- new lists by a display, by list() -/
theorem stepAP {es : Exs} {f : List D → Store → Out D} {ms : List Addr} {Γ : Hp} {μ : Store} {H : Hp} {σ : L2.St} {ρ : Env} {Q : VK} {T : List V → Hp → Prop} (S : SI X.K ga ms Γ μ H) (R : ER X.K ga ms Γ H ρ σ) (h : PF X ga ms Γ H ((evs G es ρ μ).bind f) σ W Q)
    (k : ∀ ds μ1 vs H1 ms1 Γ1, After X.K ga ms Γ H ms1 Γ1 μ1 H1 → Reps X.K ga ms1 Γ1 ds vs → PF X ga ms1 Γ1 H1 (f ds μ1) σ W Q → T vs H1) : tA X ga G W es σ H T := by
  refine ⟨ms, Γ, μ, ρ, S, R, ?_⟩
  cases e1 : evs G es ρ μ with
  | ok d μ1 =>
    rw [e1] at h
    exact fun v H1 ms1 Γ1 A r => k d μ1 v H1 ms1 Γ1 A r (PF.shift h A)
  | exc c fs μ1 => rw [e1] at h; exact h
  | bad => rw [e1] at h; exact h.elim
theorem PF.new {ms : List Addr} {Γ : Hp} {μ : Store} {H : Hp} {σ : L2.St} {Q : VK} {xs : List D} {vs : List V} (q : PF X ga ms Γ H (.ok (.lst xs) μ) σ W Q) (S : SI X.K ga ms Γ μ H) (hz : xs.length ≤ sizeLine) (r : Reps X.K ga ms Γ xs vs) : ∀ p, H p = none → Q (.ref p) (upd H p (.lst vs)) := fun p hp => by
  have hΓ : Γ p = none := by
    cases e : Γ p with
    | none => rfl
    | some u => rw [S.sub _ _ e] at hp; cases hp
  have hm : p ∉ ms := fun hm => by
    obtain ⟨u, e⟩ := S.there p hm
    rw [hp] at e; cases e
  exact q p vs _ ms Γ (After.layOwn S hp) upd_same hΓ hm hp hz r
theorem sf_fresh {e : Ex} (hf : isFresh e = true) {x : Expr} (C : GC X ga G N T sc) (tk : Takes X W) (h : chk N T sc e x = true) : PE X x (tF X ga G W e) := by
  cases e with
  | lst es =>
    cases x with
    | List xs pos =>
      refine (pe_lst ((sounds es).1 X sc xs W C tk h)).mono fun σ H Q ⟨ms, Γ, μ, ρ, S, R, q⟩ => ?_
      refine stepAP S R q fun ds μ1 vs H1 ms1 Γ1 A r q1 => ?_
      split at q1
      · rename_i hz
        rw [line_eq] at hz
        exact ⟨by rw [← r.length]; exact hz, PF.new q1 A.si hz r⟩
      · exact False.elim q1
    | _ => exact absurd h (by simp [chk])
  | blt f es =>
    cases f with
    | list1 =>
      cases x with
      | Call g xs kws pos =>
        cases g with
        | Name y py =>
          match xs, kws, h with
          | a :: as, [], h =>
            obtain ⟨h1, h2, h3⟩ := and3 (show (decide (y = bltNm .list1) && glC sc y && chks N T sc es (a :: as)) = true from h)
            have e := of_decide_eq_true h1
            subst e
            obtain ⟨b1, b2, b3, b4⟩ := blt_boot .list1
            have st2 := Bool.and_eq_true_iff.mp (show (notStar a && as.all notStar) = true from chks_star h3)
            refine (pe_callV (.inr ⟨_, rfl⟩) (call_list_of.or (call_list_strL C.calm)) (C.gl _ h2) (C.blt _ b1) b4 ((sounds es).1 X sc _ W C tk h3) b2 b3 (star_cons a as X.env st2.1) (plain_any st2.2)).mono fun σ H Q ⟨ms, Γ, μ, ρ, S, R, q⟩ => ?_
            refine stepAP S R q fun ds μ1 vs H1 ms1 Γ1 A r q1 => ?_
            match ds, r, q1 with
            | [], _, q1 => exact False.elim q1
            | [d], r, q1 =>
              obtain ⟨v, rr, rfl, r1, r2⟩ := r.cons_iff
              rw [r2.nil_iff]
              cases d with
              | tup ys =>
                unfold Rep at r1
                obtain ⟨a, us, rfl, g1, g2, g3⟩ := r1
                exact .inl ⟨a, us, rfl, .inr (g1.mono A.si.sub).seq, PF.new q1 A.si g2 g3⟩
              | lst ys =>
                unfold Rep at r1
                obtain ⟨a, us, rfl, g1, g2, g3⟩ := r1
                exact .inl ⟨a, us, rfl, .inl (SqL.of (A.si.sub _ _ g1)), PF.new q1 A.si g2 g3⟩
              | str z =>
                unfold Rep at r1
                obtain ⟨rfl, hz⟩ := r1
                exact .inr ⟨z, rfl, hz, PF.new q1 A.si (by rw [List.length_map]; simpa [Str.length] using hz) (strl_rep _)⟩
              | _ => exact False.elim q1
            | a0 :: b0 :: r0, _, q1 => cases a0 <;> exact False.elim q1
          | [], [], h => simp [chk] at h
          | [], _ :: _, h => simp [chk] at h
          | _ :: _, _ :: _, h => simp [chk] at h
        | _ => exact absurd h (by simp [chk])
      | _ => exact absurd h (by simp [chk])
    | _ => exact absurd hf Bool.false_ne_true
  | _ => exact absurd hf Bool.false_ne_true
theorem stepP {e : Ex} {f : D → Store → Out D} {ms : List Addr} {Γ : Hp} {μ : Store} {H : Hp} {σ : L2.St} {ρ : Env} {Q : VK} {T : VK} (S : SI X.K ga ms Γ μ H) (R : ER X.K ga ms Γ H ρ σ) (h : PF X ga ms Γ H ((ev G e ρ μ).bind f) σ W Q)
    (k : ∀ d μ1 v H1 ms1 Γ1, After X.K ga ms Γ H ms1 Γ1 μ1 H1 → Rep X.K ga ms1 Γ1 d v → ER X.K ga ms1 Γ1 H1 ρ σ → PF X ga ms1 Γ1 H1 (f d μ1) σ W Q → T v H1) : tE X ga G W e σ H T := by
  refine ⟨ms, Γ, μ, ρ, S, R, ?_⟩
  cases e1 : ev G e ρ μ with
  | ok d μ1 =>
    rw [e1] at h
    exact fun v H1 ms1 Γ1 A r => k d μ1 v H1 ms1 Γ1 A r (R.mono A) (PF.shift h A)
  | exc c fs μ1 => rw [e1] at h; exact h
  | bad => rw [e1] at h; exact h.elim
theorem add_lst {ms : List Addr} {Γ : Hp} {μ : Store} {H : Hp} {σ : L2.St} {Q : VK} {x y : D} (q : PF X ga ms Γ H (opt (binop .add x y) μ) σ W Q) : ∃ xs ys, x = .lst xs ∧ y = .lst ys ∧ xs.length + ys.length ≤ LINE ∧ PF X ga ms Γ H (.ok (.lst (xs ++ ys)) μ) σ W Q := by
  cases e : binop .add x y with
  | none => rw [e] at q; exact q.elim
  | some d =>
    rw [e] at q
    unfold binop at e
    split at e
    all_goals first
      | (cases e; done)
      | (rename_i hop; cases hop; done)
      | (cases e; exact False.elim q)
      | (split at e
         · rename_i hz
           cases e
           first
             | exact False.elim q
             | exact ⟨_, _, rfl, rfl, hz, q⟩
         · cases e)
theorem sf_add {a b : Ex} {x : Expr} (C : GC X ga G N T sc) (tk : Takes X W) (h : chk N T sc (.bin .add a b) x = true) : PE X x (tF X ga G W (.bin .add a b)) := by
  cases x with
  | BinOp p o r pos =>
    obtain ⟨h1, h2, h3⟩ := and3 (show (decide (o = opB .add) && chk N T sc a p && chk N T sc b r) = true from h)
    have e := of_decide_eq_true h1
    subst e
    refine (pe_op op_cat ((sound a).1 X sc p W C tk h2) ((sound b).1 X sc r W C tk h3)).mono fun σ H Q ⟨ms, Γ, μ, ρ, S, R, q⟩ => ?_
    refine stepP S R q fun d μ1 v H1 ms1 Γ1 A r R1 q1 => stepP A.si R1 q1 fun d2 μ2 v2 H2 ms2 Γ2 A2 r2 R2 q2 => ?_
    obtain ⟨xs, ys, rfl, rfl, hz, q3⟩ := add_lst q2
    have r := r.mono A2.le A2.pre
    unfold Rep at r r2
    obtain ⟨a1, vs, rfl, h1, h2, h3⟩ := r
    obtain ⟨b1, us, rfl, g1, g2, g3⟩ := r2
    rw [line_eq] at hz
    exact ⟨a1, b1, vs, us, rfl, rfl, A2.si.sub _ _ h1, A2.si.sub _ _ g1, by rw [← h3.length, ← g3.length]; exact hz, PF.new q3 A2.si (by rw [List.length_append]; exact hz) (h3.append g3)⟩
  | _ => exact absurd h (by simp [chk])
theorem sf_freshO {e : Ex} (hf : isFreshO e = true) {x : Expr} (C : GC X ga G N T sc) (tk : Takes X W) (h : chk N T sc e x = true) : PE X x (tF X ga G W e) := by
  cases e with
  | bin op a b =>
    cases op with
    | add => exact sf_add C tk h
    | _ => exact absurd hf Bool.false_ne_true
  | lst es => exact sf_fresh (e := .lst es) hf C tk h
  | blt f es => exact sf_fresh (e := .blt f es) hf C tk h
  | _ => exact absurd hf Bool.false_ne_true
/-! ### targets, with the frame -/
theorem names_useF {K : PySem.W.Frag} {B : Base} {ms : List Addr} {Γ H : Hp} {μ : Store} {ρ' : Env} : ∀ {is : List Nat} {ds : List D} {vs : List V} {ρ : Env} {σ : L2.St} {Q : L2.St → Hp → Prop}, FS K ga B ms Γ μ ρ σ H → Reps K ga ms Γ ds vs → putAll ρ is ds = some ρ' →
    (∀ σ', FS K ga B ms Γ μ ρ' σ' H → Q σ' H) → gNames is vs σ H Q
  | [], [], vs, ρ, σ, Q, R, r, e, q => by
    unfold putAll at e
    cases e
    exact ⟨r.nil_iff, q σ R⟩
  | [], _ :: _, _, _, _, _, _, _, e, _ => by unfold putAll at e; cases e
  | _ :: _, [], _, _, _, _, _, _, e, _ => by unfold putAll at e; cases e
  | i :: is, d :: ds, vs, ρ, σ, Q, R, r, e, q => by
    unfold putAll at e
    obtain ⟨v, s, rfl, h1, h2⟩ := r.cons_iff
    cases e1 : ρ.put i d with
    | none => rw [e1] at e; cases e
    | some ρ1 =>
      rw [e1] at e
      have e : putAll ρ1 is ds = some ρ' := e
      obtain ⟨_, rfl⟩ := put_some e1
      exact ⟨v, s, rfl, names_useF (R.put h1) h2 e q⟩
theorem putAll_len {ρ' : Env} : ∀ {is : List Nat} {ds : List D} {ρ : Env}, putAll ρ is ds = some ρ' → ds.length = is.length := by
  intro is
  induction is with
  | nil => intro ds ρ e; cases ds with
    | nil => rfl
    | cons d ds => unfold putAll at e; cases e
  | cons i is ih => intro ds ρ e; cases ds with
    | nil => unfold putAll at e; cases e
    | cons d ds =>
      unfold putAll at e
      cases e1 : ρ.put i d with
      | none => rw [e1] at e; cases e
      | some ρ1 =>
        rw [e1] at e
        rw [List.length_cons, List.length_cons, ih (show putAll ρ1 is ds = some ρ' from e)]
theorem tg_useF {K : PySem.W.Frag} {B : Base} {ms : List Addr} {Γ H : Hp} {μ : Store} {ρ ρ' : Env} {σ : L2.St} {t : Tg} {d : D} {v : V} {Q : L2.St → Hp → Prop} (R : FS K ga B ms Γ μ ρ σ H) (r : Rep K ga ms Γ d v) (e : bindT ρ t d = some ρ')
    (q : ∀ σ', FS K ga B ms Γ μ ρ' σ' H → Q σ' H) : gT K t v σ H Q := by
  cases t with
  | name i =>
    obtain ⟨_, rfl⟩ := put_some e
    exact q _ (R.put r)
  | tup is =>
    cases d with
    | tup ds =>
      unfold Rep at r
      obtain ⟨a, vs, rfl, h1, _, h3⟩ := r
      exact ⟨a, vs, rfl, (h1.mono R.si.sub).seq, by rw [← h3.length, putAll_len e], names_useF R h3 e q⟩
    | _ => cases e
theorem tg_useFI {K : PySem.W.Frag} {B : Base} {ms : List Addr} {Γ H : Hp} {μ : Store} {ρ ρ' : Env} {σ : L2.St} {k : IK} {t : Tg} {d : D} {v : V} {Q : L2.St → Hp → Prop} (hz : zipT k t = true) (R : FS K ga B ms Γ μ ρ σ H) (r : IRep K ga k ms Γ H d v) (e : bindT ρ t d = some ρ')
    (q : ∀ σ', FS K ga B ms Γ μ ρ' σ' H → Q σ' H) : gT K t v σ H Q := by
  rcases r with r | ⟨rfl, ds, a, vs, rfl, rfl, h1, h3⟩
  · exact tg_useF R r e q
  · cases t with
    | name i => exact absurd hz Bool.false_ne_true
    | tup is => exact ⟨a, vs, rfl, h1, by rw [← h3.length, putAll_len e], names_useF R h3 e q⟩
end
end LD

set_option Elab.async false
set_option linter.all false
set_option maxRecDepth 100000
set_option maxHeartbeats 2000000
/-! LD11: statements are sound. -/
namespace LD
open PySem PySem.Spec PyProof.Rows L2 HT
section
variable (ga : GA) (G : GT) (N : List Str) (T : Tb) (sc : Scope) (fuel : Nat)
structure SCx (X : Cx) (W : WX) : Prop where
  gc : GC X ga G N T sc
  hsc : X.env.scope = sc
  fn : ∀ x, X.fn x = true
  tk : Takes X W
  po : PassesOwn (model X.prog X.w) X.A X.env X.xe
  hs : X.stack = X.env :: X.outer
  hf : X.env.frame = some X.env.locals
def SS (s : Sm) : Prop := ∀ (X : Cx) (st : Stmt) (W : WX), SCx ga G N T sc X W → chkS N T sc s st = true → PS X st (tS X ga G fuel W s)
def SSs (s : Sms) : Prop := ∀ (X : Cx) (sts : List Stmt) (W : WX), SCx ga G N T sc X W → chkSs N T sc s sts = true → PSs X sts (tSs X ga G fuel W s)
end
section
variable {ga : GA} {G : GT} {N : List Str} {T : Tb} {sc : Scope} {fuel : Nat} {X : Cx} {W : WX}
theorem ss_expr (e : Ex) : SS ga G N T sc fuel (.expr e) := by
  intro X st W C h
  cases st with
  | Expr x pos =>
    have h := Bool.and_eq_true_iff.mp (show (chk N T sc e x && notComp x) = true from h)
    refine (ps_expr ((sound e).1 X sc x W C.gc C.tk h.1) (sw_plain h.2)).mono fun D σ H ⟨B, ms, Γ, μ, ρ, F, q⟩ => ?_
    exact stF F q fun d μ1 v H1 ms1 Γ1 F1 A r q1 => q1 _ _ _ _ F1
  | _ => exact absurd h (by simp [chkS])
theorem set_name (C : SCx ga G N T sc X W) {i : Nat} {y : Str} {py pos : Pos} {x : Expr} {te : TE} (h1 : N[i]? = some y) (h2 : locC sc y = true) (he : PE X x te) (hn : notComp x = true) : PS X (.Assign [.Name y py] x pos) (tAsg te (gName i)) :=
  ps_set (i := i) (by rw [C.gc.hN]; exact C.gc.nd) (by rw [C.gc.hN]; exact h1) (C.gc.loc y h2).1 he (sw_plain hn) (C.gc.loc y h2).2
theorem ss_asgN (i : Nat) (e : Ex) : SS ga G N T sc fuel (.asg (.name i) e) := by
  intro X st W C h
  cases st with
  | Assign ts x pos =>
    match ts, h with
    | [.Name y py], h =>
      have h : (decide (N[i]? = some y) && locC sc y && chk N T sc e x && (notComp x || (isComp e && swB sc x y py))) = true := h
      simp only [Bool.and_eq_true, Bool.or_eq_true] at h
      obtain ⟨⟨⟨h1, h2⟩, h3⟩, h4⟩ := h
      have h1 := of_decide_eq_true h1
      rcases h4 with h4 | ⟨h4, h5⟩
      · refine (set_name C h1 h2 ((sound e).1 X sc x W C.gc C.tk h3) h4).mono fun D σ H ⟨B, ms, Γ, μ, ρ, F, q⟩ => ?_
        refine stF F q fun d μ1 v H1 ms1 Γ1 F1 A r q1 => ?_
        obtain ⟨ρ', e1, q1⟩ := q1.opt
        obtain ⟨_, rfl⟩ := put_some e1
        exact q1 _ _ _ _ (F1.put r)
      · obtain ⟨hf, hl⟩ := sfl_comp (ga := ga) (G := G) (N := N) (T := T) h4
        obtain ⟨s1, s2⟩ := sw_comp (X := X) (line := pos.line) C.gc.kind (by rw [C.hsc]; exact h5)
        refine ((hf X sc x W C.gc C.tk h3).2 i y py pos h1 s2 s1).mono fun D σ H ⟨B, ms, Γ, μ, ρ, F, q⟩ => ?_
        refine tF_of hl (stF F q fun d μ1 v H1 ms1 Γ1 F1 A r q1 => ?_)
        obtain ⟨ρ', e1, q1⟩ := q1.opt
        obtain ⟨_, rfl⟩ := put_some e1
        exact q1 _ _ _ _ (F1.put r)
    | [], h => simp [chkS] at h
    | e1 :: e2 :: es, h => cases e1 <;> simp [chkS] at h
    | [.Tuple _ _ _], h => simp [chkS] at h
    | [.List _ _], h => simp [chkS] at h
    | [.Subscript _ _ _], h => simp [chkS] at h
    | [.Attribute _ _ _], h => simp [chkS] at h
    | [.Starred _ _], h => simp [chkS] at h
  | _ => exact absurd h (by simp [chkS])

theorem swS_tup {ts xs : List Expr} {k k2 : Nat} {p p2 : Pos} (h : 3 < ts.length) : swappedStores [.Tuple ts k p] (.Tuple xs k2 p2) X.env = pure none := by
  unfold swappedStores
  have e : (!(ts.length == 2 || ts.length == 3) || xs.length != ts.length || X.env.blockKind != .function) = true := by
    have h2 : (ts.length == 2) = false := by simp; omega
    have h3 : (ts.length == 3) = false := by simp; omega
    rw [h2, h3]
    rfl
  simp only [e]
  rfl
theorem swS_plain {ts : List Expr} {x : Expr} {k : Nat} {p : Pos} (h : notTup x = true) : swappedStores [.Tuple ts k p] x X.env = pure none := by
  cases x <;> first | rfl | exact absurd h Bool.false_ne_true
theorem swS_const {ts xs : List Expr} {k k2 : Nat} {p p2 : Pos} (h : allConst xs = true) : swappedStores [.Tuple ts k p] (.Tuple xs k2 p2) X.env = pure none := by
  unfold swappedStores
  have h : xs.all (foldedForSure 8) = true := h
  dsimp only
  split
  · rfl
  · split
    · rfl
    · split
      · rfl
      · first | rfl | (split; (· rfl); (· rename_i hn; exact absurd h hn))
theorem any_star : ∀ {xs : List Expr}, xs.all notStar = true → (xs.any fun | .Starred .. => true | _ => false) = false
  | [], _ => rfl
  | x :: xs, h => by
    have h := Bool.and_eq_true_iff.mp (show (notStar x && xs.all notStar) = true from h)
    rw [List.any_cons, any_star h.2, Bool.or_false]
    cases x <;> first | rfl | exact absurd h.1 Bool.false_ne_true
theorem swS_two {x y : Str} {px py p p2 : Pos} {a b : Expr} {k k2 : Nat} (hk : X.env.scope.kind = .function) (hx : X.env.scope.names.lookup x = some .local) (hy : X.env.scope.names.lookup y = some .local) (ne : x ≠ y) (hl : px.line = py.line)
    (hs : [a, b].all notStar = true) (h1 : allConst [a, b] = false) (h2 : allAlone [a, b] = false) : swappedStores [.Tuple [.Name x px, .Name y py] k p] (.Tuple [a, b] k2 p2) X.env = pure (some [x, y]) := by
  have h1 : ([a, b].all (foldedForSure 8)) = false := h1
  have h2 : ([a, b].all (constantsAlone 8)) = false := h2
  have hkx : X.env.kindOf x = some .local := hx
  have hky : X.env.kindOf y = some .local := hy
  have eb : (y == x) = false := by simpa using fun e => ne e.symm
  unfold swappedStores
  dsimp only
  rw [blockKind_fn hk]
  rw [if_neg (by show ¬ (false = true); decide)]
  simp only [List.head?_cons, Option.map_some, Option.getD_some, Expr.pos, List.filterMap_cons, List.filterMap_nil, hkx, hky, hl, beq_self_eq_true, Bool.and_true, if_true]
  refine (if_neg (fun h => Bool.false_ne_true ((any_star hs).symm.trans h))).trans ?_
  rw [if_neg (by simp [List.eraseDups_cons, List.filter, eb])]
  rw [if_neg (by rw [h1]; exact Bool.false_ne_true), if_neg (by rw [h2]; exact Bool.false_ne_true)]
theorem swS_three {x y z : Str} {px py pz p p2 : Pos} {a b c : Expr} {k k2 : Nat} (hk : X.env.scope.kind = .function) (hx : X.env.scope.names.lookup x = some .local) (hy : X.env.scope.names.lookup y = some .local) (hz : X.env.scope.names.lookup z = some .local) (ne : x ≠ y) (ne2 : x ≠ z) (ne3 : y ≠ z) (hl : px.line = py.line) (hl2 : px.line = pz.line)
    (hs : [a, b, c].all notStar = true) (h1 : allConst [a, b, c] = false) (h2 : allAlone [a, b, c] = false) : swappedStores [.Tuple [.Name x px, .Name y py, .Name z pz] k p] (.Tuple [a, b, c] k2 p2) X.env = pure (some [x, y, z]) := by
  have h1 : ([a, b, c].all (foldedForSure 8)) = false := h1
  have h2 : ([a, b, c].all (constantsAlone 8)) = false := h2
  have hkx : X.env.kindOf x = some .local := hx
  have hky : X.env.kindOf y = some .local := hy
  have hkz : X.env.kindOf z = some .local := hz
  have eb : (y == x) = false := by simpa using fun e => ne e.symm
  have eb2 : (z == x) = false := by simpa using fun e => ne2 e.symm
  have eb3 : (z == y) = false := by simpa using fun e => ne3 e.symm
  unfold swappedStores
  dsimp only
  rw [blockKind_fn hk]
  rw [if_neg (by show ¬ (false = true); decide)]
  simp only [List.head?_cons, Option.map_some, Option.getD_some, Expr.pos, List.filterMap_cons, List.filterMap_nil, hkx, hky, hkz, ← hl, ← hl2, beq_self_eq_true, Bool.and_true, if_true]
  refine (if_neg (fun h => Bool.false_ne_true ((any_star hs).symm.trans h))).trans ?_
  rw [if_neg (by simp [List.eraseDups_cons, List.filter, eb, eb2, eb3])]
  rw [if_neg (by rw [h1]; exact Bool.false_ne_true), if_neg (by rw [h2]; exact Bool.false_ne_true)]
theorem fm_lt {α β : Type} {f : α → Option β} : ∀ {l : List α}, (∃ x ∈ l, f x = none) → (l.filterMap f).length < l.length
  | [], h => by obtain ⟨x, hx, _⟩ := h; cases hx
  | y :: l, h => by
    rw [List.filterMap_cons]
    cases e : f y with
    | none => exact Nat.lt_of_le_of_lt (List.length_filterMap_le f l) (by simp)
    | some z =>
      obtain ⟨x, hx, e2⟩ := h
      rcases List.mem_cons.mp hx with rfl | hx
      · rw [e] at e2; cases e2
      · have := fm_lt (f := f) (l := l) ⟨x, hx, e2⟩
        simp only [List.length_cons]
        omega
theorem swS_cell {ts : List Expr} {x : Expr} {k : Nat} {p : Pos} (h : cellIn X.env.scope ts = true) : swappedStores [.Tuple ts k p] x X.env = pure none := by
  cases x with
  | Tuple xs k2 p2 =>
    unfold swappedStores
    dsimp only
    split
    · rfl
    · split
      · rfl
      · refine if_pos ?_
        rw [Bool.or_eq_true]
        refine .inl ?_
        rw [bne_iff_ne]
        refine Nat.ne_of_lt (fm_lt ?_)
        obtain ⟨t, ht, h2⟩ := List.any_eq_true.mp h
        refine ⟨t, ht, ?_⟩
        cases t with
        | Name y py =>
          have h2 := of_decide_eq_true h2
          have hk : X.env.kindOf y = some .cell := h2
          show (if X.env.kindOf y == some .local && _ then some y else none) = none
          rw [hk]
          rfl
        | _ => exact absurd h2 Bool.false_ne_true
  | _ => rfl
theorem ss_asgT (is : List Nat) (e : Ex) : SS ga G N T sc fuel (.asg (.tup is) e) := by
  intro X st W C h
  cases st with
  | Assign ts x pos =>
    match ts, h with
    | [.Tuple ts k p], h =>
      have h : (tgC N sc (.tup is) (.Tuple ts k p) && chk N T sc e x && notComp x && (notTup x || decide (3 < ts.length) || tupConst x || cellIn sc ts)) = true := h
      simp only [Bool.and_eq_true, Bool.or_eq_true] at h
      obtain ⟨⟨⟨h1, h2⟩, h3⟩, h4⟩ := h
      have hw : swappedStores [.Tuple ts k p] x X.env = pure none := by
        rcases h4 with ((h4 | h4) | h4) | h4
        · exact swS_plain h4
        · cases x with
          | Tuple xs k2 p2 => exact swS_tup (of_decide_eq_true h4)
          | _ => rfl
        · cases x with
          | Tuple xs k2 p2 => exact swS_const h4
          | _ => rfl
        · exact swS_cell (by rw [C.hsc]; exact h4)
      refine (ps_asg ((sound e).1 X sc x W C.gc C.tk h2) (pg_ok C.gc h1) (sw_sole h3) hw).mono fun D σ H ⟨B, ms, Γ, μ, ρ, F, q⟩ => ?_
      refine stF F q fun d μ1 v H1 ms1 Γ1 F1 A r q1 => ?_
      obtain ⟨ρ', e1, q1⟩ := q1.opt
      exact tg_useF F1 r e1 fun σ' F2 => q1 _ _ _ _ F2
    | [], h => simp [chkS] at h
    | e1 :: e2 :: es, h => cases e1 <;> simp [chkS] at h
  | _ => exact absurd h (by simp [chkS])
theorem ss_own (i : Nat) (e : Ex) : SS ga G N T sc fuel (.own i e) := by
  intro X st W C h
  cases st with
  | Assign ts x pos =>
    match ts, h with
    | [.Name y py], h =>
      have h : (decide (N[i]? = some y) && locC sc y && chk N T sc e x && ((notComp x && isFreshO e) || (isComp e && swB sc x y py))) = true := h
      simp only [Bool.and_eq_true, Bool.or_eq_true] at h
      obtain ⟨⟨⟨h1, h2⟩, h3⟩, h4⟩ := h
      have h1 := of_decide_eq_true h1
      have key : ∀ D σ H, tS X ga G fuel W (.own i e) D σ H → tAsg (tF X ga G W e) (gName i) D σ H := fun D σ H ⟨B, ms, Γ, μ, ρ, F, q⟩ => by
        refine stFF F q (fun d μ1 q1 => ?_) fun xs μ1 p vs H1 ms1 Γ1 A g1 g2 g3 g4 g5 g6 q1 => ?_
        · cases d with
          | lst xs => exact ⟨xs, rfl⟩
          | _ => exact False.elim q1
        · have q1 : FP X ga B (if i < ρ.length then .nx (ρ.set i (.own xs)) μ1 else .bad) W D := q1
          split at q1
          · exact q1 _ _ _ _ (F.newOwn A g1 g2 g3 g4 g5 g6)
          · exact False.elim q1
      rcases h4 with ⟨h4, h5⟩ | ⟨h4, h5⟩
      · exact (set_name C h1 h2 (sf_freshO h5 C.gc C.tk h3) h4).mono key
      · obtain ⟨hf, hl⟩ := sfl_comp (ga := ga) (G := G) (N := N) (T := T) h4
        obtain ⟨s1, s2⟩ := sw_comp (X := X) (line := pos.line) C.gc.kind (by rw [C.hsc]; exact h5)
        exact ((hf X sc x W C.gc C.tk h3).2 i y py pos h1 s2 s1).mono key
    | [], h => simp [chkS] at h
    | e1 :: e2 :: es, h => cases e1 <;> simp [chkS] at h
  | _ => exact absurd h (by simp [chkS])
/-- one argument -/
theorem stF1 {B : Base} {ms : List Addr} {Γ : Hp} {μ : Store} {H : Hp} {σ : L2.St} {ρ : Env} {D : Ends} {e : Ex} {f : LD.D → Store → Fl} {T : List V → Hp → Prop} (F : FS X.K ga B ms Γ μ ρ σ H) (h : FP X ga B (Fl.of ρ (ev G e ρ μ) f) W D)
    (k : ∀ d μ1 v H1 ms1 Γ1, FS X.K ga B ms1 Γ1 μ1 ρ σ H1 → After X.K ga ms Γ H ms1 Γ1 μ1 H1 → Rep X.K ga ms1 Γ1 d v → FP X ga B (f d μ1) W D → T [v] H1) : tA X ga G W (.cons e .nil) σ H T := by
  refine ⟨ms, Γ, μ, ρ, F.si, F.er, ?_⟩
  show POs X ga ms Γ H ((ev G e ρ μ).bind fun d μ => (Out.ok [] μ : Out (List LD.D)).bind fun ds μ => .ok (d :: ds) μ) σ W T
  cases e1 : ev G e ρ μ with
  | ok d μ1 =>
    rw [e1] at h
    intro vs H1 ms1 Γ1 A r
    obtain ⟨v, rr, rfl, r1, r2⟩ := r.cons_iff
    rw [r2.nil_iff]
    exact k d μ1 v H1 ms1 Γ1 (F.step A) A r1 h
  | exc c fs μ1 =>
    rw [e1] at h
    exact fun cls dd H' ms' Γ' A r => h ms' Γ' σ H' cls dd (F.step A) r
  | bad => rw [e1] at h; exact h.elim
theorem ss_app (i : Nat) (e : Ex) : SS ga G N T sc fuel (.app i e) := by
  intro X st W C h
  cases st with
  | Expr z pos =>
    cases z with
    | Call g xs kws cp =>
      cases g with
      | Attribute o n ap =>
        cases o with
        | Name y py =>
          match xs, kws, h with
          | [x], [], h =>
            have h : (nIs N sc i y && decide (n = ("append" : Str)) && chk N T sc e x && notStar x && decide (ap.endLine = cp.line)) = true := h
            simp only [Bool.and_eq_true] at h
            obtain ⟨⟨⟨⟨h1, h2⟩, h3⟩, h4⟩, h5⟩ := h
            have e2 := of_decide_eq_true h2
            subst e2
            obtain ⟨g1, g2, g3, g4⟩ := nIs_ok h1
            have st1 : starEach [x] X.env = (false, eval x X.env) :: starEach [] X.env := star_cons x [] X.env h4
            have hs : SA ga G N T (.cons e .nil) := sa_cons (sound e).1 sa_nil
            have hc : chks N T sc (.cons e .nil) [x] = true := by
              show (chk N T sc e x && notStar x && true) = true
              rw [h3, h4]; rfl
            refine (ps_expr (pe_bm PySem.F.plainAttrs_list PySem.F.slot_list_append PySem.F.type_list_append mt_append (pe_var (i := i) (by rw [C.gc.hN]; exact g1) (C.gc.vis _ g2) g3 g4) (hs X sc [x] W C.gc C.tk hc) rfl (by rw [st1]; rfl) (by simpa using of_decide_eq_true h5) st1 (plain_any rfl)) rfl).mono fun D σ H ⟨B, ms, Γ, μ, ρ, F, q⟩ => ?_
            have q : FP X ga B (match ρ[i]? with
              | some (.own xs) => Fl.of ρ (ev G e ρ μ) fun d μ => if xs.length < LINE then .nx (ρ.set i (.own (xs ++ [d]))) μ else .bad
              | _ => .bad) W D := q
            split at q
            · rename_i xs eo
              obtain ⟨p, vs, e2, _⟩ := F.er.own eo
              refine ⟨.ref p, e2, ?_⟩
              refine ⟨?_, ?_⟩
              · obtain ⟨p', vs', f1, f2, _⟩ := F.er.own eo
                rw [e2] at f1
                cases f1
                exact .inl ⟨rfl, vs', SqL.of f2⟩
              · refine stF1 F q fun d μ1 v H1 ms1 Γ1 F1 A r q1 => ?_
                obtain ⟨p', vs', f1, f2, f3, f4, f5, f6⟩ := F1.er.own eo
                rw [e2] at f1
                cases f1
                split at q1
                · rename_i hz
                  rw [line_eq] at hz
                  refine ⟨p, vs', v, rfl, rfl, f2, by rw [← f6.length]; exact hz, ?_⟩
                  exact q1 _ _ _ _ (F1.chOwn eo e2 (by rw [List.length_append]; exact hz) (f6.append (Reps.cons r Reps.nil)))
                · exact False.elim q1
            · exact False.elim q
          | [], _, h => simp [chkS] at h
          | [_], _ :: _, h => simp [chkS] at h
          | _ :: _ :: _, _, h => simp [chkS] at h
        | _ => exact absurd h (by simp [chkS])
      | _ => exact absurd h (by simp [chkS])
    | _ => exact absurd h (by simp [chkS])
  | _ => exact absurd h (by simp [chkS])

theorem sub_assign {o ix : Expr} {pos : Pos} {env : PySem.Env} (h : plainIx ix = true) : ∀ v, assign (.Subscript o ix pos) env v = (do
      let ov ← holding [v] (eval o env)
      let iv ← holding [v, ov] (eval ix env)
      standAt pos
      holding [v, ov, iv] (setItem ov iv v)
      release [v, ov, iv] []) := by
  intro v
  cases ix <;> first | rfl | exact absurd h Bool.false_ne_true
theorem ss_seti (i : Nat) (k e : Ex) : SS ga G N T sc fuel (.seti i k e) := by
  intro X st W C h
  cases st with
  | Assign ts x pos =>
    match ts, h with
    | [.Subscript (.Name y py) ix p], h =>
      have h : (nIs N sc i y && chk N T sc k ix && plainIx ix && chk N T sc e x && notComp x) = true := h
      simp only [Bool.and_eq_true] at h
      obtain ⟨⟨⟨⟨h1, h2⟩, h3⟩, h4⟩, h5⟩ := h
      obtain ⟨g1, g2, g3, g4⟩ := nIs_ok h1
      refine (ps_asg ((sound e).1 X sc x W C.gc C.tk h4) (pg_sub (pe_var (i := i) (by rw [C.gc.hN]; exact g1) (C.gc.vis _ g2) g3 g4) ((sound k).1 X sc ix W C.gc C.tk h2) set_list (sub_assign h3)) (sw_sole h5) (by cases x <;> rfl)).mono fun D σ H ⟨B, ms, Γ, μ, ρ, F, q⟩ => ?_
      have q : FP X ga B (match ρ[i]? with
        | some (.own xs) => Fl.of ρ (ev G e ρ μ) fun d μ => Fl.of ρ (ev G k ρ μ) fun y μ => match y with
          | .int j => match L2.ixN xs.length j with
            | some n => .nx (ρ.set i (.own (xs.set n d))) μ
            | none => .bad
          | _ => .bad
        | _ => .bad) W D := q
      split at q
      · rename_i xs eo
        obtain ⟨p, vs, e2, _⟩ := F.er.own eo
        refine stF F q fun d μ1 v H1 ms1 Γ1 F1 A r q1 => ⟨.ref p, e2, stF F1 q1 fun d2 μ2 v2 H2 ms2 Γ2 F2 A2 r2 q2 => ?_⟩
        cases d2 with
        | int j =>
          have q2 : FP X ga B (match L2.ixN xs.length j with
            | some n => .nx (ρ.set i (.own (xs.set n d))) μ2
            | none => .bad) W D := q2
          split at q2
          · rename_i n en
            unfold Rep at r2
            obtain ⟨p', vs', f1, f2, f3, f4, f5, f6⟩ := F2.er.own eo
            rw [e2] at f1
            cases f1
            refine ⟨p, vs', j, n, rfl, r2, f2, by rw [← f6.length]; exact en, ?_⟩
            exact q2 _ _ _ _ (F2.chOwn eo e2 (by rw [List.length_set]; exact f5) (Reps.set (r.mono A2.le A2.pre) n f6))
          · exact False.elim q2
        | _ => exact False.elim q2
      · exact False.elim q
    | [], h => simp [chkS] at h
    | e1 :: e2 :: es, h =>
      cases e1 with
      | Subscript v _ _ => cases v <;> exact absurd h Bool.false_ne_true
      | _ => exact absurd h Bool.false_ne_true
  | _ => exact absurd h (by simp [chkS])
theorem FS.put_st {K : PySem.W.Frag} {B : Base} {ms : List Addr} {Γ H : Hp} {μ : Store} {ρ : Env} {σ : L2.St} (F : FS K ga B ms Γ μ ρ σ H) {l : Nat} {p : Addr} {vs : List V} {xs : List LD.D} {so : SO} (hl : μ[l]? = some so) (hp : ms[l]? = some p) (hn : xs.length ≤ sizeLine) (r : Reps K ga ms Γ xs vs) :
    FS K ga B ms Γ (μ.set l (.lst xs)) ρ σ (upd H p (.lst vs)) := F.step (After.put F.si hl hp hn r)
theorem ss_setl (o k e : Ex) : SS ga G N T sc fuel (.setl o k e) := by
  intro X st W C h
  cases st with
  | Assign ts x pos =>
    match ts, h with
    | [.Subscript ox ix p], h =>
      have h : (chk N T sc o ox && chk N T sc k ix && plainIx ix && chk N T sc e x && notComp x) = true := h
      simp only [Bool.and_eq_true] at h
      obtain ⟨⟨⟨⟨h1, h2⟩, h3⟩, h4⟩, h5⟩ := h
      refine (ps_asg ((sound e).1 X sc x W C.gc C.tk h4) (pg_sub ((sound o).1 X sc ox W C.gc C.tk h1) ((sound k).1 X sc ix W C.gc C.tk h2) set_list (sub_assign h3)) (sw_sole h5) (by cases x <;> rfl)).mono fun D σ H ⟨B, ms, Γ, μ, ρ, F, q⟩ => ?_
      refine stF F q fun d μ1 v H1 ms1 Γ1 F1 A1 r1 q1 => stF F1 q1 fun d2 μ2 v2 H2 ms2 Γ2 F2 A2 r2 q2 => stF F2 q2 fun d3 μ3 v3 H3 ms3 Γ3 F3 A3 r3 q3 => ?_
      cases d2 with
      | loc l =>
        cases d3 with
        | int j =>
          have q3 : FP X ga B (match μ3[l]? with
            | some (.lst xs) => match L2.ixN xs.length j with
              | some n => .nx ρ (μ3.set l (.lst (xs.set n d)))
              | none => .bad
            | _ => .bad) W D := q3
          split at q3
          · rename_i xs el
            split at q3
            · rename_i n en
              unfold Rep at r2 r3
              obtain ⟨p', rfl, hp⟩ := r2
              have hp := pre_get A3.pre hp
              obtain ⟨vs, f2, f5, f6⟩ := F3.si.st l _ p' el hp
              refine ⟨p', vs, j, n, rfl, r3, f2, by rw [← f6.length]; exact en, ?_⟩
              exact q3 _ _ _ _ (F3.put_st el hp (by rw [List.length_set]; exact f5) (Reps.set ((r1.mono A2.le A2.pre).mono A3.le A3.pre) n f6))
            · exact False.elim q3
          · exact False.elim q3
        | _ => exact False.elim q3
      | _ => cases d3 <;> exact False.elim q3
    | [], h => simp [chkS] at h
    | e1 :: e2 :: es, h => cases e1 <;> simp [chkS] at h
  | _ => exact absurd h (by simp [chkS])
theorem ss_appl (o e : Ex) : SS ga G N T sc fuel (.appl o e) := by
  intro X st W C h
  cases st with
  | Expr z pos =>
    cases z with
    | Call g xs kws cp =>
      cases g with
      | Attribute y n ap =>
          match xs, kws, h with
          | [x], [], h =>
            have h : (decide (n = ("append" : Str)) && chk N T sc o y && notSuper y && chk N T sc e x && notStar x && decide (ap.endLine = cp.line)) = true := h
            simp only [Bool.and_eq_true] at h
            obtain ⟨⟨⟨⟨⟨h1, h2⟩, h2'⟩, h3⟩, h4⟩, h5⟩ := h
            have e2 := of_decide_eq_true h1
            subst e2
            have st1 : starEach [x] X.env = (false, eval x X.env) :: starEach [] X.env := star_cons x [] X.env h4
            refine (ps_expr (pe_bm PySem.F.plainAttrs_list PySem.F.slot_list_append PySem.F.type_list_append mt_append ((sound o).1 X sc y W C.gc C.tk h2) (pa_cons ((sound e).1 X sc x W C.gc C.tk h3) pa_nil st1) (base_ok h2') (by rw [st1]; rfl) (by simpa using of_decide_eq_true h5) st1 (plain_any rfl)) rfl).mono fun D σ H ⟨B, ms, Γ, μ, ρ, F, q⟩ => ?_
            refine stF F q fun d μ1 v H1 ms1 Γ1 F1 A r q1 => ?_
            cases d with
            | loc l =>
              have q1 : FP X ga B (match μ1[l]? with
                | some (.lst _) => Fl.of ρ (ev G e ρ μ1) fun d μ => (match μ[l]? with
                  | some (.lst xs) => if xs.length < LINE then .nx ρ (μ.set l (.lst (xs ++ [d]))) else .bad
                  | _ => .bad)
                | _ => .bad) W D := q1
              split at q1
              · rename_i xs el
                unfold Rep at r
                obtain ⟨p', rfl, hp⟩ := r
                obtain ⟨vs, f2, f5, f6⟩ := F1.si.st l _ p' el hp
                refine ⟨.inl ⟨rfl, vs, SqL.of f2⟩, stF F1 q1 fun d2 μ2 v2 H2 ms2 Γ2 F2 A2 r2 q2 => ?_⟩
                split at q2
                · rename_i ys el2
                  split at q2
                  · rename_i hz
                    rw [line_eq] at hz
                    have hp2 := pre_get A2.pre hp
                    obtain ⟨us, g2, g5, g6⟩ := F2.si.st l _ p' el2 hp2
                    refine ⟨p', us, v2, rfl, rfl, g2, by rw [← g6.length]; exact hz, ?_⟩
                    exact q2 _ _ _ _ (F2.put_st el2 hp2 (by rw [List.length_append]; exact hz) (g6.append (Reps.cons r2 Reps.nil)))
                  · exact False.elim q2
                · exact False.elim q2
              · exact False.elim q1
            | _ => exact False.elim q1
          | [], _, h => simp [chkS] at h
          | [_], _ :: _, h => simp [chkS] at h
          | _ :: _ :: _, _, h => simp [chkS] at h
      | _ => exact absurd h (by simp [chkS])
    | _ => exact absurd h (by simp [chkS])
  | _ => exact absurd h (by simp [chkS])
theorem atKey_tail {q q' : NestedKey} {b : Addr} {u : Value} {r : List (NestedKey × Addr × Value)} : atKey ((q', b, u) :: r) q = if q' = q then some (b, u) else atKey r q := by
  by_cases e : q' = q
  · rw [if_pos e]; simp [atKey, e]
  · rw [if_neg e]; simp [atKey, e]
theorem mapN_rep {K : PySem.W.Frag} {ms : List Addr} {Γ : Hp} {q : NestedKey} {d : LD.D} {v : V} {u : Value} (ru : L2.RelV v u) (rv : Rep K ga ms Γ d v) : ∀ {kvs : List (LD.D × LD.D)} {xs : List (NestedKey × Addr × Value)}, RepN K ga ms Γ kvs xs → RepN K ga ms Γ (kvs.map fun p => if nkT p.1 = some q then (p.1, d) else p) (xs.map (putAt q u))
  | [], xs, r => by rw [show xs = [] from r]; exact rfl
  | (k, x) :: kvs, xs, r => by
    obtain ⟨q', b, u', v', r', rfl, h1, h2, h3, h4, h5⟩ := r
    have ih := mapN_rep (q := q) ru rv h5
    by_cases e : q' = q
    · subst e
      rw [List.map_cons, List.map_cons, if_pos h1]
      exact ⟨q', b, u, v, _, by simp [putAt], h1, h2, ru, rv, ih⟩
    · rw [List.map_cons, List.map_cons, if_neg (by rw [h1]; simpa using e)]
      exact ⟨q', b, u', v', _, by simp [putAt, e], h1, h2, h3, h4, ih⟩
theorem snocN_rep {K : PySem.W.Frag} {ms : List Addr} {Γ : Hp} {y d : LD.D} {q : NestedKey} {b : Addr} {v : V} {u : Value} (hy : nkT y = some q) (ry : Rep K ga ms Γ y (.ref b)) (ru : L2.RelV v u) (rv : Rep K ga ms Γ d v) : ∀ {kvs : List (LD.D × LD.D)} {xs : List (NestedKey × Addr × Value)}, RepN K ga ms Γ kvs xs → RepN K ga ms Γ (kvs ++ [(y, d)]) (xs ++ [(q, b, u)])
  | [], xs, r => by rw [show xs = [] from r]; exact ⟨q, b, u, v, [], rfl, hy, ry, ru, rv, rfl⟩
  | (k, x) :: kvs, xs, r => by
    obtain ⟨q', b', u', v', r', rfl, h1, h2, h3, h4, h5⟩ := r
    exact ⟨q', b', u', v', _, rfl, h1, h2, h3, h4, snocN_rep hy ry ru rv h5⟩
theorem putN_rep {K : PySem.W.Frag} {ms : List Addr} {Γ : Hp} {y d : LD.D} {q : NestedKey} {b : Addr} {v : V} {u : Value} {kvs kvs' : List (LD.D × LD.D)} {xs : List (NestedKey × Addr × Value)} (r : RepN K ga ms Γ kvs xs) (ry : Rep K ga ms Γ y (.ref b)) (ru : L2.RelV v u) (rv : Rep K ga ms Γ d v) (hy : nkT y = some q) (e : putN kvs y d = some kvs') :
    RepN K ga ms Γ kvs' (storedH xs q b u) ∧ kvs.length < sizeLine := by
  unfold putN at e
  rw [hy] at e
  dsimp only at e
  split at e
  · rename_i hl
    refine ⟨?_, by rw [← line_eq]; exact hl⟩
    unfold storedH
    rw [← hasN_rep (q := q) r]
    split at e
    · rename_i hh
      cases e
      rw [if_pos hh]
      exact mapN_rep ru rv r
    · rename_i hh
      cases e
      rw [if_neg hh]
      exact snocN_rep hy ry ru rv r
  · cases e
theorem stored_nodup {q : NestedKey} {b : Addr} {u : Value} {xs : List (NestedKey × Addr × Value)} (h : (xs.map (·.1)).Nodup) : ((storedH xs q b u).map (·.1)).Nodup := by
  unfold storedH
  split
  · have e : (xs.map (putAt q u)).map (·.1) = xs.map (·.1) := by
      rw [List.map_map]
      apply List.map_congr_left
      intro x _
      show (putAt q u x).1 = x.1
      unfold putAt
      split <;> rfl
    rw [e]
    exact h
  · rename_i hn
    rw [List.map_append, List.nodup_append]
    refine ⟨h, by simp, fun a ha b' hb e => ?_⟩
    have e2 : b' = q := by simpa using hb
    subst e2
    subst e
    obtain ⟨x, hx, ex⟩ := List.mem_map.mp ha
    apply hn
    unfold atKey
    rw [Option.isSome_map, List.find?_isSome]
    exact ⟨x, hx, by simp [ex]⟩
/-- a store into a dict of the store -/
theorem put_use2 {B : Base} {ms : List Addr} {Γ H : Hp} {μ : Store} {ρ : Env} {σ : L2.St} {x y d : LD.D} {vx vy v : V} {D : Ends} {Q : Hp → Prop} (hw : ga.w = X.w) (F : FS X.K ga B ms Γ μ ρ σ H) (rx : Rep X.K ga ms Γ x vx) (ry : Rep X.K ga ms Γ y vy) (rv : Rep X.K ga ms Γ d v)
    (q : ∃ fl, fl = putSt x y d ρ μ ∧ fl ≠ .bad) (k : ∀ μ' H', putSt x y d ρ μ = .nx ρ μ' → FS X.K ga B ms Γ μ' ρ σ H' → After X.K ga ms Γ H ms Γ μ' H' → Q H') : rSetD X vx vy v H Q := by
  obtain ⟨fl, rfl, q⟩ := q
  cases x with
  | loc l =>
    have e0 : putSt (.loc l) y d ρ μ = (match μ[l]? with
      | some (.dct kvs) => (match putD kvs y d with
        | some kvs' => .nx ρ (μ.set l (.dct kvs'))
        | none => .bad)
      | some (.dcn kvs) => (match putN kvs y d with
        | some kvs' => .nx ρ (μ.set l (.dcn kvs'))
        | none => .bad)
      | _ => .bad) := rfl
    cases el : μ[l]? with
    | none => rw [e0, el] at q; exact (q rfl).elim
    | some so =>
      rw [el] at e0
      unfold Rep at rx
      obtain ⟨p', rfl, hp⟩ := rx
      cases so with
      | dct kvs =>
        have e0 : putSt (.loc l) y d ρ μ = (match putD kvs y d with
          | some kvs' => .nx ρ (μ.set l (.dct kvs'))
          | none => .bad) := e0
        cases ep : putD kvs y d with
        | none => rw [e0, ep] at q; exact (q rfl).elim
        | some kvs' =>
          rw [ep] at e0
          obtain ⟨ks, f2, f6⟩ := F.si.st l _ p' el hp
          cases hq : keyD y with
          | none => unfold putD at ep; rw [hq] at ep; cases ep
          | some qq =>
            have ek := keyD_rep ry hq
            subst ek
            obtain ⟨g1, g2⟩ := put_rep f6 rv hq ep
            exact ⟨p', rfl, .inl ⟨_, DPut.k f2 g2, k _ _ e0 (F.step (After.putD F.si el hp g1)) (After.putD F.si el hp g1)⟩⟩
      | dcn kvs =>
        have e0 : putSt (.loc l) y d ρ μ = (match putN kvs y d with
          | some kvs' => .nx ρ (μ.set l (.dcn kvs'))
          | none => .bad) := e0
        cases ep : putN kvs y d with
        | none => rw [e0, ep] at q; exact (q rfl).elim
        | some kvs' =>
          rw [ep] at e0
          obtain ⟨xs, f1, f2⟩ := nok_of hw F.si el hp
          cases hq : nkT y with
          | none => unfold putN at ep; rw [hq] at ep; cases ep
          | some qq =>
            obtain ⟨b, rfl⟩ := nkT_ref hq ry
            have hz : kvs.length < sizeLine := by
              unfold putN at ep
              rw [hq] at ep
              dsimp only at ep
              split at ep
              · rename_i hl; rw [← line_eq]; exact hl
              · cases ep
            refine ⟨p', rfl, .inr ⟨b, xs, qq, rfl, f1, nis_of F.si.sub ry hq, by rw [← repN_len f2]; exact hz, fun u ep' ru => ?_⟩⟩
            obtain ⟨g1, g2⟩ := putN_rep f2 ry ru rv hq ep
            have SR : SRep X.K ga ms Γ (upd H p' (.ext (DN X.w p' (storedH xs qq b u) ep'))) p' (.dcn kvs') := by
              refine ⟨_, ep', by rw [upd_same, hw], ?_, f1.2.2.1, g1, stored_nodup f1.2.2.2.1⟩
              rw [repN_len g1]
              have := storedH_len (xs := xs) (q := qq) (b := b) (u := u)
              rw [← repN_len f2] at this
              omega
            exact k _ _ e0 (F.step (After.putS F.si el hp SR)) (After.putS F.si el hp SR)
      | _ => rw [e0] at q; exact (q rfl).elim
  | _ => exact (q rfl).elim
theorem put_use {B : Base} {ms : List Addr} {Γ H : Hp} {μ : Store} {ρ : Env} {σ : L2.St} {x y d : LD.D} {vx vy v : V} {D : Ends} {Q : Hp → Prop} (hw : ga.w = X.w) (F : FS X.K ga B ms Γ μ ρ σ H) (rx : Rep X.K ga ms Γ x vx) (ry : Rep X.K ga ms Γ y vy) (rv : Rep X.K ga ms Γ d v)
    (q : ∃ fl, fl = putSt x y d ρ μ ∧ fl ≠ .bad) (k : ∀ μ' H', putSt x y d ρ μ = .nx ρ μ' → FS X.K ga B ms Γ μ' ρ σ H' → Q H') : rSetD X vx vy v H Q := put_use2 (D := D) hw F rx ry rv q fun μ' H' e F' _ => k μ' H' e F'
theorem putSt_nx {x y d : LD.D} {ρ : Env} {μ : Store} : putSt x y d ρ μ = .bad ∨ ∃ μ', putSt x y d ρ μ = .nx ρ μ' := by
  unfold putSt
  split
  · split
    · split
      · exact .inr ⟨_, rfl⟩
      · exact .inl rfl
    · split
      · exact .inr ⟨_, rfl⟩
      · exact .inl rfl
    · exact .inl rfl
  · exact .inl rfl
theorem ss_setd (o k e : Ex) : SS ga G N T sc fuel (.setd o k e) := by
  intro X st W C h
  cases st with
  | Assign ts x pos =>
    match ts, h with
    | [.Subscript ox ix p], h =>
      have h : (chk N T sc o ox && chk N T sc k ix && plainIx ix && chk N T sc e x && notComp x) = true := h
      simp only [Bool.and_eq_true] at h
      obtain ⟨⟨⟨⟨h1, h2⟩, h3⟩, h4⟩, h5⟩ := h
      refine (ps_asg ((sound e).1 X sc x W C.gc C.tk h4) (pg_sub ((sound o).1 X sc ox W C.gc C.tk h1) ((sound k).1 X sc ix W C.gc C.tk h2) (set_dictE C.gc.hu) (sub_assign h3)) (sw_sole h5) (by cases x <;> rfl)).mono fun D σ H ⟨B, ms, Γ, μ, ρ, F, q⟩ => ?_
      refine stF F q fun d μ1 v H1 ms1 Γ1 F1 A1 r1 q1 => stF F1 q1 fun d2 μ2 v2 H2 ms2 Γ2 F2 A2 r2 q2 => stF F2 q2 fun d3 μ3 v3 H3 ms3 Γ3 F3 A3 r3 q3 => ?_
      have q3 : FP X ga B (putSt d2 d3 d ρ μ3) W D := q3
      refine put_use C.gc.hw F3 (D := D) (r2.mono A3.le A3.pre) r3 ((r1.mono A2.le A2.pre).mono A3.le A3.pre) ⟨_, rfl, fun e => by rw [e] at q3; exact q3.elim⟩ fun μ' H' e F' => ?_
      rw [e] at q3
      exact q3 _ _ _ _ F'
    | [], h => simp [chkS] at h
    | e1 :: e2 :: es, h => cases e1 <;> simp [chkS] at h
  | _ => exact absurd h (by simp [chkS])
theorem ss_setf (o : Ex) (f : Str) (cs : List Str) (e : Ex) : SS ga G N T sc fuel (.setf o f cs e) := by
  intro X st W C h
  cases st with
  | Assign ts x pos =>
    match ts, h with
    | [.Attribute ox n p], h =>
      have h : (decide (n = f) && chk N T sc o ox && chk N T sc e x && notComp x && cs.all fun c => decide ((c, f) ∈ T.fl)) = true := h
      simp only [Bool.and_eq_true] at h
      obtain ⟨⟨⟨⟨h1, h2⟩, h3⟩, h4⟩, h5⟩ := h
      have e1 := of_decide_eq_true h1
      subst e1
      refine (ps_fld ((sound o).1 X sc ox W C.gc C.tk h2) ((sound e).1 X sc x W C.gc C.tk h3) (sw_plain h4)).mono fun D σ H ⟨B, ms, Γ, μ, ρ, F, q⟩ => ?_
      refine stF F q fun d μ1 v H1 ms1 Γ1 F1 A1 r1 q1 => stF F1 q1 fun d2 μ2 v2 H2 ms2 Γ2 F2 A2 r2 q2 => ?_
      cases d2 with
      | loc l =>
        have q2 : FP X ga B (match μ2[l]? with
          | some (.obj c fs) => if c ∈ cs ∧ fs.length < 900 then .nx ρ (μ2.set l (.obj c (putFd n d fs))) else .bad
          | _ => .bad) W D := q2
        split at q2
        · rename_i c fs el
          split at q2
          · rename_i hc
            obtain ⟨a, dx, ys, rfl, hp, z1, z2, z3⟩ := SI.obj F2.si el r2
            have FA := C.gc.fl c n (of_decide_eq_true (List.all_eq_true.mp h5 c hc.1))
            refine ⟨a, ga c, dx, ys, rfl, z1, FA.cl, FA.no, by rw [← repF_len z3]; omega, ?_⟩
            refine q2 _ _ _ _ (F2.step (After.putS F2.si el hp ⟨dx, _, upd_same, ?_, repF_put (r1.mono A2.le A2.pre) z3⟩))
            have := putFd_len n d fs
            omega
          · exact q2.elim
        · exact q2.elim
      | _ => exact q2.elim
    | [], h => simp [chkS] at h
    | e1 :: e2 :: es, h => cases e1 <;> simp [chkS] at h
  | _ => exact absurd h (by simp [chkS])
/-! ### a, b = xs, a list -/
theorem pg_tupL {X : Cx} {es : List Expr} {k : Nat} {t : TGs} {n : Nat} {pos : Pos} (hc : X.calm = true) (h : PGs X es t) (hn : (assignEach es X.env).length = n) (hst : (assignEach es X.env).findIdx? (·.1) = none) :
    PG X (.Tuple es k pos) (fun v σ H Q => ∃ a xs, v = .ref a ∧ SqL X.K H a xs ∧ xs.length = n ∧ t xs σ H Q) := by
  refine ⟨fun pins s σ H v u Q I r hw => ?_⟩
  obtain ⟨a, xs, e1, hq, hl, hw⟩ := hw
  subst e1
  cases r
  obtain ⟨its, rv, ht, hz⟩ := I.list hq
  rw [assign_Tuple]
  refine wpAny_bind (wpAny_standAt ?_)
  unfold unpack
  have hsz : (assignEach es X.env).length = its.toArray.size := by simp [hn, ← hl, rv.length]
  rw [hsz, hst]
  refine wpAny_bind (wpAny_holding (PySem.W.kun_itemsOf (I.ok.hd hc) ht.isList fun h' hx => ?_))
  have I1 : Inv X pins σ H { s with heap := h' } := I.kept (t' := s.toks) fun b o e => hx b o (Nat.ne_of_lt (Heap.lt_size e)) e
  exact h.run pins _ σ H xs _ Q I1 (by simpa using rv) hw
theorem ss_unl (is : List Nat) (e : Ex) : SS ga G N T sc fuel (.unl is e) := by
  intro X st W C h
  cases st with
  | Assign ts x pos =>
    match ts, h with
    | [.Tuple ts k p], h =>
      obtain ⟨h1, h2, h3, h4⟩ := and4 (show (tgC N sc (.tup is) (.Tuple ts k p) && chk N T sc e x && notComp x && notTup x) = true from h)
      obtain ⟨k1, k2⟩ := assign_star X.env (show tgsC N sc is ts = true from h1)
      refine (ps_asg ((sound e).1 X sc x W C.gc C.tk h2) (pg_tupL C.gc.calm (pgs_names C.gc h1) k1 k2) (sw_sole h3) (swS_plain h4)).mono fun D σ H ⟨B, ms, Γ, μ, ρ, F, q⟩ => ?_
      refine stF F q fun d μ1 v H1 ms1 Γ1 F1 A r q1 => ?_
      have fin : ∀ (a : Addr) (vs : List V) (xs : List LD.D), SqL X.K H1 a vs → Reps X.K ga ms1 Γ1 xs vs → FP X ga B (Fl.opt (putAll ρ is xs) μ1) W D → ∃ a' xs', V.ref a = .ref a' ∧ SqL X.K H1 a' xs' ∧ xs'.length = is.length ∧ gNames is xs' σ H1 D.nx := fun a vs xs hl rs q => by
        obtain ⟨ρ', e1, q1⟩ := q.opt
        exact ⟨a, vs, rfl, hl, by rw [← rs.length, putAll_len e1], names_useF F1 rs e1 fun σ' F2 => q1 _ _ _ _ F2⟩
      cases d with
      | lst xs =>
        unfold Rep at r
        obtain ⟨a, vs, rfl, g1, g2, g3⟩ := r
        exact fin a vs xs (SqL.of (F1.si.sub _ _ g1)) g3 q1
      | loc l =>
        have q1 : FP X ga B (match μ1[l]? with
          | some (.lst xs) => Fl.opt (putAll ρ is xs) μ1
          | _ => .bad) W D := q1
        split at q1
        · rename_i xs el
          obtain ⟨a, vs, rfl, g1, g2, g3, _⟩ := SI.lstV F1.si el r
          exact fin a vs xs (SqL.of g1) g3 q1
        · exact q1.elim
      | _ => exact q1.elim
    | [], h => simp [chkS] at h
    | e1 :: e2 :: es, h => cases e1 <;> simp [chkS] at h
  | _ => exact absurd h (by simp [chkS])
theorem ss_setd2 (o1 k1 o2 k2 e1 e2 : Ex) : SS ga G N T sc fuel (.setd2 o1 k1 o2 k2 e1 e2) := by
  intro X st W C h
  have h : setd2C N T sc o1 k1 o2 k2 e1 e2 (setd2F st) = true := h
  cases ef : setd2F st with
  | none => rw [ef] at h; exact absurd h Bool.false_ne_true
  | some z =>
    obtain ⟨x1, i1, x2, i2, v1, v2⟩ := z
    obtain ⟨p1, p2, kk, pp, kk2, pp2, pos, rfl⟩ := setd2F_some ef
    rw [ef] at h
    have hh : (chk N T sc o1 x1 && chk N T sc k1 i1 && plainIx i1 && chk N T sc o2 x2 && chk N T sc k2 i2 && plainIx i2 && chks N T sc (.cons e1 (.cons e2 .nil)) [v1, v2]) = true := h
    simp only [Bool.and_eq_true] at hh
    obtain ⟨⟨⟨⟨⟨⟨h1, h2⟩, h3⟩, h4⟩, h5⟩, h6⟩, h7⟩ := hh
    have hsa : SA ga G N T (.cons e1 (.cons e2 .nil)) := sa_cons (sound e1).1 (sa_cons (sound e2).1 sa_nil)
    have hg := pg_tup (k := kk) (pos := pp) (n := 2) C.gc.calm (pgs_cons (pg_sub (pos := p1) ((sound o1).1 X sc x1 W C.gc C.tk h1) ((sound k1).1 X sc i1 W C.gc C.tk h2) (set_dictE C.gc.hu) (sub_assign h3))
      (pgs_cons (pg_sub (pos := p2) ((sound o2).1 X sc x2 W C.gc C.tk h4) ((sound k2).1 X sc i2 W C.gc C.tk h5) (set_dictE C.gc.hu) (sub_assign h6)) pgs_nil rfl) rfl) rfl rfl
    refine (ps_asg (pe_tup (hsa X sc _ W C.gc C.tk h7)) hg (sw_sole rfl) ?_).mono fun D σ H ⟨B, ms, Γ, μ, ρ, F, q⟩ => ?_
    · unfold swappedStores
      dsimp only
      split
      · rfl
      · split
        · rfl
        · rfl
    have q : FP X ga B (Fl.of ρ (ev G e1 ρ μ) fun d1 μ => Fl.of ρ (ev G e2 ρ μ) fun d2 μ => Fl.of ρ (ev G o1 ρ μ) fun x μ => Fl.of ρ (ev G k1 ρ μ) fun y μ => (putSt x y d1 ρ μ).next fun ρ μ =>
      Fl.of ρ (ev G o2 ρ μ) fun x μ => Fl.of ρ (ev G k2 ρ μ) fun y μ => putSt x y d2 ρ μ) W D := q
    -- both values
    have q : FP X ga B (Fl.of ρ (evs G (.cons e1 (.cons e2 .nil)) ρ μ) fun ds μ => match ds with
      | [d1, d2] => Fl.of ρ (ev G o1 ρ μ) fun x μ => Fl.of ρ (ev G k1 ρ μ) fun y μ => (putSt x y d1 ρ μ).next fun ρ μ => Fl.of ρ (ev G o2 ρ μ) fun x μ => Fl.of ρ (ev G k2 ρ μ) fun y μ => putSt x y d2 ρ μ
      | _ => .bad) W D := by
      have e0 : evs G (.cons e1 (.cons e2 .nil)) ρ μ = (ev G e1 ρ μ).bind fun d μ => ((ev G e2 ρ μ).bind fun d μ => .ok [d] μ).bind fun ds μ => .ok (d :: ds) μ := rfl
      rw [e0]
      cases a1 : ev G e1 ρ μ with
      | bad => rw [a1] at q; exact q
      | exc c fs μ1 => rw [a1] at q; exact q
      | ok d1 μ1 =>
        rw [a1] at q
        have q : FP X ga B (Fl.of ρ (ev G e2 ρ μ1) fun d2 μ => Fl.of ρ (ev G o1 ρ μ) fun x μ => Fl.of ρ (ev G k1 ρ μ) fun y μ => (putSt x y d1 ρ μ).next fun ρ μ =>
          Fl.of ρ (ev G o2 ρ μ) fun x μ => Fl.of ρ (ev G k2 ρ μ) fun y μ => putSt x y d2 ρ μ) W D := q
        show FP X ga B (Fl.of ρ (((ev G e2 ρ μ1).bind fun d μ => .ok [d] μ).bind fun ds μ => .ok (d1 :: ds) μ) _) W D
        cases a2 : ev G e2 ρ μ1 with
        | bad => rw [a2] at q; exact q
        | exc c fs μ1 => rw [a2] at q; exact q
        | ok d2 μ2 => rw [a2] at q; exact q
    refine stFA F q fun ds μ1 vs H1 ms1 Γ1 F1 A1 r1 q1 => ?_
    match ds, r1, q1 with
    | [d1, d2], r1, q1 =>
      obtain ⟨w1, r, rfl, g1, r1⟩ := r1.cons_iff
      obtain ⟨w2, r, rfl, g2, r1⟩ := r1.cons_iff
      rw [r1.nil_iff]
      refine ⟨by show 2 ≤ sizeLine; decide, fun p hp => ⟨p, [w1, w2], rfl, SqT.of upd_same, rfl, ?_⟩⟩
      have F2 := F1.step (After.layOwn (o := HO.tup [w1, w2]) F1.si hp)
      have q1 : FP X ga B (Fl.of ρ (ev G o1 ρ μ1) fun x μ => Fl.of ρ (ev G k1 ρ μ) fun y μ => (putSt x y d1 ρ μ).next fun ρ μ => Fl.of ρ (ev G o2 ρ μ) fun x μ => Fl.of ρ (ev G k2 ρ μ) fun y μ => putSt x y d2 ρ μ) W D := q1
      refine ⟨w1, [w2], rfl, ?_⟩
      refine stF F2 q1 fun d3 μ3 v3 H3 ms3 Γ3 F3 A3 r3 q3 => stF F3 q3 fun d4 μ4 v4 H4 ms4 Γ4 F4 A4 r4 q4 => ?_
      have g1' := ((g1.mono A3.le A3.pre).mono A4.le A4.pre)
      have g2' := ((g2.mono A3.le A3.pre).mono A4.le A4.pre)
      rcases putSt_nx (x := d3) (y := d4) (d := d1) (ρ := ρ) (μ := μ4) with e | ⟨μ5, e⟩
      · rw [e] at q4; exact q4.elim
      · have q5 : FP X ga B (Fl.of ρ (ev G o2 ρ μ5) fun x μ => Fl.of ρ (ev G k2 ρ μ) fun y μ => putSt x y d2 ρ μ) W D := by rw [e] at q4; exact q4
        refine put_use2 (D := D) C.gc.hw F4 (r3.mono A4.le A4.pre) r4 g1' ⟨_, rfl, fun e' => by rw [e] at e'; cases e'⟩ fun μ' H' e' F' A' => ?_
        rw [e] at e'
        cases e'
        refine ⟨w2, [], rfl, ?_⟩
        refine stF F' q5 fun d6 μ6 v6 H6 ms6 Γ6 F6 A6 r6 q6 => stF F6 q6 fun d7 μ7 v7 H7 ms7 Γ7 F7 A7 r7 q7 => ?_
        refine put_use C.gc.hw F7 (D := D) (r6.mono A7.le A7.pre) r7 (((g2'.mono A'.le A'.pre).mono A6.le A6.pre).mono A7.le A7.pre) ⟨_, rfl, fun e => by rw [e] at q7; exact q7.elim⟩ fun μ' H' e F' => ?_
        rw [e] at q7
        exact ⟨rfl, q7 _ _ _ _ F'⟩
    | [], _, q1 => exact q1.elim
    | [_], _, q1 => exact q1.elim
    | _ :: _ :: _ :: _, _, q1 => exact q1.elim
theorem ss_ret (e : Ex) : SS ga G N T sc fuel (.ret e) := by
  intro X st W C h
  cases st with
  | Return ox pos =>
    cases ox with
    | some x =>
      refine (ps_ret ((sound e).1 X sc x W C.gc C.tk h)).mono fun D σ H ⟨B, ms, Γ, μ, ρ, F, q⟩ => ?_
      exact stF F q fun d μ1 v H1 ms1 Γ1 F1 A r q1 => q1 _ _ _ _ F1.af F1.le F1.pre r
    | none => exact absurd h (by simp [chkS])
  | _ => exact absurd h (by simp [chkS])
theorem ss_retn : SS ga G N T sc fuel .retn := by
  intro X st W C h
  cases st with
  | Return ox pos =>
    cases ox with
    | none => exact ps_retN.mono fun D σ H ⟨B, ms, Γ, μ, ρ, F, q⟩ => q _ _ _ _ F.af F.le F.pre (by unfold Rep; rfl)
    | some x => exact absurd h (by simp [chkS])
  | _ => exact absurd h (by simp [chkS])
theorem ss_ite (c : Ex) {a b : Sms} (ha : SSs ga G N T sc fuel a) (hb : SSs ga G N T sc fuel b) : SS ga G N T sc fuel (.ite c a b) := by
  intro X st W C h
  cases st with
  | If t p r pos =>
    obtain ⟨h1, h2, h3⟩ := and3 (show (chk N T sc c t && chkSs N T sc a p && chkSs N T sc b r) = true from h)
    refine (ps_if ((sound c).2.1 X sc t W C.gc C.tk h1) (ha X p W C h2) (hb X r W C h3)).mono fun D σ H ⟨B, ms, Γ, μ, ρ, F, q⟩ => ?_
    refine stFB F q fun k μ1 H1 ms1 Γ1 F1 A q1 => ?_
    cases k with
    | true => exact ⟨B, ms1, Γ1, μ1, ρ, F1, q1⟩
    | false => exact ⟨B, ms1, Γ1, μ1, ρ, F1, q1⟩
  | _ => exact absurd h (by simp [chkS])
theorem FP.base {B B' : Base} {fl : Fl} {D : Ends} (h1 : B'.ms0 = B.ms0) (h2 : B'.Γ0 = B.Γ0) (h3 : B'.H0 = B.H0) (le : Same B.Γb B'.Γb) (pre : B.msb <+: B'.msb) (q : FP X ga B fl W D) : FP X ga B' fl W D := by
  have fs : ∀ {ms Γ μ ρ σ H}, FS X.K ga B' ms Γ μ ρ σ H → FS X.K ga B ms Γ μ ρ σ H := fun F => ⟨by rw [← h1, ← h2, ← h3]; exact F.af, le.trans F.le, pre.trans F.pre, F.er, by rw [← h3]; exact F.fresh⟩
  cases fl with
  | nx ρ μ => exact fun ms Γ σ H F => q ms Γ σ H (fs F)
  | brk ρ μ => exact fun ms Γ σ H F => q ms Γ σ H (fs F)
  | cont ρ μ => exact fun ms Γ σ H F => q ms Γ σ H (fs F)
  | ret d μ => exact fun ms Γ v H A l p r => q ms Γ v H (by rw [← h1, ← h2, ← h3]; exact A) (le.trans l) (pre.trans p) r
  | exc c fs' ρ μ => exact fun ms Γ σ H cls dd F r => q ms Γ σ H cls dd (fs F) r
  | bad => exact q
theorem ss_for (t : Tg) (k : IK) (its : Exs) {body : Sms} (hb : SSs ga G N T sc fuel body) : SS ga G N T sc fuel (.for_ t k its body) := by
  intro X st W C h
  cases st with
  | For tg it b els pos =>
    cases els with
    | nil =>
      obtain ⟨hzt, h1, h2, h3⟩ := and4 (show (zipT k t && tgC N sc t tg && itC N T sc k its it && chkSs N T sc body b) = true from h)
      have hf0 : ∀ v, foldedSetIterable it X.env v = pure v := it_fold h2
      refine (ps_for C.po C.gc.calm (pi_ok (sounds its).1 (hv_of (sounds its).2) C.gc C.tk h2 (zip_tg hzt h1)) (pg_ok C.gc h1) (hb X b W C h3) hf0).mono fun D σ H ⟨B, ms, Γ, μ, ρ, F, q⟩ => ?_
      have q : FP X ga B (Fl.of ρ (evs G its ρ μ) fun ds μ => match iterD k ds with
        | some xs => forLoop t (exSs G fuel body) xs ρ μ
        | none => .bad) W D := q
      refine ⟨ms, Γ, μ, ρ, F.si, F.er, ?_⟩
      cases e1 : evs G its ρ μ with
      | bad => rw [e1] at q; exact q
      | exc c fs μ1 =>
        rw [e1] at q
        exact fun cls dd H' ms' Γ' A r => q ms' Γ' σ H' cls dd (F.step A) r
      | ok ds μ1 =>
        rw [e1] at q
        have q : FP X ga B (match iterD k ds with
          | some xs => forLoop t (exSs G fuel body) xs ρ μ1
          | none => .bad) W D := q
        show match iterD k ds with
          | some xs => _
          | none => False
        cases e2 : iterD k ds with
        | none => rw [e2] at q; exact q
        | some xs =>
          rw [e2] at q
          have q : FP X ga B (forLoop t (exSs G fuel body) xs ρ μ1) W D := q
          intro J H1 ms1 Γ1 A hz ok
          have F1 := F.step A
          obtain ⟨B', hB'⟩ : ∃ B' : Base, B' = { B with msb := ms1, Γb := Γ1 } := ⟨_, rfl⟩
          have F1' : FS X.K ga B' ms1 Γ1 μ1 ρ σ H1 := by rw [hB']; exact ⟨F1.af, fun _ _ e => e, List.prefix_rfl, F1.er, F1.fresh⟩
          have q : FP X ga B' (forLoop t (exSs G fuel body) xs ρ μ1) W D := by
            rw [hB']; exact FP.base (B := B) rfl rfl rfl F1.le F1.pre q
          refine ⟨fun i m σ2 H2 => m = xs.length - i ∧ i ≤ xs.length ∧ ∃ ms2 Γ2 μ2 ρ2, FS X.K ga B' ms2 Γ2 μ2 ρ2 σ2 H2 ∧ FP X ga B' (forLoop t (exSs G fuel body) (xs.drop i) ρ2 μ2) W D,
            ⟨_, rfl, Nat.zero_le _, ms1, Γ1, μ1, ρ, F1', by rw [List.drop_zero]; exact q⟩, ?_⟩
          rintro i m σ2 H2 ⟨hm, hi, ms2, Γ2, μ2, ρ2, F2, q2⟩
          have le12 : Same Γ1 Γ2 := by have := F2.le; rw [hB'] at this; exact this
          have pre12 : ms1 <+: ms2 := by have := F2.pre; rw [hB'] at this; exact this
          obtain ⟨ok1, ok2, ok3⟩ := ok H2 ms2 Γ2 μ2 le12 pre12 F2.si
          rcases Nat.lt_or_ge i xs.length with hi' | hi'
          · right
            refine ⟨ok1 i hi', fun σ' H' => ∃ m', m' < m ∧ (m' = xs.length - (i + 1) ∧ i + 1 ≤ xs.length ∧ ∃ ms2 Γ2 μ2 ρ2, FS X.K ga B' ms2 Γ2 μ2 ρ2 σ' H' ∧ FP X ga B' (forLoop t (exSs G fuel body) (xs.drop (i + 1)) ρ2 μ2) W D), fun σ' H' h => h, fun w H' hy => ?_⟩
            obtain ⟨A', dx, hx', rw'⟩ := ok3 i w H' hy hi'
            have hx : xs[i]? = some xs[i] := List.getElem?_eq_getElem hi'
            rw [hx] at hx'
            cases hx'
            have F2 := F2.step A'
            have dr : xs.drop i = xs[i] :: xs.drop (i + 1) := by rw [List.drop_eq_getElem_cons hi']
            rw [dr] at q2
            unfold forLoop at q2
            cases e3 : bindT ρ2 t xs[i] with
            | none => rw [e3] at q2; exact False.elim q2
            | some ρ3 =>
              rw [e3] at q2
              refine tg_useFI hzt F2 rw' e3 fun σ3 F3 => ⟨B', ms2, Γ2, μ2, ρ3, F3, ?_⟩
              have q2 : FP X ga B' (match exSs G fuel body ρ3 μ2 with
                | .nx ρ μ => forLoop t (exSs G fuel body) (xs.drop (i + 1)) ρ μ
                | .cont ρ μ => forLoop t (exSs G fuel body) (xs.drop (i + 1)) ρ μ
                | .brk ρ μ => .nx ρ μ
                | r => r) W D := q2
              cases e4 : exSs G fuel body ρ3 μ2 with
              | bad => rw [e4] at q2; exact q2
              | nx ρ4 μ4 => rw [e4] at q2; exact fun ms4 Γ4 σ4 H4 F4 => ⟨_, by omega, rfl, by omega, ms4, Γ4, μ4, ρ4, F4, q2⟩
              | cont ρ4 μ4 => rw [e4] at q2; exact fun ms4 Γ4 σ4 H4 F4 => ⟨_, by omega, rfl, by omega, ms4, Γ4, μ4, ρ4, F4, q2⟩
              | brk ρ4 μ4 => rw [e4] at q2; exact fun ms4 Γ4 σ4 H4 F4 => q2 ms4 Γ4 σ4 H4 F4
              | ret d μ4 => rw [e4] at q2; exact q2
              | exc c fs ρ4 μ4 => rw [e4] at q2; exact q2
          · left
            have e : i = xs.length := Nat.le_antisymm hi hi'
            subst e
            rw [List.drop_length] at q2
            refine ⟨ok2, ?_⟩
            exact q2 _ _ _ _ F2
    | cons _ _ => exact absurd h (by simp [chkS])
  | _ => exact absurd h (by simp [chkS])
theorem ss_forl (t : Tg) (o : Ex) {body : Sms} (hb : SSs ga G N T sc fuel body) : SS ga G N T sc fuel (.forl t o body) := by
  intro X st W C h
  cases st with
  | For tg it b els pos =>
    cases els with
    | nil =>
      obtain ⟨h1, h2, h3⟩ := and3 (show (tgC N sc t tg && itC N T sc .val (.cons o .nil) it && chkSs N T sc body b) = true from h)
      have hf0 : ∀ v, foldedSetIterable it X.env v = pure v := it_fold h2
      obtain ⟨h4, h5⟩ := Bool.and_eq_true_iff.mp (show (chk N T sc o it && notSet it) = true from h2)
      refine (ps_for C.po C.gc.calm (pi_list ((sound o).1 X sc it W C.gc C.tk h4)) (pg_ok C.gc h1) (hb X b W C h3) hf0).mono fun D σ H ⟨B, ms, Γ, μ, ρ, F, q⟩ => ?_
      refine stF F q fun d μ1 v H1 ms1 Γ1 F1 A r q1 => ?_
      cases d with
      | loc l =>
        have q1 : FP X ga B (forLoopL t (exSs G fuel body) l fuel 0 ρ μ1) W D := q1
        unfold Rep at r
        obtain ⟨a, rfl, hp⟩ := r
        have first : ∃ xs, μ1[l]? = some (.lst xs) := by
          cases fuel with
          | zero => exact q1.elim
          | succ n =>
            unfold forLoopL at q1
            split at q1
            · exact ⟨_, by assumption⟩
            · exact q1.elim
        obtain ⟨xs0, el0⟩ := first
        obtain ⟨vs0, z1, _, _⟩ := F1.si.st l _ a el0 hp
        refine ⟨a, rfl, ⟨vs0, SqL.of z1⟩, ?_⟩
        obtain ⟨B', hB'⟩ : ∃ B' : Base, B' = { B with msb := ms1, Γb := Γ1 } := ⟨_, rfl⟩
        have F1' : FS X.K ga B' ms1 Γ1 μ1 ρ σ H1 := by rw [hB']; exact ⟨F1.af, fun _ _ e => e, List.prefix_rfl, F1.er, F1.fresh⟩
        have q1 : FP X ga B' (forLoopL t (exSs G fuel body) l fuel 0 ρ μ1) W D := by
          rw [hB']; exact FP.base (B := B) rfl rfl rfl F1.le F1.pre q1
        refine ⟨fun i m σ2 H2 => ∃ ms2 Γ2 μ2 ρ2, FS X.K ga B' ms2 Γ2 μ2 ρ2 σ2 H2 ∧ FP X ga B' (forLoopL t (exSs G fuel body) l m i ρ2 μ2) W D, ⟨fuel, ms1, Γ1, μ1, ρ, F1', q1⟩, ?_⟩
        rintro i m σ2 H2 ⟨ms2, Γ2, μ2, ρ2, F2, q2⟩
        have pre12 : ms1 <+: ms2 := by have := F2.pre; rw [hB'] at this; exact this
        have hp2 := pre_get pre12 hp
        cases m with
        | zero => exact q2.elim
        | succ m =>
          unfold forLoopL at q2
          split at q2
          · rename_i xs el
            obtain ⟨vs, g1, g2, g3⟩ := F2.si.st l _ a el hp2
            split at q2
            · rename_i x ex
              right
              obtain ⟨w, w1, w2⟩ := g3.get ex
              refine ⟨⟨vs, w, SqL.of g1, w1⟩, fun σ' H' => ∃ m', m' < m + 1 ∧ ∃ ms2 Γ2 μ2 ρ2, FS X.K ga B' ms2 Γ2 μ2 ρ2 σ' H' ∧ FP X ga B' (forLoopL t (exSs G fuel body) l m' (i + 1) ρ2 μ2) W D, fun σ' H' h => h, fun w' H' hy => ?_⟩
              obtain ⟨rfl, hy⟩ := hy
              have e := hy vs (SqL.of g1)
              rw [w1] at e
              cases e
              split at q2
              · rename_i ρ3 e3
                refine tg_useF F2 w2 e3 fun σ3 F3 => ⟨B', ms2, Γ2, μ2, ρ3, F3, ?_⟩
                cases e4 : exSs G fuel body ρ3 μ2 with
                | bad => rw [e4] at q2; exact q2
                | nx ρ4 μ4 => rw [e4] at q2; exact fun ms4 Γ4 σ4 H4 F4 => ⟨m, by omega, ms4, Γ4, μ4, ρ4, F4, q2⟩
                | cont ρ4 μ4 => rw [e4] at q2; exact fun ms4 Γ4 σ4 H4 F4 => ⟨m, by omega, ms4, Γ4, μ4, ρ4, F4, q2⟩
                | brk ρ4 μ4 => rw [e4] at q2; exact fun ms4 Γ4 σ4 H4 F4 => q2 ms4 Γ4 σ4 H4 F4
                | ret d μ4 => rw [e4] at q2; exact q2
                | exc c fs ρ4 μ4 => rw [e4] at q2; exact q2
              · exact q2.elim
            · rename_i ex
              left
              refine ⟨⟨vs, SqL.of g1, ?_⟩, q2 _ _ _ _ F2⟩
              rw [← g3.length]
              exact List.getElem?_eq_none_iff.mp ex
          · exact q2.elim
      | _ => exact q1.elim
    | cons _ _ => exact absurd h (by simp [chkS])
  | _ => exact absurd h (by simp [chkS])
theorem ss_while (c : Ex) {body : Sms} (hb : SSs ga G N T sc fuel body) : SS ga G N T sc fuel (.while_ c body) := by
  intro X st W C h
  cases st with
  | While t b els pos =>
    cases els with
    | nil =>
      have h := Bool.and_eq_true_iff.mp (show (chk N T sc c t && chkSs N T sc body b) = true from h)
      refine (ps_while C.po ((sound c).2.1 X sc t W C.gc C.tk h.1) (hb X b W C h.2)).mono fun D σ H ⟨B, ms, Γ, μ, ρ, F, q⟩ => ?_
      have q : FP X ga B (whileLoop (fun ρ μ => testOf (ev G c ρ μ)) (exSs G fuel body) fuel ρ μ) W D := q
      refine ⟨fun m σ H => ∃ ms Γ μ ρ, FS X.K ga B ms Γ μ ρ σ H ∧ FP X ga B (whileLoop (fun ρ μ => testOf (ev G c ρ μ)) (exSs G fuel body) m ρ μ) W D, ⟨fuel, ms, Γ, μ, ρ, F, q⟩, ?_⟩
      rintro m σ2 H2 ⟨ms2, Γ2, μ2, ρ2, F2, q2⟩
      cases m with
      | zero => exact False.elim q2
      | succ m =>
        unfold whileLoop at q2
        refine stFB F2 q2 fun k μ3 H3 ms3 Γ3 F3 A q3 => ?_
        cases k with
        | false => exact q3 _ _ _ _ F3
        | true =>
          rw [if_pos rfl]
          refine ⟨fun σ' H' => ∃ m', m' < m + 1 ∧ ∃ ms Γ μ ρ, FS X.K ga B ms Γ μ ρ σ' H' ∧ FP X ga B (whileLoop (fun ρ μ => testOf (ev G c ρ μ)) (exSs G fuel body) m' ρ μ) W D, fun σ' H' h => h, B, ms3, Γ3, μ3, ρ2, F3, ?_⟩
          rw [if_pos rfl] at q3
          cases e4 : exSs G fuel body ρ2 μ3 with
          | bad => rw [e4] at q3; exact q3
          | nx ρ4 μ4 => rw [e4] at q3; exact fun ms4 Γ4 σ4 H4 F4 => ⟨m, by omega, ms4, Γ4, μ4, ρ4, F4, q3⟩
          | cont ρ4 μ4 => rw [e4] at q3; exact fun ms4 Γ4 σ4 H4 F4 => ⟨m, by omega, ms4, Γ4, μ4, ρ4, F4, q3⟩
          | brk ρ4 μ4 => rw [e4] at q3; exact fun ms4 Γ4 σ4 H4 F4 => q3 ms4 Γ4 σ4 H4 F4
          | ret d μ4 => rw [e4] at q3; exact q3
          | exc c fs ρ4 μ4 => rw [e4] at q3; exact q3
    | cons _ _ => exact absurd h (by simp [chkS])
  | _ => exact absurd h (by simp [chkS])

theorem mix2 {ρ ρ' : Env} {i j : Nat} {d e : LD.D} (h : putMix ρ [(i, false), (j, false)] [d, e] = some ρ') : ρ' = (ρ.set i (.val d)).set j (.val e) := by
  unfold putMix at h
  cases e1 : ρ.put i d with
  | none => rw [e1] at h; cases h
  | some ρ1 =>
    rw [e1] at h
    have h : putMix ρ1 [(j, false)] [e] = some ρ' := h
    unfold putMix at h
    cases e2 : ρ1.put j e with
    | none => rw [e2] at h; cases h
    | some ρ2 =>
      rw [e2] at h
      have h : some ρ2 = some ρ' := h
      cases h
      rw [(put_some e2).2, (put_some e1).2]
theorem mix3 {ρ ρ' : Env} {i j l : Nat} {d e f : LD.D} (h : putMix ρ [(i, false), (j, false), (l, false)] [d, e, f] = some ρ') : ρ' = ((ρ.set i (.val d)).set j (.val e)).set l (.val f) := by
  unfold putMix at h
  cases e1 : ρ.put i d with
  | none => rw [e1] at h; cases h
  | some ρ1 =>
    rw [e1] at h
    have h : putMix ρ1 [(j, false), (l, false)] [e, f] = some ρ' := h
    rw [mix2 h, (put_some e1).2]
theorem evs_len : ∀ {es : Exs} {xs : List Expr} {ρ : Env} {μ μ' : Store} {ds : List LD.D}, chks N T sc es xs = true → evs G es ρ μ = .ok ds μ' → ds.length = xs.length
  | .nil, [], ρ, μ, μ', ds, _, e => by
    have e : (Out.ok [] μ : Out (List LD.D)) = .ok ds μ' := e
    cases e
    rfl
  | .nil, _ :: _, _, _, _, _, h, _ => by simp [chks] at h
  | .cons e es, [], _, _, _, _, h, _ => by simp [chks] at h
  | .cons e es, x :: xs, ρ, μ, μ', ds, h, q => by
    obtain ⟨_, _, h3⟩ := and3 (show (chk N T sc e x && notStar x && chks N T sc es xs) = true from h)
    obtain ⟨d, μ1, _, q1⟩ := bind_ok_inv (show (ev G e ρ μ).bind _ = .ok ds μ' from q)
    obtain ⟨dr, μ2, q2, q3⟩ := bind_ok_inv q1
    cases q3
    rw [List.length_cons, List.length_cons, evs_len h3 q2]
theorem putMix_len {ρ' : Env} : ∀ {is : List (Nat × Bool)} {ds : List LD.D} {ρ : Env}, putMix ρ is ds = some ρ' → ds.length = is.length
  | [], [], _, _ => rfl
  | [], _ :: _, _, h => by simp [putMix] at h
  | (_, false) :: _, [], _, h => by simp [putMix] at h
  | (_, true) :: _, [], _, h => by simp [putMix] at h
  | (i, false) :: is, d :: ds, ρ, h => by
    unfold putMix at h
    cases e1 : ρ.put i d with
    | none => rw [e1] at h; cases h
    | some ρ1 =>
      rw [e1] at h
      rw [List.length_cons, List.length_cons, putMix_len (show putMix ρ1 is ds = some ρ' from h)]
  | (i, true) :: is, d :: ds, ρ, h => by
    cases d with
    | lst xs =>
      unfold putMix at h
      split at h
      · rw [List.length_cons, List.length_cons, putMix_len h]
      · cases h
    | _ => simp [putMix] at h
theorem fresh_only {e : Ex} (h : isFresh e = true) : ListOnly G e := fun ρ μ d μ' q => by
  cases e with
  | lst es =>
    obtain ⟨ds, μ1, _, q2⟩ := bind_ok_inv (show (evs G es ρ μ).bind _ = .ok d μ' from q)
    split at q2
    · cases q2
      exact ⟨ds, rfl⟩
    · cases q2
  | blt f es =>
    cases f with
    | list1 =>
      obtain ⟨ds, μ1, _, q2⟩ := bind_ok_inv (show (evs G es ρ μ).bind _ = .ok d μ' from q)
      match ds, q2 with
      | [], q2 => cases q2
      | [x], q2 =>
        cases x with
        | tup xs => cases q2; exact ⟨xs, rfl⟩
        | lst xs => cases q2; exact ⟨xs, rfl⟩
        | str z => cases q2; exact ⟨_, rfl⟩
        | _ => cases q2
      | x :: _ :: _, q2 => cases x <;> cases q2
    | _ => exact absurd h Bool.false_ne_true
  | _ => exact absurd h Bool.false_ne_true
theorem mixO {ρ ρ' : Env} {i j : Nat} {xs : List LD.D} {e : LD.D} (h : putMix ρ [(i, true), (j, false)] [.lst xs, e] = some ρ') : ρ' = (ρ.set i (.own xs)).set j (.val e) := by
  unfold putMix at h
  split at h
  · unfold putMix at h
    cases e2 : Env.put (List.set ρ i (.own xs)) j e with
    | none => rw [e2] at h; cases h
    | some ρ2 =>
      rw [e2] at h
      have h : some ρ2 = some ρ' := h
      cases h
      rw [(put_some e2).2]
  · cases h
theorem ss_par (is : List (Nat × Bool)) (es : Exs) : SS ga G N T sc fuel (.par is es) := by
  intro X st W C h
  cases st with
  | Assign ts x pos =>
    have h : parC N T sc is es ts x = true := h
    unfold parC at h
    split at h
    next i j x px y py k p a b k2 p2 _ =>
      have h : (decide (N[i]? = some x) && decide (N[j]? = some y) && parOk sc x && parOk sc y && decide (x ≠ y) && decide (px.line = py.line) && chks N T sc es [a, b] && !allConst [a, b] && !allAlone [a, b]) = true := h
      simp only [Bool.and_eq_true] at h
      obtain ⟨⟨⟨⟨⟨⟨⟨⟨h1, h2⟩, h3⟩, h4⟩, h5⟩, h6⟩, h7⟩, h8⟩, h9⟩ := h
      have h1 := of_decide_eq_true h1
      have h2 := of_decide_eq_true h2
      have h3 : X.env.scope.names.lookup x = some .local := by rw [C.hsc]; exact of_decide_eq_true h3
      have h4 : X.env.scope.names.lookup y = some .local := by rw [C.hsc]; exact of_decide_eq_true h4
      have h5 := of_decide_eq_true h5
      have h6 := of_decide_eq_true h6
      have hij : i ≠ j := fun e => by subst e; rw [h1] at h2; exact h5 (Option.some.inj h2)
      refine (ps_par (i := i) (j := j) C.gc.calm (by rw [C.gc.hN]; exact C.gc.nd) (by rw [C.gc.hN]; exact h1) (by rw [C.gc.hN]; exact h2) hij h3 h4 ((sounds es).1 X sc [a, b] W C.gc C.tk h7)
        (swS_two C.gc.kind h3 h4 h5 h6 (chks_star h7) (by simpa using h8) (by simpa using h9)) (sw_sole rfl)).mono fun D σ H ⟨B, ms, Γ, μ, ρ, F, q⟩ => ?_
      refine stFA F q fun ds μ1 vs H1 ms1 Γ1 F1 A r q1 => ?_
      obtain ⟨ρ', e1, q9⟩ := q1.opt
      clear q1
      have hl := putMix_len e1
      match ds, hl, e1, r with
      | [d, e], _, e1, r =>
        obtain ⟨v, r1, rfl, g1, r⟩ := r.cons_iff
        obtain ⟨w, r2, rfl, g2, r⟩ := r.cons_iff
        rw [r.nil_iff]
        rw [mix2 e1] at q9
        exact ⟨v, w, rfl, q9 _ _ _ _ ((F1.put g1).put g2)⟩
    next i j l x px y py z pz k p a b c k2 p2 _ =>
      have h : (decide (N[i]? = some x) && decide (N[j]? = some y) && decide (N[l]? = some z) && parOk sc x && parOk sc y && parOk sc z && decide (x ≠ y) && decide (x ≠ z) && decide (y ≠ z) && decide (px.line = py.line) && decide (px.line = pz.line) && chks N T sc es [a, b, c] && !allConst [a, b, c] && !allAlone [a, b, c]) = true := h
      simp only [Bool.and_eq_true] at h
      obtain ⟨⟨⟨⟨⟨⟨⟨⟨⟨⟨⟨⟨⟨h1, h2⟩, h2'⟩, h3⟩, h4⟩, h4'⟩, h5⟩, h5'⟩, h5''⟩, h6⟩, h6'⟩, h7⟩, h8⟩, h9⟩ := h
      have h1 := of_decide_eq_true h1
      have h2 := of_decide_eq_true h2
      have h2' := of_decide_eq_true h2'
      have h3 : X.env.scope.names.lookup x = some .local := by rw [C.hsc]; exact of_decide_eq_true h3
      have h4 : X.env.scope.names.lookup y = some .local := by rw [C.hsc]; exact of_decide_eq_true h4
      have h4' : X.env.scope.names.lookup z = some .local := by rw [C.hsc]; exact of_decide_eq_true h4'
      have h5 := of_decide_eq_true h5
      have h5' := of_decide_eq_true h5'
      have h5'' := of_decide_eq_true h5''
      have hij : i ≠ j := fun e => by subst e; rw [h1] at h2; exact h5 (Option.some.inj h2)
      have hil : i ≠ l := fun e => by subst e; rw [h1] at h2'; exact h5' (Option.some.inj h2')
      have hjl : j ≠ l := fun e => by subst e; rw [h2] at h2'; exact h5'' (Option.some.inj h2')
      refine (ps_par3 (i := i) (j := j) (l := l) C.gc.calm (by rw [C.gc.hN]; exact C.gc.nd) (by rw [C.gc.hN]; exact h1) (by rw [C.gc.hN]; exact h2) (by rw [C.gc.hN]; exact h2') hij hil hjl h3 h4 h4' ((sounds es).1 X sc [a, b, c] W C.gc C.tk h7)
        (swS_three C.gc.kind h3 h4 h4' h5 h5' h5'' (of_decide_eq_true h6) (of_decide_eq_true h6') (chks_star h7) (by simpa using h8) (by simpa using h9)) (sw_sole rfl)).mono fun D σ H ⟨B, ms, Γ, μ, ρ, F, q⟩ => ?_
      refine stFA F q fun ds μ1 vs H1 ms1 Γ1 F1 A r q1 => ?_
      obtain ⟨ρ', e1, q9⟩ := q1.opt
      clear q1
      have hl := putMix_len e1
      match ds, hl, e1, r with
      | [d, e, f], _, e1, r =>
        obtain ⟨v, r1, rfl, g1, r⟩ := r.cons_iff
        obtain ⟨w, r2, rfl, g2, r⟩ := r.cons_iff
        obtain ⟨u, r3, rfl, g3, r⟩ := r.cons_iff
        rw [r.nil_iff]
        rw [mix3 e1] at q9
        exact ⟨v, w, u, rfl, q9 _ _ _ _ (((F1.put g1).put g2).put g3)⟩
    next i j x px y py k p a b k2 p2 _ =>
      have h : (decide (N[i]? = some x) && decide (N[j]? = some y) && parOk sc x && parOk sc y && decide (x ≠ y) && decide (px.line = py.line) && parOwn N T sc es a b && !allConst [a, b] && !allAlone [a, b]) = true := h
      simp only [Bool.and_eq_true] at h
      obtain ⟨⟨⟨⟨⟨⟨⟨⟨h1, h2⟩, h3⟩, h4⟩, h5⟩, h6⟩, h7⟩, h8⟩, h9⟩ := h
      have h1 := of_decide_eq_true h1
      have h2 := of_decide_eq_true h2
      have h3 : X.env.scope.names.lookup x = some .local := by rw [C.hsc]; exact of_decide_eq_true h3
      have h4 : X.env.scope.names.lookup y = some .local := by rw [C.hsc]; exact of_decide_eq_true h4
      have h5 := of_decide_eq_true h5
      have h6 := of_decide_eq_true h6
      have hij : i ≠ j := fun e => by subst e; rw [h1] at h2; exact h5 (Option.some.inj h2)
      unfold parOwn at h7
      split at h7
      next e1 e2 _ =>
        simp only [Bool.and_eq_true] at h7
        obtain ⟨⟨⟨⟨f1, f2⟩, f3⟩, f4⟩, f5⟩ := h7
        have hst : [a, b].all notStar = true := by
          show (notStar a && (notStar b && true)) = true
          rw [f3, f5]; rfl
        refine (ps_par (i := i) (j := j) C.gc.calm (by rw [C.gc.hN]; exact C.gc.nd) (by rw [C.gc.hN]; exact h1) (by rw [C.gc.hN]; exact h2) hij h3 h4
          (pa_cons (sf_fresh (G := G) (T := T) (N := N) (ga := ga) (W := W) f1 C.gc C.tk f2) (pa_cons ((sound e2).1 X sc b W C.gc C.tk f4) pa_nil (star_cons b [] X.env f5)) (star_cons a [b] X.env f3))
          (swS_two C.gc.kind h3 h4 h5 h6 hst (by simpa using h8) (by simpa using h9)) (sw_sole rfl)).mono fun D σ H ⟨B, ms, Γ, μ, ρ, F, q⟩ => ?_
        have q : FP X ga B (Fl.of ρ ((ev G e1 ρ μ).bind fun d μ => ((ev G e2 ρ μ).bind fun d μ => (Out.ok [] μ : Out (List LD.D)).bind fun ds μ => .ok (d :: ds) μ).bind fun ds μ => .ok (d :: ds) μ) fun ds μ => Fl.opt (putMix ρ [(i, true), (j, false)] ds) μ) W D := q
        refine ⟨ms, Γ, μ, ρ, F.si, F.er, ?_⟩
        cases q1 : ev G e1 ρ μ with
        | bad => rw [q1] at q; exact q
        | exc c fs μ1 =>
          rw [q1] at q
          exact fun cls dd H' ms' Γ' A r => q ms' Γ' σ H' cls dd (F.step A) r
        | ok d μ1 =>
          rw [q1] at q
          obtain ⟨xs, rfl⟩ := fresh_only (G := G) f1 ρ μ d μ1 q1
          intro p vs H1 ms1 Γ1 A g1 g2 g3 g4 g5 g6
          refine ⟨ms1, Γ1, μ1, ρ, A.si, (F.step A).er, ?_⟩
          cases q2 : ev G e2 ρ μ1 with
          | bad => rw [Out.bind_ok, q2] at q; exact q
          | exc c fs μ2 =>
            rw [Out.bind_ok, q2] at q
            exact fun cls dd H' ms' Γ' A2 r => q ms' Γ' σ H' cls dd ((F.step A).step A2) r
          | ok d2 μ2 =>
            rw [Out.bind_ok, q2] at q
            intro w H2 ms2 Γ2 A2 r2
            obtain ⟨ρ', e3, q⟩ := FP.opt (show FP X ga B (Fl.opt (putMix ρ [(i, true), (j, false)] [.lst xs, d2]) μ2) W D from q)
            rw [mixO e3] at q
            have k1 := A2.keep _ _ g1 g3
            have k2 : Γ2 p = none := by
              cases e : Γ2 p with
              | none => rfl
              | some u =>
                rcases A2.newg _ _ e with z | z
                · rw [g2] at z; cases z
                · rw [g1] at z; cases z
            have k3 : p ∉ ms2 := fun hm => by
              rcases A2.newm _ hm with z | z
              · exact g3 z
              · rw [g1] at z; cases z
            exact ⟨.ref p, w, rfl, q _ _ _ _ ((F.newOwn (A.trans A2) k1 k2 k3 g4 g5 (g6.mono A2.le A2.pre)).put r2)⟩
      next => exact absurd h7 Bool.false_ne_true
    next => exact absurd h Bool.false_ne_true
  | _ => exact absurd h (by simp [chkS])
theorem ss_brk : SS ga G N T sc fuel .brk := by
  intro X st W C h
  cases st with
  | Break pos => exact ps_break.mono fun D σ H ⟨B, ms, Γ, μ, ρ, F, q⟩ => q _ _ _ _ F
  | _ => exact absurd h (by simp [chkS])
theorem ss_cont : SS ga G N T sc fuel .cont := by
  intro X st W C h
  cases st with
  | Continue pos => exact ps_continue.mono fun D σ H ⟨B, ms, Γ, μ, ρ, F, q⟩ => q _ _ _ _ F
  | _ => exact absurd h (by simp [chkS])
theorem ss_pass : SS ga G N T sc fuel .pass := by
  intro X st W C h
  cases st with
  | Pass pos => exact ps_pass.mono fun D σ H ⟨B, ms, Γ, μ, ρ, F, q⟩ => q _ _ _ _ F
  | _ => exact absurd h (by simp [chkS])
theorem ss_raise (c : Str) (es : Exs) : SS ga G N T sc fuel (.raise_ c es) := by
  intro X st W C h
  exact ps_never.mono fun D σ H ⟨B, ms, Γ, μ, ρ, F, q⟩ => q
theorem ss_rais (c : Str) : SS ga G N T sc fuel (.rais c) := by
  intro X st W C h
  cases st with
  | Raise e cause pos =>
   obtain ⟨x, m, j, p, p2, p3, rfl, rfl, h1, h2, h3, h4⟩ := raisC_ok (show raisC T sc c e cause = true from h)
   subst h1
   have Xc := C.gc.xc _ h2
   refine (ps_raise C.gc.calm C.tk (pmk_own (bmB := He.veBase) PySem.F.excBase_ValueError Xc.exc Xc.mg Xc.keep (raises_own Xc.sub Xc.ty) (C.gc.gl _ h3) (okName_debug h4).1)).mono fun D σ H ⟨B, ms, Γ, μ, ρ, F, q⟩ => ?_
   exact q ms Γ σ H _ none F ⟨rfl, .inl rfl⟩
  | _ => exact absurd (show false = true from h) Bool.false_ne_true
theorem scx_tr (C : SCx ga G N T sc X W) {pn : List (Addr × Obj)} {xe : Value → Shared → Prop} {W' : WX} (tk : Takes (X.tr pn xe) W') (po : PassesOwn (model X.prog X.w) X.A X.env xe) : SCx ga G N T sc (X.tr pn xe) W' :=
  ⟨⟨C.gc.hN, C.gc.nd, C.gc.kind, C.gc.vis, C.gc.loc, C.gc.cf, C.gc.gl, C.gc.calm, C.gc.hu, C.gc.blt, C.gc.con, fun f n h hn => ⟨(C.gc.fn f n h hn).ex⟩, C.gc.xc, fun c f h => ⟨(C.gc.xm c f h).ex⟩, C.gc.xi, C.gc.hw, fun c m f n h => ⟨(C.gc.mt c m f n h).ex⟩, fun c m f h => ⟨(C.gc.pr c m f h).ex⟩, fun c f n ds h => ⟨(C.gc.nw c f n ds h).ex⟩, C.gc.fl⟩, C.hsc, C.fn, tk, po, C.hs, C.hf⟩
theorem ss_try {body : Sms} (hb : SSs ga G N T sc fuel body) (c z : Str) : SS ga G N T sc fuel (.try_ body c z) := by
  intro X st W C h
  have key : ∃ b hs els fin pos, st = .Try b hs els fin pos ∧ (tryC T sc c z hs els fin && chkSs N T sc body b) = true := by
    cases st with
    | Try b hs els fin pos => exact ⟨_, _, _, _, _, rfl, h⟩
    | _ => exact absurd (show false = true from h) Bool.false_ne_true
  obtain ⟨b, hs, els, fin, pos, rfl, h2⟩ := key
  obtain ⟨hq, h7⟩ := Bool.and_eq_true_iff.mp h2
  obtain ⟨x, y, j, p1, p2, p3, p4, rfl, rfl, rfl, h1, hmem, h3, h4, h5, hz⟩ := tryC_ok hq
  subst h1 h5
  rw [line_eq] at hz
  have Xc := C.gc.xc _ hmem
  refine (ps_try_only (tb := fun W => tSs X ga G fuel W body) (ts := fun _ _ _ => tRet (tC (.str y))) C.hs C.hf (c := .ref (ga x)) ⟨C.gc.gl _ h3, (okName_debug h4).1, .inl Xc.mg⟩ C.tk (fun W' pn xe tk po => hb (X.tr pn xe) b W' (scx_tr C tk po) h7)
    (fun a oe cls d pn _ _ => pss_one (ps_ret pe_str))).mono fun D σ H ⟨B, ms, Γ, μ, ρ, F, q⟩ => ?_
  refine ⟨B, ms, Γ, μ, ρ, F, ?_⟩
  have q : FP X ga B (match exSs G fuel body ρ μ with
    | .exc (.glob x') _ _ μ => if x' = x then .ret (.str y) μ else .bad
    | .exc _ _ _ _ => .bad
    | r => r) W D := q
  cases e1 : exSs G fuel body ρ μ with
  | nx ρ1 μ1 => rw [e1] at q; exact q
  | ret d μ1 => rw [e1] at q; exact q
  | brk ρ1 μ1 => rw [e1] at q; exact q
  | cont ρ1 μ1 => rw [e1] at q; exact q
  | bad => rw [e1] at q; exact q
  | exc c' fs ρ1 μ1 =>
    rw [e1] at q
    cases c' with
    | glob x' =>
      have q : FP X ga B (if x' = x then .ret (.str y) μ1 else .bad) W D := q
      by_cases hx : x' = x
      · subst hx
        rw [if_pos rfl] at q
        intro ms1 Γ1 σ1 H1 cls dd F1 r1
        have ec : cls = .ref (ga x') := r1.1
        subst ec
        refine ⟨true, Xc.exm, fun _ a _ => ?_, fun hb => Bool.noConfusion hb⟩
        exact q ms1 Γ1 _ H1 F1.af F1.le F1.pre (by unfold Rep; exact ⟨rfl, hz⟩)
      · rw [if_neg hx] at q
        exact q.elim
    | _ => exact q.elim
theorem ss_fre (i : Nat) : SS ga G N T sc fuel (.fre i) := by
  intro X st W C h
  cases st <;> exact absurd h (by simp [chkS])
theorem sss_nil : SSs ga G N T sc fuel .nil := by
  intro X sts W C h
  cases sts with
  | nil => exact pss_nil.mono fun D σ H ⟨B, ms, Γ, μ, ρ, F, q⟩ => q _ _ _ _ F
  | cons _ _ => exact absurd h (by simp [chkSs])
theorem sss_cons {s : Sm} {ss : Sms} (hf : ∀ i, s ≠ .fre i) (h1 : SS ga G N T sc fuel s) (h2 : SSs ga G N T sc fuel ss) : SSs ga G N T sc fuel (.cons s ss) := by
  intro X sts W C h
  cases sts with
  | nil => exact absurd h (by cases s <;> first | exact absurd rfl (hf _) | simp [chkSs])
  | cons st sts =>
    have h : (chkS N T sc s st && chkSs N T sc ss sts) = true := by
      cases s <;> first | exact absurd rfl (hf _) | exact h
    have h := Bool.and_eq_true_iff.mp h
    refine (pss_cons (h1 X st W C h.1) (h2 X sts W C h.2)).mono fun D σ H ⟨B, ms, Γ, μ, ρ, F, q⟩ => ⟨B, ms, Γ, μ, ρ, F, ?_⟩
    have q : FP X ga B ((exS G fuel s ρ μ).next fun ρ μ => exSs G fuel ss ρ μ) W D := q
    cases e1 : exS G fuel s ρ μ with
    | nx ρ1 μ1 =>
      rw [e1] at q
      exact fun ms1 Γ1 σ1 H1 F1 => ⟨B, ms1, Γ1, μ1, ρ1, F1, q⟩
    | ret d μ1 => rw [e1] at q; exact q
    | brk ρ1 μ1 => rw [e1] at q; exact q
    | cont ρ1 μ1 => rw [e1] at q; exact q
    | exc c fs ρ1 μ1 => rw [e1] at q; exact q
    | bad => rw [e1] at q; exact q
theorem sss_fre (i : Nat) {ss : Sms} (h2 : SSs ga G N T sc fuel ss) : SSs ga G N T sc fuel (.cons (.fre i) ss) := by
  intro X sts W C h
  have h : chkSs N T sc ss sts = true := by cases sts <;> exact h
  refine (h2 X sts W C h).mono fun D σ H ⟨B, ms, Γ, μ, ρ, F, q⟩ => ?_
  have q : FP X ga B ((match ρ[i]? with
    | some (.own xs) => (.nx (ρ.set i (.val (.lst xs))) μ : Fl)
    | _ => .bad).next fun ρ μ => exSs G fuel ss ρ μ) W D := q
  split at q
  · rename_i xs eo
    obtain ⟨Γ', F'⟩ := F.give eo
    exact ⟨B, ms, Γ', μ, _, F', q⟩
  · exact False.elim q
mutual
theorem soundS : ∀ s : Sm, SS ga G N T sc fuel s
  | .expr e => ss_expr e
  | .asg (.name i) e => ss_asgN i e
  | .asg (.tup is) e => ss_asgT is e
  | .own i e => ss_own i e
  | .app i e => ss_app i e
  | .seti i k e => ss_seti i k e
  | .setl o k e => ss_setl o k e
  | .setd o k e => ss_setd o k e
  | .setf o f cs e => ss_setf o f cs e
  | .unl is e => ss_unl is e
  | .setd2 o1 k1 o2 k2 e1 e2 => ss_setd2 o1 k1 o2 k2 e1 e2
  | .forl t o body => ss_forl t o (soundSs body)
  | .appl o e => ss_appl o e
  | .par is es => ss_par is es
  | .ret e => ss_ret e
  | .retn => ss_retn
  | .ite c a b => ss_ite c (soundSs a) (soundSs b)
  | .for_ t k its body => ss_for t k its (soundSs body)
  | .while_ c body => ss_while c (soundSs body)
  | .raise_ c es => ss_raise c es
  | .rais c => ss_rais c
  | .try_ b c z => ss_try (soundSs b) c z
  | .brk => ss_brk
  | .cont => ss_cont
  | .pass => ss_pass
  | .fre i => ss_fre i
theorem soundSs : ∀ ss : Sms, SSs ga G N T sc fuel ss
  | .nil => sss_nil
  | .cons (.fre i) ss => sss_fre i (soundSs ss)
  | .cons (.expr e) ss => sss_cons (fun _ => nofun) (soundS _) (soundSs ss)
  | .cons (.asg t e) ss => sss_cons (fun _ => nofun) (soundS _) (soundSs ss)
  | .cons (.own i e) ss => sss_cons (fun _ => nofun) (soundS _) (soundSs ss)
  | .cons (.app i e) ss => sss_cons (fun _ => nofun) (soundS _) (soundSs ss)
  | .cons (.appl o e) ss => sss_cons (fun _ => nofun) (soundS _) (soundSs ss)
  | .cons (.seti i k e) ss => sss_cons (fun _ => nofun) (soundS _) (soundSs ss)
  | .cons (.setl i k e) ss => sss_cons (fun _ => nofun) (soundS _) (soundSs ss)
  | .cons (.setd i k e) ss => sss_cons (fun _ => nofun) (soundS _) (soundSs ss)
  | .cons (.setf o f cs e) ss => sss_cons (fun _ => nofun) (soundS _) (soundSs ss)
  | .cons (.unl is e) ss => sss_cons (fun _ => nofun) (soundS _) (soundSs ss)
  | .cons (.setd2 o1 k1 o2 k2 e1 e2) ss => sss_cons (fun _ => nofun) (soundS _) (soundSs ss)
  | .cons (.forl t o b) ss => sss_cons (fun _ => nofun) (soundS _) (soundSs ss)
  | .cons (.par i k) ss => sss_cons (fun _ => nofun) (soundS _) (soundSs ss)
  | .cons (.ret e) ss => sss_cons (fun _ => nofun) (soundS _) (soundSs ss)
  | .cons .retn ss => sss_cons (fun _ => nofun) (soundS _) (soundSs ss)
  | .cons (.ite c a b) ss => sss_cons (fun _ => nofun) (soundS _) (soundSs ss)
  | .cons (.for_ t k i b) ss => sss_cons (fun _ => nofun) (soundS _) (soundSs ss)
  | .cons (.while_ c b) ss => sss_cons (fun _ => nofun) (soundS _) (soundSs ss)
  | .cons (.raise_ c b) ss => sss_cons (fun _ => nofun) (soundS _) (soundSs ss)
  | .cons (.rais c) ss => sss_cons (fun _ => nofun) (soundS _) (soundSs ss)
  | .cons (.try_ b c z) ss => sss_cons (fun _ => nofun) (soundS _) (soundSs ss)
  | .cons .brk ss => sss_cons (fun _ => nofun) (soundS _) (soundSs ss)
  | .cons .cont ss => sss_cons (fun _ => nofun) (soundS _) (soundSs ss)
  | .cons .pass ss => sss_cons (fun _ => nofun) (soundS _) (soundSs ss)
end
end
end LD

set_option Elab.async false
set_option linter.all false
set_option maxRecDepth 100000
set_option maxHeartbeats 2000000
/-! LD12: functions keep their promises. -/
namespace LD
open PySem PySem.Spec PyProof.Rows L2 HT

/-- where a function stands: its object, its data, its parameters -/
structure FnI where
  a : Addr
  fd : FuncData
  ps : List Str
/-- a def behind the top: its object, and that its body is the term b -/
structure DefOk (K : PySem.W.Frag) (i : FnI) (T : Tb) (b : Fn) : Prop where
  ex : ∃ (nm qual : Str) (params : Arguments) (body : List Stmt) (scope : Scope) (N : List Str) (kws : List (Str × V)), i.ps = N.take b.ps ∧ FunD K nm qual params body scope [] kws i.a i.fd ∧
    FnScope N (N.take b.ps) scope ∧ N.length = b.n ∧ b.ps ≤ b.n ∧ chkSs N T scope b.body body = true
section
variable {P : Program} {w : World} {K : PySem.W.Frag} {mg : Str → Option Value} {base : Heap} {ga : GA} {con : Str → Option D} {fn : Str → Option Fn} {fuel : Nat} {T : Tb}
theorem start_er {K : PySem.W.Frag} {ms : List Addr} {Γ H : Hp} {ds : List D} {vs : List V} {N : List Str} {b : Fn} (r : Reps K ga ms Γ ds vs) (hl : ds.length = b.ps) (hn : N.length = b.n) (hp : b.ps ≤ b.n) : ER K ga ms Γ H (ds.map Slot.val ++ List.replicate (b.n - b.ps) Slot.no) (L2.start N vs) := by
  have hv := r.length
  have noown : ∀ (i : Nat) (xs : List D), (ds.map Slot.val ++ List.replicate (b.n - b.ps) Slot.no)[i]? ≠ some (.own xs) := by
    intro i xs e
    by_cases hi : i < ds.length
    · rw [List.getElem?_append_left (by simpa using hi), List.getElem?_map] at e
      cases q : ds[i]? with
      | none => rw [q] at e; cases e
      | some d => rw [q] at e; cases e
    · rw [List.getElem?_append_right (by simpa using hi), List.getElem?_replicate] at e
      split at e <;> cases e
  refine ⟨?_, fun i s ov e1 e2 => ?_, fun i j xs ys a c ne e1 _ _ _ => absurd e1 (noown i xs)⟩
  · unfold L2.start
    simp only [List.length_append, List.length_map, List.length_replicate]
    omega
  · by_cases hi : i < ds.length
    · rw [List.getElem?_append_left (by simpa using hi), List.getElem?_map] at e1
      cases q : ds[i]? with
      | none => rw [q] at e1; cases e1
      | some d =>
        rw [q] at e1
        cases e1
        obtain ⟨v, q2, q3⟩ := r.get q
        unfold L2.start at e2
        rw [List.getElem?_append_left (by rw [List.length_map, ← hv]; exact hi), List.getElem?_map, q2] at e2
        cases e2
        exact ⟨v, rfl, q3⟩
    · rw [List.getElem?_append_right (by simpa using hi), List.getElem?_replicate] at e1
      split at e1
      · cases e1; trivial
      · cases e1
theorem visC_ok {sc : Scope} {x : Str} (h : visC sc x = true) : Vis sc x := by
  unfold visC at h
  split at h
  · rename_i e; exact .inl e
  · rename_i e; exact .inr (.inl e)
  · rename_i e; exact .inr (.inr e)
  · cases h
theorem locC_ok {sc : Scope} {x : Str} (h : locC sc x = true) : Loc sc x := by
  unfold locC at h
  split at h
  · rename_i e; exact .inl e
  · rename_i e; exact .inr e
  · cases h
theorem cfC_ok {sc : Scope} {x : Str} (h : cfC sc x = true) : sc.names.lookup x = some .cell ∨ sc.names.lookup x = some .free := by
  unfold cfC at h
  split at h
  · rename_i e; exact .inl e
  · rename_i e; exact .inr e
  · cases h
theorem glC_ok {sc : Scope} {x : Str} (h : glC sc x = true) : sc.names.lookup x = some .globalImplicit := by
  unfold glC at h
  split at h
  · rename_i e; exact e
  · cases h
section
open PySem (Env)
theorem hc_of {b n1 m : Str} {p1 p2 p3 p4 p5 : Pos} {jj : Nat} {env : PySem.Env} (hline : (p2.endLine == p5.line) = true) : eval (.Call (.Attribute (.Name b p1) "__init__" p2) [.Name n1 p3, .Constant (.str m) jj p4] [] p5) env = (do
      let ov ← eval (.Name b p1) env
      standAt p2.atName
      let (f, first) ← holding [ov] (getMethod ov "__init__" (do return (← importBound (.Name b p1) env).getD true))
      callWith p5 f first (backTo p5 (starEach [.Name n1 p3, .Constant (.str m) jj p4] env)) (backToKw p5 (keywordEach [] env))) := by
  rw [arm_eval_Call]
  have hpos : methodCallPos true (.Name b p1) env p2 p5 = pure p5 := by unfold methodCallPos; simp [hline]
  have hform : methodCallForm ([Expr.Name n1 p3, .Constant (.str m) jj p4].length + ([] : List Keyword).length) (backTo p5 (starEach [.Name n1 p3, .Constant (.str m) jj p4] env)) (backToKw p5 (keywordEach [] env)) = true := rfl
  unfold methodCall
  rw [hform, hpos]
  rfl
end
/-- the body of an own __init__: B.__init__(self, 'm'); self.f = x -/
def XiBody (K : PySem.W.Frag) (mg : Str → Option Value) (ga : GA) (bk : PySem.XLD.BK) (scope : Scope) (n1 n2 f : Str) (body : List Stmt) : Prop :=
  ∃ b p1 p2 p3 m j p4 p5 p6 p7 p8 p9 p10, body = [.Expr (.Call (.Attribute (.Name b p1) "__init__" p2) [.Name n1 p3, .Constant (.str m) j p4] [] p5) p6, .Assign [.Attribute (.Name n1 p7) f p8] (.Name n2 p9) p10] ∧
    (p2.endLine == p5.line) = true ∧ visC scope n1 = true ∧ visC scope n2 = true ∧ okName n1 = true ∧ okName n2 = true ∧ glC scope b = true ∧ okName b = true ∧
    ((mg b = none ∧ bootBuiltins b = some (.type bk.t) ∧ PySem.W.findCls K (.type bk.t) (.type "type") "__init__" = some (.val (.builtin bk.i))) ∨
      (mg b = some (.ref (ga b)) ∧ PySem.W.specialIn K (.ref (ga b)) "__getattribute__" = some (some (.builtin "type.__getattribute__")) ∧ PySem.W.readsIn K (ga b) (.type "type") = true ∧ PySem.W.findCls K (.ref (ga b)) (.type "type") "__init__" = some (.val (.builtin bk.i))))
structure XmS (K : PySem.W.Frag) (mg : Str → Option Value) (ga : GA) (c f : Str) : Prop where
  ex : ∃ (bk : PySem.XLD.BK) (fI : Addr) (fd : FuncData) (qual : Str) (params : Arguments) (body : List Stmt) (scope : Scope) (n1 n2 : Str), mg c = some (.ref (ga c)) ∧ PySem.XLD.Ox K (ga c) bk ∧ XfC K (ga c) ∧ PySem.W.findIn K (.ref (ga c)) f = some none ∧
    PySem.W.findIn K (.ref (ga c)) "__init__" = some (some (.ref fI)) ∧ PySem.W.typeIn K (.ref fI) = some (.type "function") ∧ FunD K "__init__" qual params body scope [] [] fI fd ∧ Binds K fd [n1, n2] [] ∧ FnScope [n1, n2] [n1, n2] scope ∧ XiBody K mg ga bk scope n1 n2 f body
theorem fn_xinit {bk : PySem.XLD.BK} {fI : Addr} {fd : FuncData} {qual : Str} {params : Arguments} {body : List Stmt} {scope : Scope} {n1 n2 c f : Str} {CX : CXT} {j : Nat} (O : PySem.XLD.Ox K (ga c) bk) (hno : PySem.W.findIn K (.ref (ga c)) f = some none)
    (F : FunD K "__init__" qual params body scope [] [] fI fd) (S : FnScope [n1, n2] [n1, n2] scope) (B : XiBody K mg ga bk scope n1 n2 f body) : FnOk P w K mg base CX (j + 1) fI fd [n1, n2] (LX.spXi (ga c) f) := by
  obtain ⟨b, p1, p2, p3, m, jj, p4, p5, p6, p7, p8, p9, p10, rfl, hln, v1, v2, o1, o2, g1, g2, alt⟩ := B
  refine F.ok S (fun vs H Q E ⟨a, y, e, _⟩ => by rw [e]; rfl) fun cdv A outer s H vs Q E hr hsp => ?_
  obtain ⟨a, y, rfl, ha, q⟩ := hsp
  obtain ⟨d1, d2, _⟩ := okName_debug o1
  obtain ⟨e1, e2, _⟩ := okName_debug o2
  obtain ⟨b1, b2, b3⟩ := okName_debug g2
  have pv1 : ∀ p, PE (cxOf CX P w K mg base [n1, n2] qual scope fI cdv A outer s H E) (.Name n1 p) (tVar 0) := fun p => pe_var (i := 0) rfl (visC_ok v1) d1 d2
  have pv2 : ∀ p, PE (cxOf CX P w K mg base [n1, n2] qual scope fI cdv A outer s H E) (.Name n2 p) (tVar 1) := fun p => pe_var (i := 1) rfl (visC_ok v2) e1 e2
  have pa : PA (cxOf CX P w K mg base [n1, n2] qual scope fI cdv A outer s H E) [.Name n1 p3, .Constant (.str m) jj p4] (tCons (tVar 0) (tCons (tC (.str m)) tNil)) := pa_cons (pv1 p3) (pa_cons pe_str pa_nil)
  have pc : PE (cxOf CX P w K mg base [n1, n2] qual scope fI cdv A outer s H E) (.Call (.Attribute (.Name b p1) "__init__" p2) [.Name n1 p3, .Constant (.str m) jj p4] [] p5) (LX.tXi K bk (tCons (tVar 0) (tCons (tC (.str m)) tNil))) := by
    rcases alt with ⟨a1, a2, a3⟩ | ⟨a1, a2, a3, a4⟩
    · exact LX.pe_xi (k := bk) (glC_ok g1) a1 a2 b3 b1 a3 pa (hc_of hln)
    · exact LX.pe_xic (k := bk) (glC_ok g1) a1 b1 a2 a3 a4 pa (hc_of hln)
  refine ⟨_, pss_cons (ps_expr pc) (pss_cons (LX.ps_xs (k := bk) (pv1 p7) (pv2 p9)) pss_nil), ?_⟩
  refine ⟨.ref a, rfl, a, ga c, [.str m], rfl, (by show 1 ≤ 1000; decide), O, ha, ?_⟩
  exact ⟨y, rfl, .ref a, rfl, a, ga c, rfl, O, hno, ha, fun dx n ne => q dx n ne⟩
/-- what the world holds: the defs, the constants, the built-in names, the classes -/
structure Wd (w : World) (K : PySem.W.Frag) (mg : Str → Option Value) (ga : GA) (con : Str → Option D) (fn : Str → Option Fn) (T : Tb) (I : Str → FnI) : Prop where
  hw : ga.w = w
  defs : ∀ f n, (f, n) ∈ T.al → ∃ b, fn f = some b ∧ b.ps = n ∧ DefOk K (I f) T b
  glo : ∀ f n, (f, n) ∈ T → n ≠ 1000 → (f, n) ∈ T.al ∧ mg f = some (.ref (I f).a) ∧ Binds K (I f).fd (I f).ps []
  blt : ∀ x ∈ bltNames, mg x = none
  con : ∀ x d, con x = some d → ∃ u v, mg x = some u ∧ RelV v u ∧ ∀ ms, Rep K ga ms (fun _ => none) d v
  xc : ∀ c, (c, 1000) ∈ T → XcAt K mg ga c
  xm : ∀ c f, (c, f) ∈ T.xm → XmS K mg ga c f
  xi : ∀ c t b, (c, t, b) ∈ T.xi → XiAt K mg ga c t b
  mt : ∀ c m f n, (c, m, f, n) ∈ T.mt → (f, n) ∈ T.al ∧ Cls K (ga c) ∧ Meth K (ga c) m (I f).a ∧ Binds K (I f).fd (I f).ps []
  pr : ∀ c m f, (c, m, f) ∈ T.pr → (f, 1) ∈ T.al ∧ Cls K (ga c) ∧ (∃ p, PropOf K (ga c) m p (I f).a) ∧ Binds K (I f).fd (I f).ps []
  nw : ∀ c f n ds, (c, f, n, ds) ∈ T.nw → (f, n) ∈ T.al ∧ mg c = some (.ref (ga c)) ∧ Mk K (ga c) (I f).a ∧ ∃ dv, Binds K (I f).fd (I f).ps dv ∧ Vals (ds.map Dfl.v) dv
  fl : ∀ c f, (c, f) ∈ T.fl → FlAt K ga c f
abbrev FnAll (P : Program) (w : World) (K : PySem.W.Frag) (mg : Str → Option Value) (base : Heap) (ga : GA) (con : Str → Option D) (fn : Str → Option Fn) (fuel : Nat) (T : Tb) (I : Str → FnI) (d : Nat) : Prop :=
  ∀ (f : Str) (n : Nat), (f, n) ∈ T.al → PySem.W.keepIn K (.ref (I f).a) = true ∧ (I f).ps.length = n ∧ FnOk P w K mg base (L2.CX P w) (3 * d + 2) (I f).a (I f).fd (I f).ps (spC K ga (callD con fn fuel d f))
theorem fn_step {I : Str → FnI} (Y : Wd w K mg ga con fn T I) {d : Nat} (ih : FnAll P w K mg base ga con fn fuel T I d) {f : Str} {b : Fn} (hb : fn f = some b) (DO : DefOk K (I f) T b) : FnOk P w K mg base (L2.CX P w) (3 * d + 4 + 1) (I f).a (I f).fd (I f).ps (spC K ga (callD con fn fuel (d + 1) f)) := by
  obtain ⟨nm, qual, params, body, scope, N, kws, h1, F, S, h5, h6, h7⟩ := DO.ex
  rw [h1]
  have hpl : (N.take b.ps).length = b.ps := by rw [List.length_take, h5]; omega
  have eq : ∀ ds μ, callD con fn fuel (d + 1) f ds μ = runF ⟨con, callD con fn fuel d⟩ fuel b ds μ := fun ds μ => by
    show (match fn f with
      | some b => runF ⟨con, callD con fn fuel d⟩ fuel b ds μ
      | none => .bad) = _
    rw [hb]
  have len : ∀ vs H Q E, spC K ga (callD con fn fuel (d + 1) f) vs H Q E → vs.length = (N.take b.ps).length := fun vs H Q E ⟨ms, Γ, μ, ds, _, r, z⟩ => by
    rw [eq] at z
    unfold runF at z
    by_cases hl : ds.length = b.ps
    · rw [hpl, ← hl, r.length]
    · rw [if_neg hl] at z
      exact z.elim
  generalize hia : (I f).a = a at F ⊢
  refine F.ok S len fun cdv A outer s H vs Q E hr hsp => ?_
  have tk : Takes (cxOf (L2.CX P w) P w K mg base N qual scope a cdv A outer s H E) (fun cls dd _ H => E cls dd H) := takes_of rfl rfl rfl rfl
  have po : PassesOwn (model P w) (cxOf (L2.CX P w) P w K mg base N qual scope a cdv A outer s H E).A (cxOf (L2.CX P w) P w K mg base N qual scope a cdv A outer s H E).env (cxOf (L2.CX P w) P w K mg base N qual scope a cdv A outer s H E).xe := passes_of (X := cxOf (L2.CX P w) P w K mg base N qual scope a cdv A outer s H E) rfl
  have gc : GC (cxOf (L2.CX P w) P w K mg base N qual scope a cdv A outer s H E) ga ⟨con, callD con fn fuel d⟩ N T scope := by
    refine ⟨rfl, S.nd, S.kind, fun x h => visC_ok h, fun x h => ⟨locC_ok h, .inl rfl⟩, fun x h => cfC_ok h, fun x h => glC_ok h, rfl, hr.units, Y.blt, Y.con, fun g m hg hn => ?_, Y.xc, fun c f hcf => ?_, Y.xi, Y.hw, fun c m g n hg => ?_, fun c m g hg => ?_, fun c g n ds hg => ?_, Y.fl⟩
    · obtain ⟨g1, g2, g5⟩ := Y.glo g m hg hn
      obtain ⟨g3, g4, g6⟩ := ih g m g1
      exact ⟨3 * d + 2, _, _, _, g2, g3, g4, g6, hr.mono (by omega), g5⟩
    · obtain ⟨bk, fI, fd', qual', params', body', scope', n1, n2, x1, x2, x3, x4, x5, x6, x7, x8, x9, x10⟩ := (Y.xm c f hcf).ex
      exact ⟨bk, 1, fI, fd', [n1, n2], x1, x2, x3, x4, x5, x6, fn_xinit (j := 0) x2 x4 x7 x9 x10, hr.mono (by omega), x8⟩
    · obtain ⟨g1, g2, g7, g5⟩ := Y.mt c m g n hg
      obtain ⟨g3, g4, g6⟩ := ih g n g1
      exact ⟨3 * d + 2, _, _, _, g2, g7, g4, g6, hr.mono (by omega), g5⟩
    · obtain ⟨g1, g2, ⟨p, g7⟩, g5⟩ := Y.pr c m g hg
      obtain ⟨g3, g4, g6⟩ := ih g 1 g1
      exact ⟨3 * d + 2, p, _, _, _, g2, g7, g4, g6, hr.mono (by omega), g5⟩
    · obtain ⟨g1, g2, g7, dv, g5, g8⟩ := Y.nw c g n ds hg
      obtain ⟨g3, g4, g6⟩ := ih g n g1
      exact ⟨3 * d + 2, _, _, _, dv, g2, g7, g4, g6, hr.mono (by omega), g5, g8⟩
  refine ⟨_, soundSs (fuel := fuel) b.body (cxOf (L2.CX P w) P w K mg base N qual scope a cdv A outer s H E) body _ ⟨gc, rfl, fun _ => rfl, tk, po, rfl, rfl⟩ h7, ?_⟩
  obtain ⟨ms, Γ, μ, ds, si, r, z⟩ := hsp
  rw [eq] at z
  unfold runF at z
  by_cases hl : ds.length = b.ps
  · rw [if_pos hl] at z
    refine ⟨⟨ms, Γ, H, ms, Γ⟩, ms, Γ, μ, _, ⟨After.refl si, fun _ _ e => e, List.prefix_rfl, start_er r hl h5 h6, fun i xs a' e => ?_⟩, ?_⟩
    · exfalso
      by_cases hi : i < ds.length
      · rw [List.getElem?_append_left (by simpa using hi), List.getElem?_map] at e
        cases q : ds[i]? with
        | none => rw [q] at e; cases e
        | some d => rw [q] at e; cases e
      · rw [List.getElem?_append_right (by simpa using hi), List.getElem?_replicate] at e
        split at e <;> cases e
    · cases e : exSs ⟨con, callD con fn fuel d⟩ fuel b.body (ds.map Slot.val ++ List.replicate (b.n - b.ps) Slot.no) μ with
      | nx ρ' μ' =>
        rw [e] at z
        exact fun ms' Γ' σ' H' F' => z _ _ _ _ F'.af (by unfold Rep; rfl)
      | ret d' μ' =>
        rw [e] at z
        exact fun ms' Γ' v H' A' _ _ r' => z v H' ms' Γ' A' r'
      | exc c fs ρ' μ' =>
        rw [e] at z
        exact fun ms' Γ' σ' H' cls dd F' r' => z cls dd H' ms' Γ' F'.af r'
      | brk ρ' μ' => rw [e] at z; exact z.elim
      | cont ρ' μ' => rw [e] at z; exact z.elim
      | bad => rw [e] at z; exact z.elim
  · rw [if_neg hl] at z
    exact z.elim
theorem fn_ok {I : Str → FnI} (Y : Wd w K mg ga con fn T I) : ∀ (d : Nat), FnAll P w K mg base ga con fn fuel T I d
  | 0, f, n, h => by
    obtain ⟨b, hb, hn, DO⟩ := Y.defs f n h
    obtain ⟨nm, qual, params, body, scope, N, kws, h1, F, S, h5, h6, h7⟩ := DO.ex
    have no : ∀ vs H Q E, ¬ spC K ga (callD con fn fuel 0 f) vs H Q E := fun vs H Q E ⟨ms, Γ, μ, ds, _, _, z⟩ => z
    exact ⟨F.kp, by rw [h1, List.length_take, h5, ← hn]; omega, ⟨fun vs H Q E z => (no _ _ _ _ z).elim, fun A outer s H args us vs Q E _ _ _ _ z => (no _ _ _ _ z).elim⟩⟩
  | d + 1, f, n, h => by
    obtain ⟨b, hb, hn, DO⟩ := Y.defs f n h
    obtain ⟨nm, qual, params, body, scope, N, kws, h1, F, S, h5, h6, h7⟩ := DO.ex
    exact ⟨F.kp, by rw [h1, List.length_take, h5, ← hn]; omega, fn_step Y (fn_ok Y d) hb DO⟩
/-- the law: called with its script -/
theorem law_sp {ns : List Int} {H : Hp} {a : Addr} {Q : VK} {E : XK} {c : List D → Store → Out D} (hz : ns.length ≤ sizeLine) (hS : SqL K H a (ns.map V.int)) {μ' : Store} (hc : c [.scr ns] [] = .ok (.bl true) μ') (hQ : ∀ H', Q (.bl true) H') : spC K ga c [.ref a] H Q E := by
  refine ⟨[], H, [], [.scr ns], ⟨fun _ _ e => e, rfl, fun l o a e => by simp at e, fun a h => (List.not_mem_nil h).elim, fun a h => (List.not_mem_nil h).elim, List.nodup_nil⟩, Reps.cons (by unfold Rep; exact ⟨a, rfl, hS, hz⟩) Reps.nil, ?_⟩
  rw [hc]
  intro v H' ms' Γ' A r
  unfold Rep at r
  rw [r]
  exact hQ H'
end
end LD

set_option Elab.async false
set_option linter.all false
set_option maxRecDepth 100000
set_option maxHeartbeats 2000000
/-! LD13: the head: what stands behind the top, and the end. -/
namespace LD
open PySem PySem.Spec PyProof.Rows L2 HT

theorem walk_ofL {l : PySem.W.OpenLaw} {n k : Nat} {q : Program} {loose : List Str} {XP : (Str → Option Value) → Heap → Prop} {YP : World → Heap → Prop} {d : DefRec} {CX : World → CXT} {x : Str}
    (hn : l.most = some n) (hn2 : n ≤ sizeLine) (hdf : d.params.defaults = []) (hr : Room k callerA)
    (F : ∀ (w : World) (mg : Str → Option Value) (fa : Addr) (h : Heap), YP w h → h.Ns mainGlobals mg → mg d.name = some (.ref fa) →
      ∃ (K : PySem.W.Frag) (fd : FuncData) (sp : Sp), K.In h ∧ (∀ (s : Shared) (u : Value), BindsTo s fd ⟨[u], []⟩ [(x, u)]) ∧
        (∀ (H : Hp) (a : Addr) (ns : List Int), ns.length ≤ n → Only H → SqL K H a (ns.map V.int) → sp [.ref a] H (fun v _ => v = .bl true) fun _ _ _ => False) ∧
        ∀ base : Heap, K.In base → base.Ns mainGlobals mg → FnOk l.prog w K mg base (CX w) k fa fd [x] sp)
    (hCX : ∀ (w : World) (H : Hp) (s : Shared) (e : Value) (s' : Shared), CX w [] H s (fun _ _ _ => False) e s' → False) :
    PySem.W.WalkO q loose XP YP l.row.toRowW d [] (fun f vs => PySem.call f vs) := by
  refine Att.attach_call hn hdf fun w s₀ s₁ mg mb fa o pm cd doc a vs ns G Y ho hd hcd hmg hobj hints hlen hg => ?_
  obtain ⟨K, fd, sp, KX, hb, hsp, hF⟩ := F w mg fa _ Y G.T.g hmg
  exact law_call KX G.T.g G.T.b G.T.builtins G.T.nolimit hg hobj hints (Nat.le_trans hlen hn2) hr hF hb (fun H hO hS => hsp H a ns hlen hO hS) fun H e s' => hCX w H s₁ e s'

/-! ### constants -/
mutual
def repB (K : PySem.W.Frag) : D → Value → Bool
  | .non, .none => true
  | .bl b, .bool c => b == c
  | .int i, .int j _ => decide (i = j)
  | .str s, .str t _ => decide (s = t) && decide (s.length ≤ LINE)
  | .tup xs, .ref a => (match K.lookup a with
    | some ⟨.type c, none, .seq its _, _⟩ => decide (c = "tuple") && (decide (its.size ≤ LINE) && repBs K xs its.toList)
    | _ => false)
  | .glob x, .ref a => decide (a = He.ga K x)
  | .ty n, .type m => decide (n = m)
  | _, _ => false
def repBs (K : PySem.W.Frag) : List D → List Value → Bool
  | [], [] => true
  | d :: ds, u :: us => repB K d u && repBs K ds us
  | _, _ => false
end
def gaK (K : PySem.W.Frag) (w : World) : GA := ⟨He.ga K, w⟩
mutual
theorem repB_ok {K : PySem.W.Frag} {w : World} {ms : List Addr} {Γ : Hp} : ∀ {d : D} {u : Value}, repB K d u = true → ∃ v, RelV v u ∧ Rep K (gaK K w) ms Γ d v
  | .non, u, h => by
    cases u with
    | none => exact ⟨.non, rfl, by unfold Rep; rfl⟩
    | _ => exact absurd h (by simp [repB])
  | .bl b, u, h => by
    cases u with
    | bool c =>
      have e : b = c := by simpa [repB] using h
      exact ⟨.bl b, by rw [e]; rfl, by unfold Rep; rfl⟩
    | _ => exact absurd h (by simp [repB])
  | .int i, u, h => by
    cases u with
    | int j t =>
      have e : i = j := by simpa [repB] using h
      exact ⟨.int i, ⟨t, by rw [e]⟩, by unfold Rep; rfl⟩
    | _ => exact absurd h (by simp [repB])
  | .str s, u, h => by
    cases u with
    | str z t =>
      have h := Bool.and_eq_true_iff.mp (show (decide (s = z) && decide (s.length ≤ LINE)) = true from h)
      have e := of_decide_eq_true h.1
      have e2 := of_decide_eq_true h.2
      rw [line_eq] at e2
      exact ⟨.str s, ⟨t, by rw [e]⟩, by unfold Rep; exact ⟨rfl, e2⟩⟩
    | _ => exact absurd h (by simp [repB])
  | .tup xs, u, h => by
    cases u with
    | ref a =>
      have h : (match K.lookup a with
        | some ⟨.type c, none, .seq its _, _⟩ => decide (c = "tuple") && (decide (its.size ≤ LINE) && repBs K xs its.toList)
        | _ => false) = true := h
      cases q : K.lookup a with
      | none => rw [q] at h; cases h
      | some o =>
        obtain ⟨oc, od, dt, osl⟩ := o
        rw [q] at h
        cases oc with
        | type c =>
          cases od with
          | none =>
            cases dt with
            | seq its n =>
              have h1 := Bool.and_eq_true_iff.mp (show (decide (c = "tuple") && (decide (its.size ≤ LINE) && repBs K xs its.toList)) = true from h)
              have h2 := Bool.and_eq_true_iff.mp h1.2
              obtain ⟨vs, r1, r2⟩ := repBs_ok (ms := ms) (Γ := Γ) h2.2
              have hz := of_decide_eq_true h2.1
              rw [line_eq] at hz
              refine ⟨.ref a, rfl, ?_⟩
              unfold Rep
              refine ⟨a, vs, rfl, .inr ⟨_, its, n, q, congrArg Value.type (of_decide_eq_true h1.1), rfl, rfl, hz, r1⟩, ?_, r2⟩
              rw [r2.length, r1.length]
              simpa using hz
            | _ => cases h
          | some a => cases dt <;> cases h
        | _ => cases od <;> cases dt <;> cases h
    | _ => exact absurd h (by simp [repB])
  | .lst _, u, h => by cases u <;> exact absurd h (by simp [repB])
  | .dct _, u, h => by cases u <;> exact absurd h (by simp [repB])
  | .ins _ _, u, h => by cases u <;> exact absurd h (by simp [repB])
  | .loc _, u, h => by cases u <;> exact absurd h (by simp [repB])
  | .scr _, u, h => by cases u <;> exact absurd h (by simp [repB])
  | .glob x, u, h => by
    cases u with
    | ref a =>
      have e : a = He.ga K x := of_decide_eq_true h
      exact ⟨.ref a, rfl, by unfold Rep; rw [e]; rfl⟩
    | _ => exact absurd h (by simp [repB])
  | .ty n, u, h => by
    cases u with
    | type m =>
      have e : n = m := of_decide_eq_true h
      exact ⟨.ty n, by rw [e]; rfl, by unfold Rep; rfl⟩
    | _ => exact absurd h (by simp [repB])
theorem repBs_ok {K : PySem.W.Frag} {w : World} {ms : List Addr} {Γ : Hp} : ∀ {ds : List D} {us : List Value}, repBs K ds us = true → ∃ vs, Vals vs us ∧ Reps K (gaK K w) ms Γ ds vs
  | [], [], _ => ⟨[], .nil, Reps.nil⟩
  | [], _ :: _, h => by simp [repBs] at h
  | _ :: _, [], h => by simp [repBs] at h
  | d :: ds, u :: us, h => by
    have h := Bool.and_eq_true_iff.mp (show (repB K d u && repBs K ds us) = true from h)
    obtain ⟨v, r1, r2⟩ := repB_ok h.1
    obtain ⟨vs, r3, r4⟩ := repBs_ok h.2
    exact ⟨v :: vs, .cons r1 r3, Reps.cons r2 r4⟩
end
def vOf : Value → V
  | .none => .non
  | .bool b => .bl b
  | .int i _ => .int i
  | .str s _ => .str s
  | .bytes b _ => .byt b
  | .float f _ => .flt f
  | .ref a => .ref a
  | .type n => .ty n
  | _ => .non
theorem rel_vOf : ∀ {v : V} {u : Value}, L2.RelV v u → v = vOf u
  | .non, _, h => by rw [show _ = Value.none from h]; rfl
  | .bl b, _, h => by rw [show _ = Value.bool b from h]; rfl
  | .int i, _, ⟨t, h⟩ => by rw [h]; rfl
  | .str i, _, ⟨t, h⟩ => by rw [h]; rfl
  | .byt i, _, ⟨t, h⟩ => by rw [h]; rfl
  | .flt i, _, ⟨t, h⟩ => by rw [h]; rfl
  | .ref a, _, h => by rw [show _ = Value.ref a from h]; rfl
  | .ty n, _, h => by rw [show _ = Value.type n from h]; rfl
theorem rel_uniq {v v' : V} {u : Value} (h : L2.RelV v u) (h' : L2.RelV v' u) : v = v' := (rel_vOf h).trans (rel_vOf h').symm
def conB (K : PySem.W.Frag) (p : Str × D) : Bool := match PySem.W.nsIn K mainGlobals p.1 with
  | some (some u) => repB K p.2 u
  | _ => false
/-! ### exception classes with own __init__; isinstance of exceptions -/
def clsBody (s : Stmt) : List Stmt := match s with
  | .ClassDef _ _ _ b _ _ _ _ _ _ _ => b
  | _ => []
structure Xm where
  c : Str
  f : Str
  bk : PySem.XLD.BK
  b : Str
  own : Bool
  qual : Str
  params : Arguments
  body : List Stmt
  scope : Scope
  n1 : Str
  n2 : Str
def Xm.dd (m : Xm) : He5.DefA := ⟨fun K => He.fAd K (m.c, some "__init__"), "__init__", m.qual, m.params, m.body, m.scope, [], []⟩
def isG (K : PySem.W.Frag) (x : Str) : Bool := He.eqO (PySem.W.nsIn K mainGlobals x) (some (some (.ref (He.ga K x))))
def Xm.okK (K : PySem.W.Frag) (m : Xm) : Bool := isG K m.c && (PySem.XLD.oxB K (He.ga K m.c) m.bk && (xfB K (He.ga K m.c) && (He.eqO (PySem.W.findIn K (.ref (He.ga K m.c)) m.f) (some none) &&
  (He.eqO (PySem.W.findIn K (.ref (He.ga K m.c)) "__init__") (some (some (.ref (He.fAd K (m.c, some "__init__"))))) && (decide (PySem.W.typeIn K (.ref (He.fAd K (m.c, some "__init__"))) = some (.type "function")) &&
  (if m.own then isG K m.b && (decide (PySem.W.specialIn K (.ref (He.ga K m.b)) "__getattribute__" = some (some (.builtin "type.__getattribute__"))) && (PySem.W.readsIn K (He.ga K m.b) (.type "type") && (match PySem.W.findCls K (.ref (He.ga K m.b)) (.type "type") "__init__" with
      | some (.val v) => decide (v = .builtin m.bk.i)
      | _ => false)))
    else He.eqO (PySem.W.nsIn K mainGlobals m.b) (some none) && (match PySem.W.findCls K (.type m.bk.t) (.type "type") "__init__" with
      | some (.val v) => decide (v = .builtin m.bk.i)
      | _ => false)))))))
def bodyC (m : Xm) : Bool := match m.body with
  | [.Expr (.Call (.Attribute (.Name b _) a p2) [.Name x1 _, .Constant (.str _) _ _] [] p5) _, .Assign [.Attribute (.Name x2 _) f _] (.Name x3 _) _] => decide (b = m.b) && decide (a = ("__init__" : Str)) && decide (x1 = m.n1) && decide (x2 = m.n1) && decide (f = m.f) && decide (x3 = m.n2) && (p2.endLine == p5.line)
  | _ => false
def Xm.ok (m : Xm) : Bool := decide (m.scope.kind = .function) && !m.scope.isCoroutine && !m.scope.isGenerator && decide ([m.n1, m.n2] : List Str).Nodup && (([m.n1, m.n2] : List Str).all fun x => decide (m.scope.names.lookup x = some .local)) &&
  (m.scope.names.all fun y => decide (y.2 ≠ .free)) && bodyC m && okName m.n1 && okName m.n2 && glC m.scope m.b && okName m.b && (m.own || decide (m.b = Str.ofString m.bk.t))
def Xm.binds (m : Xm) : Prop := ∀ (kV doc pm : Value) (an : Option Addr) (cdv ct : Value) (us : List Value), us.length = ([m.n1, m.n2] : List Str).length → bindArgs (PySem.W.fnOf "__init__" m.qual m.params m.body m.scope .none kV doc pm an cdv ct) ⟨us, []⟩ = pure (([m.n1, m.n2] : List Str).zip us)
def xiK (K : PySem.W.Frag) (q : Str × XT × Bool) : Bool := (match q.2.1 with | .own n => isG K n | .blt _ => true) && (decide (PySem.W.kitOne K (.ref (He.ga K q.1)) (q.2.1.val (He.ga K)) = some q.2.2))
/-- what isinstance wants of a class -/
def xcK (K : PySem.W.Frag) (c : Str) : Bool := (PySem.W.clsIn K (He.ga K c)).isSome && (decide (PySem.W.findIn K (.ref (He.ga K c)) "__getattribute__" = some (some (.builtin "BaseException.__getattribute__"))) && (decide (PySem.W.findIn K (.ref (He.ga K c)) "__getattr__" = some none) &&
  (decide (PySem.W.subIn K (.ref (He.ga K c)) (.type "BaseException") = some true) && (decide (PySem.W.findIn K (.ref (He.ga K c)) "__class__" = some (some (.builtin "object.__class__"))) && (decide (PySem.W.specialIn K (.builtin "object.__class__") "__get__" = some (some (.builtin "getset_descriptor.__get__"))) &&
  (decide (PySem.W.takesIn K (.builtin "object.__class__") = some true) && decide (PySem.W.mroIn K (He.ga K c) (.type "object") = some true)))))))
/-- the classes, their isinstance -/
structure Xs where
  ms : List Xm := []
  ic : List Str := []
  xi : List (Str × XT × Bool) := []
def Xs.okK (K : PySem.W.Frag) (X : Xs) : Bool := X.ms.all (Xm.okK K) && (X.ic.all (xcK K) && X.xi.all (xiK K))
def Xs.ok (X : Xs) : Bool := X.ms.all Xm.ok && X.xi.all fun q => X.ic.contains q.1
/-! ### the table of a law's defs -/
def Dfl.dv : Dfl → He.Dv
  | .non => .non
  | .bl b => .bl b
  | .int i => .int i
theorem dfl_v (K : PySem.W.Frag) (d : Dfl) : (Dfl.dv d).v K = d.v := by cases d <;> rfl
structure Ent where
  f : Str
  glob : Bool
  at_ : PySem.W.Frag → Addr
  name : Str
  params : Arguments
  body : List Stmt
  scope : Scope
  N : List Str
  b : Fn
  kwd : List (Str × Dfl) := []
def Ent.dd (e : Ent) : He5.DefA := ⟨e.at_, e.name, e.f, e.params, e.body, e.scope, [], e.kwd.map fun q => (q.1, q.2.dv)⟩
def Ent.ps (e : Ent) : List Str := e.N.take e.b.ps
def Ent.ok (T : Tb) (e : Ent) : Bool := decide (e.scope.kind = .function) && !e.scope.isCoroutine && !e.scope.isGenerator && decide e.N.Nodup && (e.ps.all fun x => decide (e.scope.names.lookup x = some .local) || decide (e.scope.names.lookup x = some .cell)) &&
  (e.scope.names.all fun y => decide (y.2 ≠ .free)) && decide (e.N.length = e.b.n) && decide (e.b.ps ≤ e.b.n) && chkSs e.N T e.scope e.b.body e.body
def Ent.binds (e : Ent) : Prop := (e.kwd = [] → ∀ (kV doc pm : Value) (an : Option Addr) (cdv ct : Value) (us : List Value), us.length = e.ps.length → bindArgs (PySem.W.fnOf e.name e.f e.params e.body e.scope .none kV doc pm an cdv ct) ⟨us, []⟩ = pure (e.ps.zip us)) ∧
  (e.kwd ≠ [] → ∀ (D : Addr) (doc pm : Value) (an : Option Addr) (cdv ct : Value) (us ks : List Value), us.length + e.kwd.length = e.ps.length → ks.length = e.kwd.length →
    KwChain D ((e.kwd.map (·.1)).zip ks) (bindArgs (PySem.W.fnOf e.name e.f e.params e.body e.scope .none (.ref D) doc pm an cdv ct) ⟨us, []⟩) (e.ps.zip (us ++ ks)))
/-- classes that are made -/
structure Cl where
  mt : List (Str × Str × Str × Nat) := []
  pr : List (Str × Str × Str) := []
  nw : List (Str × Str × Nat × List Dfl) := []
  fl : List (Str × Str) := []
def adr (es : List Ent) (K : PySem.W.Frag) (f : Str) : Addr := match (es.map fun e => (e.f, e.at_)).lookup f with
  | some a => a K
  | none => 0
def clsK (K : PySem.W.Frag) (c : Str) : Bool := (He.Fa.cls c).ok K
def methK (es : List Ent) (K : PySem.W.Frag) (q : Str × Str × Str × Nat) : Bool := clsK K q.1 && (He.eqO (PySem.W.findIn K (.ref (He.ga K q.1)) q.2.1) (some (some (.ref (adr es K q.2.2.1)))) && (PySem.W.isFn K (.ref (adr es K q.2.2.1)) && PySem.W.keepIn K (.ref (adr es K q.2.2.1))))
def propK (es : List Ent) (K : PySem.W.Frag) (q : Str × Str × Str) : Bool := clsK K q.1 && (He.eqO (PySem.W.findIn K (.ref (He.ga K q.1)) q.2.1) (some (some (.ref (He.ma K (He.ga K q.1) q.2.1)))) && (decide (PySem.W.specialIn K (.ref (He.ma K (He.ga K q.1) q.2.1)) "__get__" = some (some (.builtin "property.__get__"))) &&
  (decide (PySem.W.takesIn K (.ref (He.ma K (He.ga K q.1) q.2.1)) = some true) && (match PySem.W.recIn K (He.ma K (He.ga K q.1) q.2.1) "property" with
    | some (.ref g :: _) => decide (g = adr es K q.2.2)
    | _ => false))))
def newK (es : List Ent) (K : PySem.W.Frag) (q : Str × Str × Nat × List Dfl) : Bool := isG K q.1 && (PySem.W.makesIn K (He.ga K q.1) && (He.eqO (PySem.W.findIn K (.ref (He.ga K q.1)) "__init__") (some (some (.ref (adr es K q.2.1)))) && (PySem.W.isFn K (.ref (adr es K q.2.1)) && PySem.W.keepIn K (.ref (He.ga K q.1)))))
def fldK (K : PySem.W.Frag) (q : Str × Str) : Bool := clsK K q.1 && (He.Fa.noat q.1 q.2).ok K
def Cl.okK (es : List Ent) (K : PySem.W.Frag) (c : Cl) : Bool := c.mt.all (methK es K) && (c.pr.all (propK es K) && (c.nw.all (newK es K) && c.fl.all (fldK K)))
def entAt (es : List Ent) (f : Str) : Option Ent := (es.map fun e => (e.f, e)).lookup f
/-- what the tables say of the defs -/
def Cl.ok (es : List Ent) (c : Cl) : Bool := (c.mt.all fun q => match entAt es q.2.2.1 with | some e => decide (e.b.ps = q.2.2.2) && e.kwd.isEmpty | none => false) &&
  ((c.pr.all fun q => match entAt es q.2.2 with | some e => decide (e.b.ps = 1) && e.kwd.isEmpty | none => false) &&
  ((c.nw.all fun q => match entAt es q.2.1 with | some e => decide (e.b.ps = q.2.2.1) && decide (e.kwd.map (·.2) = q.2.2.2) && decide (e.kwd.length ≤ e.b.ps) | none => false) && (es.all fun e => !e.glob || e.kwd.isEmpty)))
def tabT (es : List Ent) (xs : List Str) (ys : Xs := {}) (c : Cl := {}) : Tb := ⟨((es.filter (·.glob)).map fun e => (e.f, e.b.ps)) ++ xs.map fun x => (x, 1000), ys.ms.map fun m => (m.c, m.f), ys.xi, es.map fun e => (e.f, e.b.ps), c.mt, c.pr, c.nw, c.fl⟩
def tabF (es : List Ent) (x : Str) : Option Fn := (es.map fun e => (e.f, e.b)).lookup x
def tabC (cs : List (Str × D)) (x : Str) : Option D := cs.lookup x
/-! ### the Hook -/
abbrev AlL := He.AlD
def obsL (fa : List He.Fa) (fn : List He5.DefA) (cs : List (Str × D)) (xs : Xs) (es : List Ent) (cl : Cl) (K : PySem.W.Frag) : AlL := (((fa.all fun f => f.ok K) && fn.all fun d => d.ok K) && ((cs.all (conB K) && xs.okK K) && cl.okK es K), fn.map fun d => He5.fnA K (d.at_ K))
def obsLG (n : Nat) (fa : List He.Fa) (fn : List He5.DefA) (cs : List (Str × D)) (xs : Xs) (es : List Ent) (cl : Cl) (g : Addr → Option Obj) : AlL := obsL fa fn cs xs es cl (He.frG g (He.asD g n ++ [PySem.cStatics]))
def hookL (n : Nat) (fa : List He.Fa) (fn : List He5.DefA) (cs : List (Str × D)) (xs : Xs) (es : List Ent) (cl : Cl) : PySem.W.Hook where
  α := AlL
  obs := fun s => obsLG n fa fn cs xs es cl s.heap.get?
  val := fun _ => He5.valA fn
  says := fun _ h => ∃ K : PySem.W.Frag, K.In h ∧ obsL fa fn cs xs es cl K = He5.valA fn
  of := fun _ _ e => ⟨_, He.frG_in, e⟩
  keeps := fun _ _ _ ⟨K, hK, c⟩ k => ⟨K, PySem.W.Frag.In.keeps hK k, c⟩
theorem obsLG_eq {n : Nat} {fa : List He.Fa} {fn : List He5.DefA} {cs : List (Str × D)} {xs : Xs} {es : List Ent} {cl : Cl} {g : Addr → Option Obj} {s : Shared} (h : ∀ a, g a = s.heap.get? a) : obsLG n fa fn cs xs es cl g = (hookL n fa fn cs xs es cl).obs s := by
  have e : g = s.heap.get? := funext h
  rw [e] <;> rfl
theorem saysL {fa : List He.Fa} {fn : List He5.DefA} {cs : List (Str × D)} {xs : Xs} {es : List Ent} {cl : Cl} {K : PySem.W.Frag} (c : obsL fa fn cs xs es cl K = He5.valA fn) : He5.SaysA fa fn K ∧ cs.all (conB K) = true ∧ xs.okK K = true ∧ cl.okK es K = true := by
  have c1 := Bool.and_eq_true_iff.mp (show (((fa.all fun f => f.ok K) && fn.all fun d => d.ok K) && ((cs.all (conB K) && xs.okK K) && cl.okK es K)) = true from congrArg (fun z : AlL => z.1) c)
  obtain ⟨c3, c4⟩ := Bool.and_eq_true_iff.mp c1.2
  obtain ⟨c5, c6⟩ := Bool.and_eq_true_iff.mp c3
  refine ⟨?_, c5, c6, c4⟩
  have c2 : fn.map (fun d => He5.fnA K (d.at_ K)) = fn.map He5.DefA.val := congrArg (fun z : AlL => z.2) c
  show (((fa.all fun f => f.ok K) && fn.all fun d => d.ok K), fn.map fun d => He5.fnA K (d.at_ K)) = He5.valA fn
  rw [c1.1, c2]
  rfl
theorem Ent.ok_scope {T : Tb} {e : Ent} (h : e.ok T = true) : FnScope e.N e.ps e.scope ∧ e.N.length = e.b.n ∧ e.b.ps ≤ e.b.n ∧ chkSs e.N T e.scope e.b.body e.body = true := by
  unfold Ent.ok at h
  simp only [Bool.and_eq_true] at h
  obtain ⟨⟨⟨⟨⟨⟨⟨⟨h1, h2⟩, h3⟩, h4⟩, h5⟩, h6⟩, h7⟩, h8⟩, h9⟩ := h
  have h7 := of_decide_eq_true h7
  have h8 := of_decide_eq_true h8
  refine ⟨⟨of_decide_eq_true h1, by simpa using h2, by simpa using h3, of_decide_eq_true h4, ?_, fun x hx => ?_, fun y hy => of_decide_eq_true (List.all_eq_true.mp h6 y hy)⟩, h7, h8, h9⟩
  · unfold Ent.ps
    rw [List.length_take, h7, Nat.min_eq_left h8]
  · have z := List.all_eq_true.mp h5 x hx
    rw [Bool.or_eq_true] at z
    rcases z with z | z
    · exact .inl (of_decide_eq_true z)
    · exact .inr (of_decide_eq_true z)
theorem lookup_mem {α β : Type} [BEq α] [LawfulBEq α] {x : α} {y : β} : ∀ {l : List (α × β)}, (l.map (·.1)).Nodup → (x, y) ∈ l → l.lookup x = some y
  | [], _, h => (List.not_mem_nil h).elim
  | (a, b) :: l, nd, h => by
    rw [List.map_cons, List.nodup_cons] at nd
    rw [List.lookup_cons]
    rcases List.mem_cons.mp h with h' | h'
    · cases h'
      simp
    · have ne : (x == a) = false := by
        simp only [beq_eq_false_iff_ne]
        intro e
        subst e
        exact nd.1 (List.mem_map.mpr ⟨(x, y), h', rfl⟩)
      rw [ne]
      exact lookup_mem nd.2 h'
section
variable {w : World} {K : PySem.W.Frag} {mg : Str → Option Value} {h : Heap}
/-- facts of the Hook for the table -/
def faX (x : Str) : List He.Fa := [.glo x, .exc x, .exm x x true]
def faL (es : List Ent) (xs : List Str) : List He.Fa := ((es.filter (·.glob)).map fun e => He.Fa.glo e.f) ++ (bltNames.map He.Fa.free ++ xs.flatMap faX)
abbrev Obs (es : List Ent) (xs : List Str) (cs : List (Str × D)) (ys : Xs) (cl : Cl) (K : PySem.W.Frag) : Prop := obsL (faL es xs) (es.map Ent.dd ++ ys.ms.map Xm.dd) cs ys es cl K = He5.valA (es.map Ent.dd ++ ys.ms.map Xm.dd)
theorem ent_def {es : List Ent} {xs : List Str} {cs : List (Str × D)} {ys : Xs} {cl : Cl} (c : Obs es xs cs ys cl K) {e : Ent} (he : e ∈ es) : ∃ fd, FunD K e.name e.f e.params e.body e.scope [] (e.dd.kws K) (e.at_ K) fd := by
  obtain ⟨c1, c2⟩ := saysL c
  obtain ⟨i, hi, q⟩ := List.mem_iff_getElem.mp he
  have q' : es[i]? = some e := by rw [List.getElem?_eq_getElem hi, q]
  obtain ⟨fd, F⟩ := c1.def_ i (d := e.dd) (by rw [List.getElem?_append_left (by simpa using hi), List.getElem?_map, q']; rfl)
  exact ⟨fd, F⟩
theorem ent_glo {es : List Ent} {xs : List Str} {cs : List (Str × D)} {ys : Xs} {cl : Cl} (X : K.In h) (G : h.Ns mainGlobals mg) (c : Obs es xs cs ys cl K) {e : Ent} (he : e ∈ es) (hg : e.glob = true) : mg e.f = some (.ref (He.ga K e.f)) := by
  obtain ⟨c1, c2⟩ := saysL c
  have hm : He.Fa.glo e.f ∈ faL es xs := List.mem_append_left _ (List.mem_map.mpr ⟨e, List.mem_filter.mpr ⟨he, hg⟩, rfl⟩)
  obtain ⟨i, hi, q⟩ := List.mem_iff_getElem.mp hm
  exact He.glo_ok X G (c1.fact i (f := .glo e.f) (by rw [List.getElem?_eq_getElem hi, q]))
theorem ba {a b : Bool} (h : (a && b) = true) : a = true ∧ b = true := Bool.and_eq_true_iff.mp h
theorem xm_of {m : Xm} {fd : FuncData} (X : K.In h) (G : h.Ns mainGlobals mg) (hK : m.okK K = true) (ho : m.ok = true) (hb : m.binds) (F : FunD K "__init__" m.qual m.params m.body m.scope [] [] (He.fAd K (m.c, some "__init__")) fd) : XmS K mg (gaK K w) m.c m.f := by
  unfold Xm.okK at hK
  obtain ⟨k1, hK⟩ := ba hK
  obtain ⟨k2, hK⟩ := ba hK
  obtain ⟨k3, hK⟩ := ba hK
  obtain ⟨k4, hK⟩ := ba hK
  obtain ⟨k5, hK⟩ := ba hK
  obtain ⟨k6, k7⟩ := ba hK
  unfold Xm.ok at ho
  simp only [Bool.and_eq_true] at ho
  obtain ⟨⟨⟨⟨⟨⟨⟨⟨⟨⟨⟨h1, h2⟩, h3⟩, h4⟩, h5⟩, h6⟩, h7⟩, h8⟩, h9⟩, h10⟩, h11⟩, h12⟩ := ho
  have loc : ∀ x ∈ ([m.n1, m.n2] : List Str), m.scope.names.lookup x = some .local := fun x hx => of_decide_eq_true (List.all_eq_true.mp h5 x hx)
  have vis : ∀ x ∈ ([m.n1, m.n2] : List Str), visC m.scope x = true := fun x hx => by unfold visC; rw [loc x hx]
  refine ⟨m.bk, He.fAd K (m.c, some "__init__"), fd, m.qual, m.params, m.body, m.scope, m.n1, m.n2, PySem.W.mg_of X G (He.eqO_ok k1), PySem.XLD.oxB_ok k2, xfB_ok k3, He.eqO_ok k4, He.eqO_ok k5, of_decide_eq_true k6, F, FunD.bindsN (ps := [m.n1, m.n2]) F hb, ?_, ?_⟩
  · refine ⟨of_decide_eq_true h1, by simpa using h2, by simpa using h3, of_decide_eq_true h4, rfl, fun x hx => .inl (loc x hx), fun y hy => of_decide_eq_true (List.all_eq_true.mp h6 y hy)⟩
  · have alt : (mg m.b = none ∧ bootBuiltins m.b = some (.type m.bk.t) ∧ PySem.W.findCls K (.type m.bk.t) (.type "type") "__init__" = some (.val (.builtin m.bk.i))) ∨
      (mg m.b = some (.ref (He.ga K m.b)) ∧ PySem.W.specialIn K (.ref (He.ga K m.b)) "__getattribute__" = some (some (.builtin "type.__getattribute__")) ∧ PySem.W.readsIn K (He.ga K m.b) (.type "type") = true ∧ PySem.W.findCls K (.ref (He.ga K m.b)) (.type "type") "__init__" = some (.val (.builtin m.bk.i))) := by
      split at k7
      · obtain ⟨z1, k7⟩ := ba k7
        obtain ⟨z2, k7⟩ := ba k7
        obtain ⟨z3, z4⟩ := ba k7
        refine .inr ⟨PySem.W.mg_of X G (He.eqO_ok z1), of_decide_eq_true z2, z3, ?_⟩
        split at z4
        · rename_i e; rw [e, of_decide_eq_true z4]
        · cases z4
      · rename_i ow
        obtain ⟨z1, z4⟩ := ba k7
        have hbn : m.b = Str.ofString m.bk.t := by
          rcases Bool.or_eq_true_iff.mp h12 with z | z
          · exact absurd z ow
          · exact of_decide_eq_true z
        refine .inl ⟨PySem.W.mg_none_of X G (He.eqO_ok z1), ?_, ?_⟩
        · rw [hbn]
          have key : ∀ k : PySem.XLD.BK, bootBuiltins (Str.ofString k.t) = some (.type k.t) := by intro k; cases k <;> decide +kernel
          exact key _
        · split at z4
          · rename_i e; rw [e, of_decide_eq_true z4]
          · cases z4
    unfold bodyC at h7
    split at h7
    · rename_i hbd
      simp only [Bool.and_eq_true] at h7
      obtain ⟨⟨⟨⟨⟨⟨e1, e2⟩, e3⟩, e4⟩, e5⟩, e6⟩, e7⟩ := h7
      have e1 := of_decide_eq_true e1
      have e2 := of_decide_eq_true e2
      have e3 := of_decide_eq_true e3
      have e4 := of_decide_eq_true e4
      have e5 := of_decide_eq_true e5
      have e6 := of_decide_eq_true e6
      rw [e1, e2, e3, e4, e5, e6] at hbd
      exact ⟨m.b, _, _, _, _, _, _, _, _, _, _, _, _, hbd, e7, vis _ (by simp), vis _ (by simp), h8, h9, h10, h11, alt⟩
    · cases h7
theorem xi_of {q : Str × XT × Bool} (X : K.In h) (G : h.Ns mainGlobals mg) (hc : xcK K q.1 = true) (hK : xiK K q = true) : XiAt K mg (gaK K w) q.1 q.2.1 q.2.2 := by
  unfold xcK at hc
  obtain ⟨k1, hc⟩ := ba hc
  obtain ⟨k2, hc⟩ := ba hc
  obtain ⟨k3, hc⟩ := ba hc
  obtain ⟨k4, hc⟩ := ba hc
  obtain ⟨k5, hc⟩ := ba hc
  obtain ⟨k6, hc⟩ := ba hc
  obtain ⟨k7, k8⟩ := ba hc
  unfold xiK at hK
  obtain ⟨z1, z2⟩ := ba hK
  refine ⟨fun n e => ?_, of_decide_eq_true z2, k1, of_decide_eq_true k2, of_decide_eq_true k3, of_decide_eq_true k4, of_decide_eq_true k5, of_decide_eq_true k6, of_decide_eq_true k7, of_decide_eq_true k8⟩
  rw [e] at z1
  exact PySem.W.mg_of X G (He.eqO_ok z1)
theorem nodup_inj {α β : Type} {f : α → β} : ∀ {l : List α}, (l.map f).Nodup → ∀ a ∈ l, ∀ b ∈ l, f a = f b → a = b
  | [], _, a, ha, _, _, _ => (List.not_mem_nil ha).elim
  | x :: l, nd, a, ha, b, hb, e => by
    rw [List.map_cons, List.nodup_cons] at nd
    have h1 := List.mem_cons.mp ha
    have h2 := List.mem_cons.mp hb
    clear ha hb
    rcases h1 with h1 | h1
    · rcases h2 with h2 | h2
      · rw [h1, h2]
      · exact absurd (List.mem_map.mpr ⟨b, h2, by rw [← e, h1]⟩) nd.1
    · rcases h2 with h2 | h2
      · exact absurd (List.mem_map.mpr ⟨a, h1, by rw [e, h2]⟩) nd.1
      · exact nodup_inj nd.2 a h1 b h2 e
theorem entAt_some {es : List Ent} {f : Str} {e : Ent} (h : entAt es f = some e) : e ∈ es ∧ e.f = f := by
  unfold entAt at h
  have m := PySem.mem_of_lookup h
  obtain ⟨e', he', q⟩ := List.mem_map.mp m
  cases q
  exact ⟨he', rfl⟩
theorem kws_snd {K : PySem.W.Frag} (e : Ent) : (e.dd.kws K).map (·.2) = (e.kwd.map (·.2)).map Dfl.v := by
  unfold He5.DefA.kws Ent.dd
  rw [List.map_map, List.map_map, List.map_map]
  apply List.map_congr_left
  intro q _
  exact dfl_v K q.2
theorem kws_fst {K : PySem.W.Frag} (e : Ent) : (e.dd.kws K).map (·.1) = e.kwd.map (·.1) := by
  unfold He5.DefA.kws Ent.dd
  rw [List.map_map, List.map_map]
  rfl
theorem kws_len {K : PySem.W.Frag} (e : Ent) : (e.dd.kws K).length = e.kwd.length := by
  unfold He5.DefA.kws Ent.dd
  rw [List.length_map, List.length_map]
/-- the defs' data, chosen -/
theorem info_of {es : List Ent} {xs : List Str} {cs : List (Str × D)} {ys : Xs} {cl : Cl} (c : Obs es xs cs ys cl K) (nd : (es.map Ent.f).Nodup) {e0 : Ent} (he0 : e0 ∈ es) :
    ∃ I : Str → FnI, ∀ e ∈ es, (I e.f).a = e.at_ K ∧ (I e.f).ps = e.ps ∧ FunD K e.name e.f e.params e.body e.scope [] (e.dd.kws K) (I e.f).a (I e.f).fd := by
  have all : ∀ f : Str, ∃ i : FnI, ∀ e ∈ es, e.f = f → i.a = e.at_ K ∧ i.ps = e.ps ∧ FunD K e.name e.f e.params e.body e.scope [] (e.dd.kws K) i.a i.fd := fun f => by
    by_cases hf : ∃ e ∈ es, e.f = f
    · obtain ⟨e, he, q⟩ := hf
      obtain ⟨fd, F⟩ := ent_def c he
      refine ⟨⟨e.at_ K, fd, e.ps⟩, fun e' he' q' => ?_⟩
      have := nodup_inj nd e he e' he' (q.trans q'.symm)
      subst this
      exact ⟨rfl, rfl, F⟩
    · obtain ⟨fd, F⟩ := ent_def c he0
      exact ⟨⟨0, fd, []⟩, fun e' he' q' => absurd ⟨e', he', q'⟩ hf⟩
  obtain ⟨I, hI⟩ := Classical.axiomOfChoice all
  exact ⟨I, fun e he => hI e.f e he rfl⟩
theorem wd_of {es : List Ent} {xs : List Str} {cs : List (Str × D)} {ys : Xs} {cl : Cl} {I : Str → FnI} (X : K.In h) (G : h.Ns mainGlobals mg) (c : Obs es xs cs ys cl K) (nd : (es.map Ent.f).Nodup) (hok : es.all (Ent.ok (tabT es xs ys cl)) = true) (hb : ∀ e ∈ es, e.binds) (hgl : ∀ e ∈ es, e.glob = true → e.at_ K = He.ga K e.f) (hps : es.all (fun e => decide (e.b.ps ≠ 1000)) = true)
    (yok : ys.ok = true) (yb : ∀ m ∈ ys.ms, m.binds) (clok : cl.ok es = true) (hI : ∀ e ∈ es, (I e.f).a = e.at_ K ∧ (I e.f).ps = e.ps ∧ FunD K e.name e.f e.params e.body e.scope [] (e.dd.kws K) (I e.f).a (I e.f).fd) : Wd w K mg (gaK K w) (tabC cs) (tabF es) (tabT es xs ys cl) I := by
  obtain ⟨c1, c2, c3, c6⟩ := saysL c
  unfold Xs.okK at c3
  obtain ⟨c3, c4⟩ := ba c3
  obtain ⟨c4, c5⟩ := ba c4
  unfold Xs.ok at yok
  obtain ⟨y1, y2⟩ := ba yok
  unfold Cl.okK at c6
  obtain ⟨m1, c6⟩ := ba c6
  obtain ⟨m2, c6⟩ := ba c6
  obtain ⟨m3, m4⟩ := ba c6
  unfold Cl.ok at clok
  obtain ⟨l1, clok⟩ := ba clok
  obtain ⟨l2, clok⟩ := ba clok
  obtain ⟨l3, l4⟩ := ba clok
  have bd0 : ∀ e ∈ es, e.kwd.isEmpty = true → Binds K (I e.f).fd (I e.f).ps [] := fun e he hk => by
    obtain ⟨i1, i2, F⟩ := hI e he
    rw [i2]
    exact FunD.bindsN (ps := e.ps) F ((hb e he).1 (List.isEmpty_iff.mp hk))
  have al : ∀ e ∈ es, (e.f, e.b.ps) ∈ (tabT es xs ys cl).al := fun e he => List.mem_map.mpr ⟨e, he, rfl⟩
  have ad : ∀ e ∈ es, adr es K e.f = e.at_ K := fun e he => by
    unfold adr
    have z : (es.map fun e => (e.f, e.at_)).lookup e.f = some e.at_ := lookup_mem (by rw [List.map_map]; exact nd) (List.mem_map.mpr ⟨e, he, rfl⟩)
    rw [z]
  refine ⟨rfl, fun f n hm => ?_, fun f n hm hn => ?_, fun x hx => ?_, fun x d hx => ?_, fun x hx => ?_, fun cc f hcf => ?_, fun cc t b hcb => ?_, fun cc m f n hm => ?_, fun cc m f hm => ?_, fun cc f n ds hm => ?_, fun cc f hm => ?_⟩
  · obtain ⟨e, he, q⟩ := List.mem_map.mp hm
    cases q
    obtain ⟨i1, i2, F⟩ := hI e he
    obtain ⟨S, h5, h6, h7⟩ := Ent.ok_scope (List.all_eq_true.mp hok e he)
    exact ⟨e.b, lookup_mem (by rw [List.map_map]; exact nd) (List.mem_map.mpr ⟨e, he, rfl⟩), rfl, ⟨e.name, e.f, e.params, e.body, e.scope, e.N, _, i2, F, S, h5, h6, h7⟩⟩
  · rcases List.mem_append.mp hm with hm | hm
    case inr =>
      obtain ⟨x, _, q⟩ := List.mem_map.mp hm
      cases q
      exact absurd rfl hn
    obtain ⟨e, he, q⟩ := List.mem_map.mp hm
    cases q
    obtain ⟨he, hg⟩ := List.mem_filter.mp he
    obtain ⟨i1, i2, F⟩ := hI e he
    have hk : e.kwd.isEmpty = true := by
      have z := List.all_eq_true.mp l4 e he
      rw [hg] at z
      simpa using z
    refine ⟨al e he, ?_, bd0 e he hk⟩
    rw [i1, hgl e he hg]
    exact ent_glo X G c he hg
  · obtain ⟨i, hi, q⟩ := List.mem_iff_getElem.mp hx
    have hm : He.Fa.free x ∈ faL es xs := List.mem_append_right _ (List.mem_append_left _ (List.mem_map.mpr ⟨x, hx, rfl⟩))
    obtain ⟨i, hi, q⟩ := List.mem_iff_getElem.mp hm
    exact He.free_ok X G (c1.fact i (f := .free x) (by rw [List.getElem?_eq_getElem hi, q]))
  · have hm : (x, d) ∈ cs := PySem.mem_of_lookup hx
    have z : conB K (x, d) = true := List.all_eq_true.mp c2 (x, d) hm
    unfold conB at z
    cases q : PySem.W.nsIn K mainGlobals x with
    | none => rw [q] at z; cases z
    | some o =>
      rw [q] at z
      cases o with
      | none => cases z
      | some u =>
        obtain ⟨v, r1, _⟩ := repB_ok (w := w) (ms := []) (Γ := fun _ => none) z
        refine ⟨u, v, PySem.W.mg_of X G q, r1, fun ms => ?_⟩
        obtain ⟨v', r1', r2'⟩ := repB_ok (w := w) (ms := ms) (Γ := fun _ => none) z
        rw [rel_uniq r1 r1']
        exact r2'
  · have hx2 : x ∈ xs := by
      rcases List.mem_append.mp hx with hx | hx
      · obtain ⟨e, he, q⟩ := List.mem_map.mp hx
        have := of_decide_eq_true (List.all_eq_true.mp hps e (List.mem_filter.mp he).1)
        exact absurd (congrArg Prod.snd q) this
      · obtain ⟨y, hy, q⟩ := List.mem_map.mp hx
        cases q
        exact hy
    have mem : ∀ f ∈ faX x, f.ok K = true := fun f hf => by
      have hm : f ∈ faL es xs := List.mem_append_right _ (List.mem_append_right _ (List.mem_flatMap.mpr ⟨x, hx2, hf⟩))
      obtain ⟨i, hi, q⟩ := List.mem_iff_getElem.mp hm
      exact c1.fact i (f := f) (by rw [List.getElem?_eq_getElem hi, q])
    have g1 := He.glo_ok X G (mem (.glo x) (by simp [faX]))
    obtain ⟨e1, e2, e3, e4⟩ := He.exc_ok (mem (.exc x) (by simp [faX]))
    have e5 := He.exm_ok (mem (.exm x x true) (by simp [faX]))
    exact ⟨g1, e1, e2, e3, e4, e5⟩
  · obtain ⟨m, hm, e⟩ := List.mem_map.mp hcf
    cases e
    obtain ⟨i, hi, q⟩ := List.mem_iff_getElem.mp hm
    obtain ⟨fd, F⟩ := c1.def_ (es.length + i) (d := m.dd) (by
      rw [List.getElem?_append_right (by simp)]
      simp only [List.length_map, Nat.add_sub_cancel_left]
      rw [List.getElem?_map, List.getElem?_eq_getElem hi, q]; rfl)
    exact xm_of (w := w) X G (List.all_eq_true.mp c3 m hm) (List.all_eq_true.mp y1 m hm) (yb m hm) F
  · have z := List.all_eq_true.mp y2 _ hcb
    have z2 : cc ∈ ys.ic := by simpa using z
    exact xi_of (w := w) (q := (cc, t, b)) X G (List.all_eq_true.mp c4 cc z2) (List.all_eq_true.mp c5 _ hcb)
  · have z1 := List.all_eq_true.mp l1 _ hm
    have z2 := List.all_eq_true.mp m1 _ hm
    cases ee : entAt es f with
    | none =>
      rw [show (cc, m, f, n).2.2.1 = f from rfl, ee] at z1
      cases z1
    | some e =>
      rw [show (cc, m, f, n).2.2.1 = f from rfl, ee] at z1
      obtain ⟨z3, z4⟩ := ba z1
      obtain ⟨he, ef⟩ := entAt_some ee
      subst ef
      have z3 : e.b.ps = n := of_decide_eq_true z3
      subst z3
      obtain ⟨i1, i2, F⟩ := hI e he
      obtain ⟨k1, k2⟩ := ba (show (clsK K cc && (He.eqO (PySem.W.findIn K (.ref (He.ga K cc)) m) (some (some (.ref (adr es K e.f)))) && (PySem.W.isFn K (.ref (adr es K e.f)) && PySem.W.keepIn K (.ref (adr es K e.f))))) = true from z2)
      rw [ad e he, ← i1] at k2
      obtain ⟨k2, k3⟩ := ba k2
      obtain ⟨k3, k4⟩ := ba k3
      exact ⟨al e he, He.cls_ok k1, ⟨He.eqO_ok k2, k3, k4⟩, bd0 e he z4⟩
  · have z1 := List.all_eq_true.mp l2 _ hm
    have z2 := List.all_eq_true.mp m2 _ hm
    cases ee : entAt es f with
    | none =>
      rw [show (cc, m, f).2.2 = f from rfl, ee] at z1
      cases z1
    | some e =>
      rw [show (cc, m, f).2.2 = f from rfl, ee] at z1
      obtain ⟨z3, z4⟩ := ba z1
      obtain ⟨he, ef⟩ := entAt_some ee
      subst ef
      have z3 : e.b.ps = 1 := of_decide_eq_true z3
      obtain ⟨i1, i2, F⟩ := hI e he
      unfold propK at z2
      obtain ⟨k1, k2⟩ := ba z2
      obtain ⟨k2, k3⟩ := ba k2
      obtain ⟨k3, k4⟩ := ba k3
      obtain ⟨k4, k5⟩ := ba k4
      have hal := al e he
      rw [z3] at hal
      refine ⟨hal, He.cls_ok k1, ⟨_, He.eqO_ok k2, of_decide_eq_true k3, of_decide_eq_true k4, ?_⟩, bd0 e he z4⟩
      dsimp only at k5
      split at k5
      · rename_i g r er
        have k5 := of_decide_eq_true k5
        rw [ad e he, ← i1] at k5
        rw [k5] at er
        exact ⟨r, er⟩
      · cases k5
  · have z1 := List.all_eq_true.mp l3 _ hm
    have z2 := List.all_eq_true.mp m3 _ hm
    cases ee : entAt es f with
    | none =>
      rw [show (cc, f, n, ds).2.1 = f from rfl, ee] at z1
      cases z1
    | some e =>
      rw [show (cc, f, n, ds).2.1 = f from rfl, ee] at z1
      obtain ⟨z3, z5⟩ := ba z1
      obtain ⟨z3, z4⟩ := ba z3
      obtain ⟨he, ef⟩ := entAt_some ee
      subst ef
      have z3 : e.b.ps = n := of_decide_eq_true z3
      subst z3
      have z4 : e.kwd.map (·.2) = ds := of_decide_eq_true z4
      have z5 : e.kwd.length ≤ e.b.ps := of_decide_eq_true z5
      obtain ⟨i1, i2, F⟩ := hI e he
      unfold newK at z2
      obtain ⟨k1, k2⟩ := ba z2
      dsimp only at k1 k2
      rw [ad e he, ← i1] at k2
      obtain ⟨k2, k3⟩ := ba k2
      obtain ⟨k3, k4⟩ := ba k3
      obtain ⟨k4, k5⟩ := ba k4
      refine ⟨al e he, PySem.W.mg_of X G (He.eqO_ok k1), ⟨k2, He.eqO_ok k3, k4, k5⟩, ?_⟩
      cases hk : e.kwd with
      | nil =>
        rw [hk] at z4
        subst z4
        exact ⟨[], bd0 e he (by rw [hk]; rfl), .nil⟩
      | cons q0 qs =>
        have hne : e.kwd ≠ [] := by rw [hk]; exact List.cons_ne_nil _ _
        have hpl : e.ps.length = e.b.ps := by
          obtain ⟨S, h5, h6, h7⟩ := Ent.ok_scope (List.all_eq_true.mp hok e he)
          unfold Ent.ps
          rw [List.length_take, h5, Nat.min_eq_left h6]
        have hlen := kws_len (K := K) e
        obtain ⟨dv, d1, d2⟩ := FunD.binds0 (ps := e.ps) F (e.b.ps - e.kwd.length) (fun q => by rw [q] at hlen; rw [hk] at hlen; simp at hlen) (by rw [hlen, hpl]; omega)
          (fun D doc pm an cdv ct us ks h1 h2 => by
            rw [kws_fst]
            exact (hb e he).2 hne D doc pm an cdv ct us ks (by rw [h1, hpl]; omega) (by rw [h2, hlen]))
        rw [kws_snd, z4] at d1
        exact ⟨dv, by rw [i2]; exact d2, d1⟩
  · have z := List.all_eq_true.mp m4 _ hm
    obtain ⟨k1, k2⟩ := ba z
    exact ⟨He.cls_ok k1, He.noat_ok k2⟩
/-- the law's def e of the table es keeps its promise at depth d + 1 -/
theorem law_facts {es : List Ent} {xs : List Str} {cs : List (Str × D)} {ys : Xs} {cl : Cl} {fuel d : Nat} {P : Program} {e : Ent} {x : Str} {f : Addr} (nd : (es.map Ent.f).Nodup) (hok : es.all (Ent.ok (tabT es xs ys cl)) = true) (hb : ∀ e ∈ es, e.binds) (hgl : ∀ K, ∀ e ∈ es, e.glob = true → e.at_ K = He.ga K e.f) (hps : es.all (fun e => decide (e.b.ps ≠ 1000)) = true) (yok : ys.ok = true) (yb : ∀ m ∈ ys.ms, m.binds) (clok : cl.ok es = true) (he : e ∈ es) (hg : e.glob = true) (hx : e.ps = [x])
    (X : K.In h) (G : h.Ns mainGlobals mg) (hfa : mg e.f = some (.ref f)) (c : Obs es xs cs ys cl K) :
    ∃ fd : FuncData, (∀ (s : Shared) (v : Value), BindsTo s fd ⟨[v], []⟩ [(x, v)]) ∧ ∀ base : Heap, K.In base → base.Ns mainGlobals mg → FnOk P w K mg base (L2.CX P w) (3 * (d + 1) + 2) f fd [x] (spC K (gaK K w) (callD (tabC cs) (tabF es) fuel (d + 1) e.f)) := by
  obtain ⟨I, hI⟩ := info_of c nd he
  have Y := wd_of (w := w) X G c nd hok hb (hgl K) hps yok yb clok hI
  obtain ⟨i1, i2, F⟩ := hI e he
  have g1 : mg e.f = some (.ref (I e.f).a) := by
    rw [i1, hgl K e he hg]
    exact ent_glo X G c he hg
  have q := hfa.symm.trans g1
  cases q
  have hk : e.kwd = [] := by
    unfold Cl.ok at clok
    obtain ⟨_, clok⟩ := ba clok
    obtain ⟨_, clok⟩ := ba clok
    obtain ⟨_, l4⟩ := ba clok
    have z := List.all_eq_true.mp l4 e he
    rw [hg] at z
    simpa using z
  refine ⟨(I e.f).fd, fun s v => ?_, fun base _ _ => ?_⟩
  · have z := FunD.bindsA (ps := e.ps) F ((hb e he).1 hk) s [v] (by rw [hx]; rfl)
    rw [hx] at z
    exact z
  · obtain ⟨_, _, z⟩ := fn_ok (P := P) (base := base) (fuel := fuel) Y (d + 1) e.f e.b.ps (List.mem_map.mpr ⟨e, he, rfl⟩)
    rw [i2, hx] at z
    exact z
end
end LD

set_option Elab.async false
set_option linter.all false
set_option maxRecDepth 100000
set_option maxHeartbeats 2000000
/-! LD14: the dice of the laws. -/
namespace LD
open PySem
def fDiceA : Fn := ⟨2, 5,
    (.cons (.asg (.name 2) (.ite (.cmp .lt (.var 1) (.blt .len (.cons (.var 0) .nil))) (.idx (.var 0) (.var 1)) (.bin .add (.bin .mul (.con (.int 31)) (.var 1)) (.con (.int 5)))))
    (.cons (.asg (.name 3) (.bin .mod (.blt .int1 (.cons (.blt .abs (.cons (.var 2) .nil)) .nil)) (.bin .pow (.bin .pow (.con (.int 10)) (.con (.int 50))) (.con (.int 12)))))
    (.cons (.asg (.name 4) (.bin .add (.bin .add (.bin .add (.bin .mul (.bin .mod (.blt .int1 (.cons (.var 3) .nil)) (.con (.int 4611686018427387847))) (.con (.int 69069))) (.bin .mul (.con (.int 104729)) (.var 1))) (.bin .mul (.con (.int 59)) (.blt .int1 (.cons (.cmp .lt (.var 2) (.con (.int 0))) .nil)))) (.con (.int 13))))
    (.cons (.ret (.newl (.cons (.blt .max2 (.cons (.con (.int 0)) (.cons (.bin .sub (.var 3) (.bin .pow (.con (.int 10)) (.con (.int 18)))) .nil))) (.cons (.bin .mod (.blt .int1 (.cons (.var 4) .nil)) (.con (.int 2305843009213693921))) (.cons (.con (.int 0)) .nil))))) .nil))))⟩
def fDiceB : Fn := ⟨2, 5,
    (.cons (.asg (.name 2) (.bin .add (.bin .mul (.con (.int 67)) (.var 1)) (.con (.int 9))))
    (.cons (.ite (.cmp .lt (.var 1) (.blt .len (.cons (.var 0) .nil)))
      (.cons (.asg (.name 2) (.idx (.var 0) (.var 1))) .nil)
      (.nil))
    (.cons (.asg (.name 3) (.bin .mod (.blt .int1 (.cons (.blt .abs (.cons (.var 2) .nil)) .nil)) (.bin .pow (.bin .pow (.con (.int 10)) (.con (.int 60))) (.con (.int 10)))))
    (.cons (.asg (.name 4) (.bin .add (.bin .add (.bin .add (.bin .mul (.bin .mod (.blt .int1 (.cons (.var 3) .nil)) (.con (.int 2147483489))) (.con (.int 52747))) (.bin .mul (.con (.int 7001)) (.var 1))) (.bin .mul (.con (.int 37)) (.blt .int1 (.cons (.cmp .lt (.var 2) (.con (.int 0))) .nil)))) (.con (.int 11))))
    (.cons (.ret (.newl (.cons (.blt .max2 (.cons (.con (.int 0)) (.cons (.bin .sub (.var 3) (.bin .pow (.con (.int 10)) (.con (.int 18)))) .nil))) (.cons (.bin .mod (.blt .int1 (.cons (.var 4) .nil)) (.con (.int 2147483423))) (.cons (.con (.int 0)) .nil))))) .nil)))))⟩
def fRollA : Fn := ⟨2, 5,
    (.cons (.ite (.cmp .gt (.idx (.var 0) (.con (.int 0))) (.con (.int 0)))
      (.cons (.asg (.name 4) (.bin .mod (.blt .int1 (.cons (.idx (.var 0) (.con (.int 0))) .nil)) (.var 1)))
      (.cons (.setl (.var 0) (.con (.int 0)) (.bin .fdiv (.idx (.var 0) (.con (.int 0))) (.var 1)))
      (.cons (.ret (.var 4)) .nil)))
      (.nil))
    (.cons (.setl (.var 0) (.con (.int 2)) (.bin .add (.idx (.var 0) (.con (.int 2))) (.con (.int 1))))
    (.cons (.asg (.name 2) (.bin .mod (.blt .int1 (.cons (.bin .add (.idx (.var 0) (.con (.int 1))) (.bin .mul (.con (.int 1442695041)) (.idx (.var 0) (.con (.int 2))))) .nil)) (.con (.int 2305843009213693951))))
    (.cons (.asg (.name 3) (.bin .mod (.blt .int1 (.cons (.bin .add (.bin .mul (.var 2) (.var 2)) (.bin .mul (.con (.int 40503)) (.idx (.var 0) (.con (.int 2))))) .nil)) (.con (.int 4611686018427387787))))
    (.cons (.ret (.bin .mod (.blt .int1 (.cons (.bin .fdiv (.bin .mod (.blt .int1 (.cons (.bin .mul (.var 3) (.var 2)) .nil)) (.con (.int 1125899906842679))) (.con (.int 8192))) .nil)) (.var 1))) .nil)))))⟩
def fRollB : Fn := ⟨2, 5,
    (.cons (.ite (.cmp .gt (.idx (.var 0) (.con (.int 0))) (.con (.int 0)))
      (.cons (.asg (.name 4) (.bin .mod (.blt .int1 (.cons (.idx (.var 0) (.con (.int 0))) .nil)) (.var 1)))
      (.cons (.setl (.var 0) (.con (.int 0)) (.bin .fdiv (.idx (.var 0) (.con (.int 0))) (.var 1)))
      (.cons (.ret (.var 4)) .nil)))
      (.nil))
    (.cons (.setl (.var 0) (.con (.int 2)) (.bin .add (.idx (.var 0) (.con (.int 2))) (.con (.int 1))))
    (.cons (.asg (.name 2) (.bin .mod (.blt .int1 (.cons (.bin .add (.idx (.var 0) (.con (.int 1))) (.bin .mul (.con (.int 1000541)) (.idx (.var 0) (.con (.int 2))))) .nil)) (.con (.int 2305843009213693951))))
    (.cons (.asg (.name 3) (.bin .add (.bin .mul (.bin .mod (.blt .int1 (.cons (.bin .mul (.var 2) (.var 2)) .nil)) (.con (.int 2305843009213693907))) (.var 2)) (.bin .mul (.con (.int 8329)) (.idx (.var 0) (.con (.int 2))))))
    (.cons (.asg (.name 3) (.bin .mod (.blt .int1 (.cons (.var 3) .nil)) (.con (.int 2305843009213693921))))
    (.cons (.ret (.bin .mod (.blt .int1 (.cons (.bin .fdiv (.var 3) (.con (.int 4096))) .nil)) (.var 1))) .nil))))))⟩
def fPick : Fn := ⟨2, 2,
    (.cons (.ret (.idx (.var 1) (.call "_law_roll" (.cons (.var 0) (.cons (.blt .len (.cons (.var 1) .nil)) .nil))))) .nil)⟩

theorem callD_succ {con : Str → Option D} {fn : Str → Option Fn} {fuel d : Nat} {f : Str} {b : Fn} (hb : fn f = some b) (ds : List D) (μ : Store) : callD con fn fuel (d + 1) f ds μ = runF ⟨con, callD con fn fuel d⟩ fuel b ds μ := by
  show (match fn f with
    | some b => runF ⟨con, callD con fn fuel d⟩ fuel b ds μ
    | none => .bad) = _
  rw [hb]
def Dice (l : Nat) (μ : Store) : Prop := ∃ a b c : Int, μ[l]? = some (.lst [.int a, .int b, .int c])
theorem small_of {i : Int} (h1 : 0 ≤ i) (h2 : i < 18446744073709551616) : small i = true := by
  unfold small
  simp only [decide_eq_true_eq]
  omega
/-- only the object at l changed -/
def Chg (l : Nat) (μ μ' : Store) : Prop := ∃ so, μ' = μ.set l so
theorem Chg.trans {l : Nat} {μ μ1 μ2 : Store} (h : Chg l μ μ1) (h' : Chg l μ1 μ2) : Chg l μ μ2 := by
  obtain ⟨a, rfl⟩ := h
  obtain ⟨b, rfl⟩ := h'
  exact ⟨b, by rw [List.set_set]⟩
theorem Chg.len {l : Nat} {μ μ' : Store} (h : Chg l μ μ') : μ'.length = μ.length := by
  obtain ⟨a, rfl⟩ := h
  exact List.length_set
/-- what a roll does: a number below n; the dice stand on -/
def RollOk (r : List D → Store → Out D) : Prop := ∀ (l : Nat) (μ : Store) (n : Int), Dice l μ → 1 ≤ n → n < 18446744073709551616 → ∃ (k : Nat) (μ' : Store), (k : Int) < n ∧ r [.loc l, .int n] μ = .ok (.int k) μ' ∧ Dice l μ' ∧ Chg l μ μ'
def DiceOk (r : List D → Store → Out D) : Prop := ∀ (ns : List Int) (i : Int) (μ : Store), 0 ≤ i → ∃ a b : Int, r [.scr ns, .int i] μ = .ok (.loc μ.length) (μ ++ [.lst [.int a, .int b, .int 0]])
def PickOk (r : List D → Store → Out D) : Prop := ∀ (l : Nat) (μ : Store) (xs : List D), Dice l μ → 1 ≤ xs.length → xs.length < 1073741824 → ∃ (x : D) (μ' : Store), x ∈ xs ∧ r [.loc l, .lst xs] μ = .ok x μ' ∧ Dice l μ' ∧ Chg l μ μ'
theorem rollA_ok {G : GT} {fuel : Nat} : RollOk (runF G fuel fRollA) := by
  intro l μ n h h1 h2
  obtain ⟨a, b, c, hd⟩ := h
  have hl : l < μ.length := (List.getElem?_eq_some_iff.mp hd).1
  have hs : ∀ so, (List.set μ l so)[l]? = some so := fun so => List.getElem?_set_self hl
  have hn : n ≠ 0 := by omega
  have hn2 : n.natAbs < 18446744073709551616 := by omega
  have hn3 : 0 < n := by omega
  by_cases ha : a > 0
  · have h3 := Int.fmod_nonneg_of_pos a (show 0 < n by omega)
    have h4 := Int.fmod_lt_of_pos a (show 0 < n by omega)
    refine ⟨(a.fmod n).toNat, μ.set l (.lst [.int (a.fdiv n), .int b, .int c]), by omega, ?_, ⟨_, _, _, by rw [List.getElem?_set_self hl]⟩, ⟨_, rfl⟩⟩
    simp [runF, fRollA, exSs, exS, ev, evs, Fl.of, Fl.next, Fl.opt, Out.bind, opt, Env.get, Env.put, bindT, idxD, hd, L2.atI, L2.ixN, cmpop, testOf, truthy, binop, blt, ha, List.set, hn, hn2, hn3]
    omega
  · obtain ⟨one, e1⟩ : ∃ one : Int, one = (b + 1442695041 * (c + 1)).fmod 2305843009213693951 := ⟨_, rfl⟩
    have p1 := Int.fmod_nonneg_of_pos (b + 1442695041 * (c + 1)) (show (0 : Int) < 2305843009213693951 by omega)
    have p2 := Int.fmod_lt_of_pos (b + 1442695041 * (c + 1)) (show (0 : Int) < 2305843009213693951 by omega)
    rw [← e1] at p1 p2
    have s1 : small one = true := small_of p1 (by omega)
    obtain ⟨two, e2⟩ : ∃ two : Int, two = (one * one + 40503 * (c + 1)).fmod 4611686018427387787 := ⟨_, rfl⟩
    have p3 := Int.fmod_nonneg_of_pos (one * one + 40503 * (c + 1)) (show (0 : Int) < 4611686018427387787 by omega)
    have p4 := Int.fmod_lt_of_pos (one * one + 40503 * (c + 1)) (show (0 : Int) < 4611686018427387787 by omega)
    rw [← e2] at p3 p4
    have s2 : small two = true := small_of p3 (by omega)
    obtain ⟨z, e3⟩ : ∃ z : Int, z = ((two * one).fmod 1125899906842679).fdiv 8192 := ⟨_, rfl⟩
    have h3 := Int.fmod_nonneg_of_pos z (show 0 < n by omega)
    have h4 := Int.fmod_lt_of_pos z (show 0 < n by omega)
    have sc1 : small 1442695041 = true := by decide
    have sc2 : small 40503 = true := by decide
    refine ⟨(z.fmod n).toNat, μ.set l (.lst [.int a, .int b, .int (c + 1)]), by omega, ?_, ⟨_, _, _, by rw [List.getElem?_set_self hl]⟩, ⟨_, rfl⟩⟩
    simp [runF, fRollA, exSs, exS, ev, evs, Fl.of, Fl.next, Fl.opt, Out.bind, opt, Env.get, Env.put, bindT, idxD, hd, L2.atI, L2.ixN, cmpop, testOf, truthy, binop, blt, ha, List.set, hn, hn2, hn3, hs, ← e1, ← e2, ← e3, s1, s2, sc1, sc2]
    omega
theorem rollB_ok {G : GT} {fuel : Nat} : RollOk (runF G fuel fRollB) := by
  intro l μ n h h1 h2
  obtain ⟨a, b, c, hd⟩ := h
  have hl : l < μ.length := (List.getElem?_eq_some_iff.mp hd).1
  have hs : ∀ so, (List.set μ l so)[l]? = some so := fun so => List.getElem?_set_self hl
  have hn : n ≠ 0 := by omega
  have hn2 : n.natAbs < 18446744073709551616 := by omega
  have hn3 : 0 < n := by omega
  by_cases ha : a > 0
  · have h3 := Int.fmod_nonneg_of_pos a (show 0 < n by omega)
    have h4 := Int.fmod_lt_of_pos a (show 0 < n by omega)
    refine ⟨(a.fmod n).toNat, μ.set l (.lst [.int (a.fdiv n), .int b, .int c]), by omega, ?_, ⟨_, _, _, by rw [List.getElem?_set_self hl]⟩, ⟨_, rfl⟩⟩
    simp [runF, fRollB, exSs, exS, ev, evs, Fl.of, Fl.next, Fl.opt, Out.bind, opt, Env.get, Env.put, bindT, idxD, hd, L2.atI, L2.ixN, cmpop, testOf, truthy, binop, blt, ha, List.set, hn, hn2, hn3]
    omega
  · obtain ⟨one, e1⟩ : ∃ one : Int, one = (b + 1000541 * (c + 1)).fmod 2305843009213693951 := ⟨_, rfl⟩
    have p1 := Int.fmod_nonneg_of_pos (b + 1000541 * (c + 1)) (show (0 : Int) < 2305843009213693951 by omega)
    have p2 := Int.fmod_lt_of_pos (b + 1000541 * (c + 1)) (show (0 : Int) < 2305843009213693951 by omega)
    rw [← e1] at p1 p2
    have s1 : small one = true := small_of p1 (by omega)
    obtain ⟨two, e2⟩ : ∃ two : Int, two = (((one * one).fmod 2305843009213693907) * one + 8329 * (c + 1)).fmod 2305843009213693921 := ⟨_, rfl⟩
    obtain ⟨z, e3⟩ : ∃ z : Int, z = two.fdiv 4096 := ⟨_, rfl⟩
    have h3 := Int.fmod_nonneg_of_pos z (show 0 < n by omega)
    have h4 := Int.fmod_lt_of_pos z (show 0 < n by omega)
    have sc1 : small 1000541 = true := by decide
    have sc2 : small 8329 = true := by decide
    refine ⟨(z.fmod n).toNat, μ.set l (.lst [.int a, .int b, .int (c + 1)]), by omega, ?_, ⟨_, _, _, by rw [List.getElem?_set_self hl]⟩, ⟨_, rfl⟩⟩
    simp [runF, fRollB, exSs, exS, ev, evs, Fl.of, Fl.next, Fl.opt, Out.bind, opt, Env.get, Env.put, bindT, idxD, hd, L2.atI, L2.ixN, cmpop, testOf, truthy, binop, blt, ha, List.set, hn, hn2, hn3, hs, ← e1, ← e2, ← e3, s1, sc1, sc2]
    omega
theorem pick_ok {G : GT} {fuel : Nat} (h : RollOk (G.call "_law_roll")) : PickOk (runF G fuel fPick) := by
  intro l μ xs hd h1 h2
  obtain ⟨k, so, hk, e, hd', hc⟩ := h l μ xs.length hd (by omega) (by omega)
  have hk' : k < xs.length := by omega
  refine ⟨xs[k], so, List.getElem_mem hk', ?_, hd', hc⟩
  simp [runF, fPick, exSs, exS, ev, evs, Fl.of, Fl.next, Out.bind, opt, Env.get, idxD, L2.atI, L2.ixN, blt, lenD, e, hk, hk']
theorem pows_ok : powOk 10 50 = true ∧ powOk 100000000000000000000000000000000000000000000000000 12 = true ∧ powOk 10 18 = true ∧ powOk 10 60 = true ∧ powOk 1000000000000000000000000000000000000000000000000000000000000 10 = true := by decide +kernel
theorem smalls_ok : small 31 = true ∧ small 69069 = true ∧ small 104729 = true ∧ small 59 = true ∧ small 67 = true ∧ small 52747 = true ∧ small 7001 = true ∧ small 37 = true := by decide +kernel
/-! ### steps by lemma (the kernel does not look into the interpreter) -/
theorem exSs_nx {G : GT} {fuel : Nat} {s : Sm} {ss : Sms} {ρ ρ' : Env} {μ μ' : Store} (h : exS G fuel s ρ μ = .nx ρ' μ') : exSs G fuel (.cons s ss) ρ μ = exSs G fuel ss ρ' μ' := by
  rw [exSs, h]
  rfl
theorem exSs_ret {G : GT} {fuel : Nat} {s : Sm} {ss : Sms} {ρ : Env} {μ μ' : Store} {d : D} (h : exS G fuel s ρ μ = .ret d μ') : exSs G fuel (.cons s ss) ρ μ = .ret d μ' := by
  rw [exSs, h]
  rfl
theorem runF_ret {G : GT} {fuel : Nat} {f : Fn} {ds : List D} {μ μ' : Store} {d : D} (hl : ds.length = f.ps) (h : exSs G fuel f.body (ds.map Slot.val ++ List.replicate (f.n - f.ps) Slot.no) μ = .ret d μ') : runF G fuel f ds μ = .ok d μ' := by
  unfold runF
  rw [if_pos hl, h]
theorem diceA_ok {G : GT} {fuel : Nat} : DiceOk (runF G fuel fDiceA) := by
  intro ns i μ hi
  obtain ⟨p1, p2, p3, _, _⟩ := pows_ok
  obtain ⟨s1, s2, s3, s4, _⟩ := smalls_ok
  have fin : ∀ (cell : Int) (ρ : Env), (∀ G : GT, exS G fuel (.asg (.name 2) (.ite (.cmp .lt (.var 1) (.blt .len (.cons (.var 0) .nil))) (.idx (.var 0) (.var 1)) (.bin .add (.bin .mul (.con (.int 31)) (.var 1)) (.con (.int 5))))) [.val (.scr ns), .val (.int i), .no, .no, .no] μ = .nx [.val (.scr ns), .val (.int i), .val (.int cell), .no, .no] μ) → ∃ a b : Int, runF G fuel fDiceA [.scr ns, .int i] μ = .ok (.loc μ.length) (μ ++ [.lst [.int a, .int b, .int 0]]) := by
    intro cell ρ hc
    obtain ⟨whole, hw⟩ : ∃ whole : Int, whole = (if cell < 0 then -cell else cell).fmod 1000000000000000000000000000000000000000000000000000000000000000000000000000000000000000000000000000000000000000000000000000000000000000000000000000000000000000000000000000000000000000000000000000000000000000000000000000000000000000000000000000000000000000000000000000000000000000000000000000000000000000000000000000000000000000000000000000000000000000000000000000000000000000000000000000000000000000000000000000000000000000000000000000000000000000000000000000000000000000000000000000000000000000000000000000000000000000000000000000000000000000000000000000000000000000000000000000000000000000000000000 := ⟨_, rfl⟩
    refine ⟨if whole - 1000000000000000000 > 0 then whole - 1000000000000000000 else 0, ((whole.fmod 4611686018427387847) * 69069 + 104729 * i + 59 * (if cell < 0 then 1 else 0) + 13).fmod 2305843009213693921, ?_⟩
    have e0 : runF G fuel fDiceA [.scr ns, .int i] μ = (match exSs G fuel fDiceA.body [.val (.scr ns), .val (.int i), .no, .no, .no] μ with
      | .ret d μ => .ok d μ
      | .nx _ μ => .ok .non μ
      | .exc c fs _ μ => .exc c fs μ
      | _ => .bad) := rfl
    rw [e0]
    unfold fDiceA
    dsimp only
    unfold exSs
    rw [hc]
    by_cases hn : cell < 0
    · simp only [hn, if_true] at hw ⊢
      simp [exSs, exS, ev, evs, Fl.of, Fl.next, Fl.opt, Out.bind, opt, Env.get, Env.put, bindT, cmpop, testOf, truthy, binop, blt, hn, p1, p2, p3, s1, s2, s3, s4, LINE, ← hw]
    · simp only [hn, if_false] at hw ⊢
      simp [exSs, exS, ev, evs, Fl.of, Fl.next, Fl.opt, Out.bind, opt, Env.get, Env.put, bindT, cmpop, testOf, truthy, binop, blt, hn, p1, p2, p3, s1, s2, s3, s4, LINE, ← hw]
  by_cases h : i < ns.length
  · have hz : i.toNat < ns.length := by omega
    refine fin ns[i.toNat] [] fun G => ?_
    simp [exS, ev, evs, Fl.of, Fl.opt, Out.bind, opt, Env.get, Env.put, bindT, idxD, L2.atI, L2.ixN, cmpop, truthy, blt, lenD, h, hi, hz]
  · refine fin (31 * i + 5) [] fun G => ?_
    simp [exS, ev, evs, Fl.of, Fl.opt, Out.bind, opt, Env.get, Env.put, bindT, cmpop, truthy, binop, blt, lenD, h, s1]
theorem diceB_ok {G : GT} {fuel : Nat} : DiceOk (runF G fuel fDiceB) := by
  intro ns i μ hi
  obtain ⟨_, _, p3, p1, p2⟩ := pows_ok
  obtain ⟨_, _, _, _, s0, s1, s2, s3⟩ := smalls_ok
  have fin : ∀ cell : Int, ∃ a b : Int, exSs G fuel
    (.cons (.asg (.name 3) (.bin .mod (.blt .int1 (.cons (.blt .abs (.cons (.var 2) .nil)) .nil)) (.bin .pow (.bin .pow (.con (.int 10)) (.con (.int 60))) (.con (.int 10)))))
    (.cons (.asg (.name 4) (.bin .add (.bin .add (.bin .add (.bin .mul (.bin .mod (.blt .int1 (.cons (.var 3) .nil)) (.con (.int 2147483489))) (.con (.int 52747))) (.bin .mul (.con (.int 7001)) (.var 1))) (.bin .mul (.con (.int 37)) (.blt .int1 (.cons (.cmp .lt (.var 2) (.con (.int 0))) .nil)))) (.con (.int 11))))
    (.cons (.ret (.newl (.cons (.blt .max2 (.cons (.con (.int 0)) (.cons (.bin .sub (.var 3) (.bin .pow (.con (.int 10)) (.con (.int 18)))) .nil))) (.cons (.bin .mod (.blt .int1 (.cons (.var 4) .nil)) (.con (.int 2147483423))) (.cons (.con (.int 0)) .nil))))) .nil))) [.val (.scr ns), .val (.int i), .val (.int cell), .no, .no] μ = .ret (.loc μ.length) (μ ++ [.lst [.int a, .int b, .int 0]]) := by
    intro cell
    obtain ⟨whole, hw⟩ : ∃ whole : Int, whole = (if cell < 0 then -cell else cell).fmod 1000000000000000000000000000000000000000000000000000000000000000000000000000000000000000000000000000000000000000000000000000000000000000000000000000000000000000000000000000000000000000000000000000000000000000000000000000000000000000000000000000000000000000000000000000000000000000000000000000000000000000000000000000000000000000000000000000000000000000000000000000000000000000000000000000000000000000000000000000000000000000000000000000000000000000000000000000000000000000000000000000000000000000000000000000000000000000000000000000000000000000000000000000000000000000000000000000000000000000000000000 := ⟨_, rfl⟩
    refine ⟨if whole - 1000000000000000000 > 0 then whole - 1000000000000000000 else 0, ((whole.fmod 2147483489) * 52747 + 7001 * i + 37 * (if cell < 0 then 1 else 0) + 11).fmod 2147483423, ?_⟩
    by_cases hn : cell < 0
    · simp only [hn, if_true] at hw ⊢
      simp [exSs, exS, ev, evs, Fl.of, Fl.next, Fl.opt, Out.bind, opt, Env.get, Env.put, bindT, cmpop, testOf, truthy, binop, blt, hn, p1, p2, p3, s1, s2, s3, LINE, ← hw]
    · simp only [hn, if_false] at hw ⊢
      simp [exSs, exS, ev, evs, Fl.of, Fl.next, Fl.opt, Out.bind, opt, Env.get, Env.put, bindT, cmpop, testOf, truthy, binop, blt, hn, p1, p2, p3, s1, s2, s3, LINE, ← hw]
  have a1 : exS G fuel (.asg (.name 2) (.bin .add (.bin .mul (.con (.int 67)) (.var 1)) (.con (.int 9)))) [.val (.scr ns), .val (.int i), .no, .no, .no] μ = .nx [.val (.scr ns), .val (.int i), .val (.int (67 * i + 9)), .no, .no] μ := by
    simp [exS, ev, Fl.of, Fl.opt, Out.bind, opt, Env.get, Env.put, bindT, binop, s0]
  by_cases h : i < ns.length
  · have hz : i.toNat < ns.length := by omega
    obtain ⟨a, b, e⟩ := fin ns[i.toNat]
    refine ⟨a, b, runF_ret rfl ?_⟩
    unfold fDiceB
    refine (exSs_nx a1).trans ((exSs_nx (ρ' := [.val (.scr ns), .val (.int i), .val (.int ns[i.toNat]), .no, .no]) (μ' := μ) ?_).trans e)
    simp [exS, exSs, ev, evs, Fl.of, Fl.next, Fl.opt, Out.bind, opt, Env.get, Env.put, bindT, idxD, L2.atI, L2.ixN, cmpop, testOf, truthy, blt, lenD, h, hi, hz]
  · obtain ⟨a, b, e⟩ := fin (67 * i + 9)
    refine ⟨a, b, runF_ret rfl ?_⟩
    unfold fDiceB
    refine (exSs_nx a1).trans ((exSs_nx (ρ' := [.val (.scr ns), .val (.int i), .val (.int (67 * i + 9)), .no, .no]) (μ' := μ) ?_).trans e)
    simp [exS, exSs, ev, evs, Fl.of, Fl.next, Fl.opt, Out.bind, opt, Env.get, cmpop, testOf, truthy, blt, lenD, h]
/-- for spot in range(max(lo, min(hi, len(script)))): if not _law_right(_law_dice(script, spot)): return False -/
def lawBody : Sms := .cons (.ite (.not_ (.call "_law_right" (.cons (.call "_law_dice" (.cons (.var 0) (.cons (.var 1) .nil))) .nil))) (.cons (.ret (.con (.bl false))) .nil) .nil) .nil
def fLaw (lo hi : Int) : Fn := ⟨1, 2, .cons (.for_ (.name 1) .rng1 (.cons (.blt .max2 (.cons (.con (.int lo)) (.cons (.blt .min2 (.cons (.con (.int hi)) (.cons (.blt .len (.cons (.var 0) .nil)) .nil))) .nil))) .nil) lawBody) (.cons (.ret (.con (.bl true))) .nil)⟩
theorem dice_at {μ : Store} {a b c : Int} : Dice μ.length (μ ++ [.lst [.int a, .int b, .int c]]) := ⟨a, b, c, by simp⟩
theorem law_loop {G : GT} {fuel : Nat} {ns : List Int} (hd : DiceOk (G.call "_law_dice")) (hr : ∀ l μ, Dice l μ → ∃ μ', G.call "_law_right" [.loc l] μ = .ok (.bl true) μ') : ∀ (ys : List D), (∀ y ∈ ys, ∃ i : Int, 0 ≤ i ∧ y = .int i) → ∀ (s : Slot) (μ : Store), ∃ s' μ', forLoop (.name 1) (exSs G fuel lawBody) ys [.val (.scr ns), s] μ = .nx [.val (.scr ns), s'] μ'
  | [], _, s, μ => ⟨s, μ, rfl⟩
  | y :: ys, h, s, μ => by
    obtain ⟨i, hi, rfl⟩ := h y (List.mem_cons_self ..)
    obtain ⟨a, b, e1⟩ := hd ns i μ hi
    obtain ⟨μ2, e2⟩ := hr _ _ (dice_at (μ := μ) (a := a) (b := b) (c := 0))
    obtain ⟨s', μ', ih⟩ := law_loop (ns := ns) hd hr ys (fun z hz => h z (List.mem_cons_of_mem _ hz)) (.val (.int i)) μ2
    refine ⟨s', μ', ?_⟩
    unfold forLoop
    generalize forLoop (.name 1) (exSs G fuel lawBody) ys = F at ih ⊢
    simp [lawBody, exSs, exS, ev, evs, Fl.of, Fl.next, Fl.opt, Out.bind, opt, Env.get, Env.put, bindT, testOf, truthy, e1, e2, ih]
theorem rangeL_int (lo hi : Int) (h : 0 ≤ lo) : ∀ y ∈ rangeL lo hi, ∃ i : Int, 0 ≤ i ∧ y = .int i := fun y hy => by
  unfold rangeL at hy
  obtain ⟨i, _, rfl⟩ := List.mem_map.mp hy
  exact ⟨_, by omega, rfl⟩
theorem law_ok {G : GT} {fuel : Nat} {ns : List Int} {lo hi : Int} (h1 : 0 ≤ lo) (h2 : lo < LINE) (h3 : 0 ≤ hi) (h4 : hi < LINE) (hd : DiceOk (G.call "_law_dice")) (hr : ∀ l μ, Dice l μ → ∃ μ', G.call "_law_right" [.loc l] μ = .ok (.bl true) μ') : ∃ μ', runF G fuel (fLaw lo hi) [.scr ns] [] = .ok (.bl true) μ' := by
  obtain ⟨m, hm⟩ : ∃ m : Int, m = (if (ns.length : Int) < hi then (ns.length : Int) else hi) := ⟨_, rfl⟩
  obtain ⟨j, hj⟩ : ∃ j : Int, j = (if m > lo then m else lo) := ⟨_, rfl⟩
  have hm2 : m ≤ hi := by rw [hm]; split <;> omega
  have hj1 : 0 ≤ j ∧ j < LINE := by rw [hj]; split <;> omega
  have hb1 : blt .min2 [.int hi, .int (ns.length : Int)] = some (.int m) := by rw [hm]; rfl
  have hb2 : blt .max2 [.int lo, .int m] = some (.int j) := by rw [hj]; rfl
  have hb3 : blt .len [.scr ns] = some (.int (ns.length : Int)) := rfl
  have hit : iterD .rng1 [.int j] = some (rangeL 0 j) := by
    show (if -(2 ^ 62) ≤ j ∧ j < LINE then some (rangeL 0 j) else none) = _
    rw [if_pos ⟨by omega, hj1.2⟩]
  obtain ⟨s', μ', e⟩ := law_loop (ns := ns) (fuel := fuel) hd hr (rangeL 0 j) (rangeL_int 0 j (by omega)) .no []
  refine ⟨μ', ?_⟩
  simp [runF, fLaw, exSs, exS, ev, evs, Fl.of, Fl.next, Fl.opt, Out.bind, opt, Env.get, hb1, hb2, hb3, hit, e]
/-- the loop and the end, wherever they stand -/
def lawTail (lo hi : Int) : Sms := .cons (.for_ (.name 1) .rng1 (.cons (.blt .max2 (.cons (.con (.int lo)) (.cons (.blt .min2 (.cons (.con (.int hi)) (.cons (.blt .len (.cons (.var 0) .nil)) .nil))) .nil))) .nil) lawBody) (.cons (.ret (.con (.bl true))) .nil)
theorem law_tail {G : GT} {fuel : Nat} {ns : List Int} {lo hi : Int} (h1 : 0 ≤ lo) (h2 : lo < LINE) (h3 : 0 ≤ hi) (h4 : hi < LINE) (hd : DiceOk (G.call "_law_dice")) (hr : ∀ l μ, Dice l μ → ∃ μ', G.call "_law_right" [.loc l] μ = .ok (.bl true) μ') (μ : Store) : ∃ μ', exSs G fuel (lawTail lo hi) [.val (.scr ns), .no] μ = .ret (.bl true) μ' := by
  obtain ⟨m, hm⟩ : ∃ m : Int, m = (if (ns.length : Int) < hi then (ns.length : Int) else hi) := ⟨_, rfl⟩
  obtain ⟨j, hj⟩ : ∃ j : Int, j = (if m > lo then m else lo) := ⟨_, rfl⟩
  have hm2 : m ≤ hi := by rw [hm]; split <;> omega
  have hj1 : 0 ≤ j ∧ j < LINE := by rw [hj]; split <;> omega
  have hb1 : blt .min2 [.int hi, .int (ns.length : Int)] = some (.int m) := by rw [hm]; rfl
  have hb2 : blt .max2 [.int lo, .int m] = some (.int j) := by rw [hj]; rfl
  have hb3 : blt .len [.scr ns] = some (.int (ns.length : Int)) := rfl
  have hit : iterD .rng1 [.int j] = some (rangeL 0 j) := by
    show (if -(2 ^ 62) ≤ j ∧ j < LINE then some (rangeL 0 j) else none) = _
    rw [if_pos ⟨by omega, hj1.2⟩]
  obtain ⟨s', μ', e⟩ := law_loop (ns := ns) (fuel := fuel) hd hr (rangeL 0 j) (rangeL_int 0 j (by omega)) .no μ
  refine ⟨μ', ?_⟩
  simp [lawTail, exSs, exS, ev, evs, Fl.of, Fl.next, Fl.opt, Out.bind, opt, Env.get, hb1, hb2, hb3, hit, e]
/-! ### the same for any case function -/
def lawBodyN (f : Str) : Sms := .cons (.ite (.not_ (.call f (.cons (.call "_law_dice" (.cons (.var 0) (.cons (.var 1) .nil))) .nil))) (.cons (.ret (.con (.bl false))) .nil) .nil) .nil
theorem law_loopN {G : GT} {fuel : Nat} {f : Str} {ns : List Int} (hd : DiceOk (G.call "_law_dice")) (hr : ∀ l μ, Dice l μ → ∃ μ', G.call f [.loc l] μ = .ok (.bl true) μ') : ∀ (ys : List D), (∀ y ∈ ys, ∃ i : Int, 0 ≤ i ∧ y = .int i) → ∀ (s : Slot) (μ : Store), ∃ s' μ', forLoop (.name 1) (exSs G fuel (lawBodyN f)) ys [.val (.scr ns), s] μ = .nx [.val (.scr ns), s'] μ'
  | [], _, s, μ => ⟨s, μ, rfl⟩
  | y :: ys, h, s, μ => by
    obtain ⟨i, hi, rfl⟩ := h y (List.mem_cons_self ..)
    obtain ⟨a, b, e1⟩ := hd ns i μ hi
    obtain ⟨μ2, e2⟩ := hr _ _ (dice_at (μ := μ) (a := a) (b := b) (c := 0))
    obtain ⟨s', μ', ih⟩ := law_loopN (ns := ns) hd hr ys (fun z hz => h z (List.mem_cons_of_mem _ hz)) (.val (.int i)) μ2
    refine ⟨s', μ', ?_⟩
    unfold forLoop
    generalize forLoop (.name 1) (exSs G fuel (lawBodyN f)) ys = F at ih ⊢
    simp [lawBodyN, exSs, exS, ev, evs, Fl.of, Fl.next, Fl.opt, Out.bind, opt, Env.get, Env.put, bindT, testOf, truthy, e1, e2, ih]
/-- the loop and the end, wherever they stand -/
def lawTailN (f : Str) (lo hi : Int) : Sms := .cons (.for_ (.name 1) .rng1 (.cons (.blt .max2 (.cons (.con (.int lo)) (.cons (.blt .min2 (.cons (.con (.int hi)) (.cons (.blt .len (.cons (.var 0) .nil)) .nil))) .nil))) .nil) (lawBodyN f)) (.cons (.ret (.con (.bl true))) .nil)
theorem law_tailN {G : GT} {fuel : Nat} {f : Str} {ns : List Int} {lo hi : Int} (h1 : 0 ≤ lo) (h2 : lo < LINE) (h3 : 0 ≤ hi) (h4 : hi < LINE) (hd : DiceOk (G.call "_law_dice")) (hr : ∀ l μ, Dice l μ → ∃ μ', G.call f [.loc l] μ = .ok (.bl true) μ') (μ : Store) : ∃ μ', exSs G fuel (lawTailN f lo hi) [.val (.scr ns), .no] μ = .ret (.bl true) μ' := by
  obtain ⟨m, hm⟩ : ∃ m : Int, m = (if (ns.length : Int) < hi then (ns.length : Int) else hi) := ⟨_, rfl⟩
  obtain ⟨j, hj⟩ : ∃ j : Int, j = (if m > lo then m else lo) := ⟨_, rfl⟩
  have hm2 : m ≤ hi := by rw [hm]; split <;> omega
  have hj1 : 0 ≤ j ∧ j < LINE := by rw [hj]; split <;> omega
  have hb1 : blt .min2 [.int hi, .int (ns.length : Int)] = some (.int m) := by rw [hm]; rfl
  have hb2 : blt .max2 [.int lo, .int m] = some (.int j) := by rw [hj]; rfl
  have hb3 : blt .len [.scr ns] = some (.int (ns.length : Int)) := rfl
  have hit : iterD .rng1 [.int j] = some (rangeL 0 j) := by
    show (if -(2 ^ 62) ≤ j ∧ j < LINE then some (rangeL 0 j) else none) = _
    rw [if_pos ⟨by omega, hj1.2⟩]
  obtain ⟨s', μ', e⟩ := law_loopN (ns := ns) (fuel := fuel) hd hr (rangeL 0 j) (rangeL_int 0 j (by omega)) .no μ
  refine ⟨μ', ?_⟩
  simp [lawTailN, exSs, exS, ev, evs, Fl.of, Fl.next, Fl.opt, Out.bind, opt, Env.get, hb1, hb2, hb3, hit, e]
/-! ### comprehensions whose turns leave the store alone -/
theorem compLoop_map {α : Type} {f : D → Store → Out (Option D)} {g h : α → D} {μ : Store} : ∀ {xs : List α} {acc : List D}, (∀ x ∈ xs, f (g x) μ = .ok (some (h x)) μ) → compLoop f (xs.map g) acc μ = .ok (acc ++ xs.map h) μ
  | [], acc, _ => by simp [compLoop]
  | x :: xs, acc, hf => by
    have ih := compLoop_map (xs := xs) (acc := acc ++ [h x]) fun y hy => hf y (List.mem_cons_of_mem _ hy)
    rw [List.map_cons, compLoop, hf x (List.mem_cons_self ..)]
    show compLoop f (xs.map g) (acc ++ [h x]) μ = _
    rw [ih, List.append_assoc]
    rfl
theorem compLoop_filter {α : Type} {f : D → Store → Out (Option D)} {g h : α → D} {p : α → Bool} {μ : Store} : ∀ {xs : List α} {acc : List D}, (∀ x ∈ xs, f (g x) μ = .ok (if p x then some (h x) else none) μ) → compLoop f (xs.map g) acc μ = .ok (acc ++ (xs.filter p).map h) μ
  | [], acc, _ => by simp [compLoop]
  | x :: xs, acc, hf => by
    have hx := hf x (List.mem_cons_self ..)
    rw [List.map_cons, compLoop, hx]
    cases e : p x with
    | true =>
      have ih := compLoop_filter (p := p) (xs := xs) (acc := acc ++ [h x]) fun y hy => hf y (List.mem_cons_of_mem _ hy)
      show compLoop f (xs.map g) (acc ++ [h x]) μ = _
      rw [ih, List.filter_cons, e, List.append_assoc]
      rfl
    | false =>
      have ih := compLoop_filter (p := p) (xs := xs) (acc := acc) fun y hy => hf y (List.mem_cons_of_mem _ hy)
      show compLoop f (xs.map g) acc μ = _
      rw [ih, List.filter_cons, e]
      rfl
end LD

set_option Elab.async false
set_option linter.all false
set_option maxRecDepth 100000
set_option maxHeartbeats 0
namespace Lk12
open PySem PySem.Spec PyProof.Rows L2 LD
abbrev top (i : Nat) : Stmt := PySem.Challenge.pw_lentdoors_k12_messages_let_in.main.body.getD i (.Pass ⟨0, 0, 0, 0⟩)
def f_is_integer : Fn := ⟨1, 1,
    (.cons (.ret (.and_ (.blt .isinst (.cons (.var 0) (.cons (.con (.ty "int")) .nil))) (.not_ (.blt .isinst (.cons (.var 0) (.cons (.con (.ty "bool")) .nil)))))) .nil)⟩
abbrev s_is_integer : Stmt := top 11
def e_is_integer : Ent := ⟨"is_integer", true, fun K => He.ga K "is_integer", "is_integer", defArgs s_is_integer, defBody s_is_integer, defScope s_is_integer, ["value"], f_is_integer, []⟩
theorem b_is_integer : e_is_integer.binds := ⟨fun _ _ _ _ _ _ _ us hl => match us, hl with | [_], _ => rfl, fun h => absurd rfl h⟩
def f_is_name : Fn := ⟨1, 2,
    (.cons (.ret (.and_ (.blt .isinst (.cons (.var 0) (.cons (.con (.ty "str")) .nil))) (.and_ (.chain .le .le (.con (.int 1)) (.blt .len (.cons (.var 0) .nil)) (.con (.int 8))) (.blt .all1 (.cons (.comp (.cmp .in_ (.var 1) (.glob "LETTERS")) (.name 1) .val (.cons (.var 0) .nil) none) .nil))))) .nil)⟩
abbrev s_is_name : Stmt := top 12
def e_is_name : Ent := ⟨"is_name", true, fun K => He.ga K "is_name", "is_name", defArgs s_is_name, defBody s_is_name, defScope s_is_name, ["value", "sign"], f_is_name, []⟩
theorem b_is_name : e_is_name.binds := ⟨fun _ _ _ _ _ _ _ us hl => match us, hl with | [_], _ => rfl, fun h => absurd rfl h⟩
def f_is_kind : Fn := ⟨1, 4,
    (.cons (.ite (.or_ (.not_ (.blt .isinst (.cons (.var 0) (.cons (.con (.ty "tuple")) .nil)))) (.cmp .ne (.blt .len (.cons (.var 0) .nil)) (.con (.int 3))))
      (.cons (.ret (.con (.bl false))) .nil)
      (.nil))
    (.cons (.asg (.tup [1, 2, 3]) (.var 0))
    (.cons (.ret (.and_ (.cmp .in_ (.var 1) (.glob "LENDINGS")) (.and_ (.cmp .in_ (.var 2) (.glob "LETTINGS")) (.cmp .in_ (.var 3) (.glob "TURNINGS"))))) .nil)))⟩
abbrev s_is_kind : Stmt := top 13
def e_is_kind : Ent := ⟨"is_kind", true, fun K => He.ga K "is_kind", "is_kind", defArgs s_is_kind, defBody s_is_kind, defScope s_is_kind, ["value", "lending", "letting", "turning"], f_is_kind, []⟩
theorem b_is_kind : e_is_kind.binds := ⟨fun _ _ _ _ _ _ _ us hl => match us, hl with | [_], _ => rfl, fun h => absurd rfl h⟩
def f_is_door : Fn := ⟨1, 1,
    (.cons (.ite (.or_ (.not_ (.blt .isinst (.cons (.var 0) (.cons (.con (.ty "tuple")) .nil)))) (.or_ (.cmp .ne (.blt .len (.cons (.var 0) .nil)) (.con (.int 2))) (.not_ (.call "is_name" (.cons (.idx (.var 0) (.con (.int 0))) .nil)))))
      (.cons (.ret (.con (.bl false))) .nil)
      (.nil))
    (.cons (.ret (.and_ (.call "is_integer" (.cons (.idx (.var 0) (.con (.int 1))) .nil)) (.cmp .ge (.idx (.var 0) (.con (.int 1))) (.con (.int 0))))) .nil))⟩
abbrev s_is_door : Stmt := top 14
def e_is_door : Ent := ⟨"is_door", true, fun K => He.ga K "is_door", "is_door", defArgs s_is_door, defBody s_is_door, defScope s_is_door, ["value"], f_is_door, []⟩
theorem b_is_door : e_is_door.binds := ⟨fun _ _ _ _ _ _ _ us hl => match us, hl with | [_], _ => rfl, fun h => absurd rfl h⟩
def f_require_door : Fn := ⟨1, 1,
    (.cons (.ite (.not_ (.call "is_door" (.cons (.var 0) .nil)))
      (.cons (.raise_ "" .nil) .nil)
      (.nil)) .nil)⟩
abbrev s_require_door : Stmt := top 16
def e_require_door : Ent := ⟨"require_door", true, fun K => He.ga K "require_door", "require_door", defArgs s_require_door, defBody s_require_door, defScope s_require_door, ["door"], f_require_door, []⟩
theorem b_require_door : e_require_door.binds := ⟨fun _ _ _ _ _ _ _ us hl => match us, hl with | [_], _ => rfl, fun h => absurd rfl h⟩
abbrev f__law_dice : Fn := LD.fDiceA
abbrev s__law_dice : Stmt := top 19
def e__law_dice : Ent := ⟨"_law_dice", true, fun K => He.ga K "_law_dice", "_law_dice", defArgs s__law_dice, defBody s__law_dice, defScope s__law_dice, ["_law_script", "_law_spot", "_law_cell", "_law_whole", "_law_seed"], f__law_dice, []⟩
theorem b__law_dice : e__law_dice.binds := ⟨fun _ _ _ _ _ _ _ us hl => match us, hl with | [_, _], _ => rfl, fun h => absurd rfl h⟩
abbrev f__law_roll : Fn := LD.fRollA
abbrev s__law_roll : Stmt := top 20
def e__law_roll : Ent := ⟨"_law_roll", true, fun K => He.ga K "_law_roll", "_law_roll", defArgs s__law_roll, defBody s__law_roll, defScope s__law_roll, ["_law_dice_here", "_law_count", "_law_one", "_law_two", "_law_digit"], f__law_roll, []⟩
theorem b__law_roll : e__law_roll.binds := ⟨fun _ _ _ _ _ _ _ us hl => match us, hl with | [_, _], _ => rfl, fun h => absurd rfl h⟩
abbrev f__law_pick : Fn := LD.fPick
abbrev s__law_pick : Stmt := top 21
def e__law_pick : Ent := ⟨"_law_pick", true, fun K => He.ga K "_law_pick", "_law_pick", defArgs s__law_pick, defBody s__law_pick, defScope s__law_pick, ["_law_dice_here", "_law_items"], f__law_pick, []⟩
theorem b__law_pick : e__law_pick.binds := ⟨fun _ _ _ _ _ _ _ us hl => match us, hl with | [_, _], _ => rfl, fun h => absurd rfl h⟩
def f__law_letters : Fn := ⟨0, 0,
    (.cons (.ret (.con (.str "abcdefghijklmnopqrstuvwxyz"))) .nil)⟩
abbrev s__law_letters : Stmt := top 22
def e__law_letters : Ent := ⟨"_law_letters", true, fun K => He.ga K "_law_letters", "_law_letters", defArgs s__law_letters, defBody s__law_letters, defScope s__law_letters, [], f__law_letters, []⟩
theorem b__law_letters : e__law_letters.binds := ⟨fun _ _ _ _ _ _ _ us hl => match us, hl with | [], _ => rfl, fun h => absurd rfl h⟩
def f__law_word : Fn := ⟨1, 3,
    (.cons (.asg (.name 1) (.call "_law_pick" (.cons (.var 0) (.cons (.lst (.cons (.call "_law_letters" (.nil)) (.cons (.call "_law_letters" (.nil)) (.cons (.con (.str "ab")) (.cons (.con (.str "openz")) .nil))))) .nil))))
    (.cons (.ret (.meth .join (.con (.str "")) (.cons (.comp (.idx (.var 1) (.call "_law_roll" (.cons (.var 0) (.cons (.blt .len (.cons (.var 1) .nil)) .nil)))) (.name 2) .rng1 (.cons (.bin .add (.con (.int 1)) (.call "_law_roll" (.cons (.var 0) (.cons (.con (.int 8)) .nil)))) .nil) none) .nil))) .nil))⟩
abbrev s__law_word : Stmt := top 23
def e__law_word : Ent := ⟨"_law_word", true, fun K => He.ga K "_law_word", "_law_word", defArgs s__law_word, defBody s__law_word, defScope s__law_word, ["_law_dice_here", "_law_letters_here", "_law_turn"], f__law_word, []⟩
theorem b__law_word : e__law_word.binds := ⟨fun _ _ _ _ _ _ _ us hl => match us, hl with | [_], _ => rfl, fun h => absurd rfl h⟩
def f__law_fresh : Fn := ⟨2, 4,
    (.cons (.asg (.name 2) (.bin .add (.lst (.cons (.call "_law_word" (.cons (.var 0) .nil)) .nil)) (.rev (.blt .list1 (.cons (.call "_law_letters" (.nil)) .nil)))))
    (.cons (.ret (.idx (.comp (.var 3) (.name 3) .val (.cons (.var 2) .nil) (some (.and_ (.lin true (.var 3) (.var 1)) (.cmp .ne (.var 3) (.con (.str "open")))))) (.con (.int 0)))) .nil))⟩
abbrev s__law_fresh : Stmt := top 24
def e__law_fresh : Ent := ⟨"_law_fresh", true, fun K => He.ga K "_law_fresh", "_law_fresh", defArgs s__law_fresh, defBody s__law_fresh, defScope s__law_fresh, ["_law_dice_here", "_law_used", "_law_options", "_law_name"], f__law_fresh, []⟩
theorem b__law_fresh : e__law_fresh.binds := ⟨fun _ _ _ _ _ _ _ us hl => match us, hl with | [_, _], _ => rfl, fun h => absurd rfl h⟩
def f__law_words : Fn := ⟨0, 0,
    (.cons (.ret (.tup (.cons (.tup (.cons (.con (.str "source")) (.cons (.con (.str "address")) (.cons (.con (.str "door")) .nil)))) (.cons (.tup (.cons (.con (.str "any")) (.cons (.con (.str "address")) (.cons (.con (.str "door")) .nil)))) (.cons (.tup (.cons (.con (.str "never")) (.cons (.con (.str "lent")) (.cons (.con (.str "inner")) .nil)))) .nil))))) .nil)⟩
abbrev s__law_words : Stmt := top 25
def e__law_words : Ent := ⟨"_law_words", true, fun K => He.ga K "_law_words", "_law_words", defArgs s__law_words, defBody s__law_words, defScope s__law_words, [], f__law_words, []⟩
theorem b__law_words : e__law_words.binds := ⟨fun _ _ _ _ _ _ _ us hl => match us, hl with | [], _ => rfl, fun h => absurd rfl h⟩
def f__law_kind : Fn := ⟨1, 2,
    (.cons (.ret (.blt .tuple1 (.cons (.comp (.call "_law_pick" (.cons (.var 0) (.cons (.blt .list1 (.cons (.var 1) .nil)) .nil))) (.name 1) .val (.cons (.call "_law_words" (.nil)) .nil) none) .nil))) .nil)⟩
abbrev s__law_kind : Stmt := top 26
def e__law_kind : Ent := ⟨"_law_kind", true, fun K => He.ga K "_law_kind", "_law_kind", defArgs s__law_kind, defBody s__law_kind, defScope s__law_kind, ["_law_dice_here", "_law_words_here"], f__law_kind, []⟩
theorem b__law_kind : e__law_kind.binds := ⟨fun _ _ _ _ _ _ _ us hl => match us, hl with | [_], _ => rfl, fun h => absurd rfl h⟩
def f__law_box : Fn := ⟨2, 2,
    (.cons (.ret (.newd (.cons (.con (.str "name")) (.cons (.var 0) (.cons (.con (.str "kind")) (.cons (.var 1) (.cons (.con (.str "cases")) (.cons (.newn) (.cons (.con (.str "inner")) (.cons (.newn) (.cons (.con (.str "uses")) (.cons (.newn) (.cons (.con (.str "order")) (.cons (.newl (.nil)) .nil)))))))))))))) .nil)⟩
abbrev s__law_box : Stmt := top 27
def e__law_box : Ent := ⟨"_law_box", true, fun K => He.ga K "_law_box", "_law_box", defArgs s__law_box, defBody s__law_box, defScope s__law_box, ["_law_name", "_law_kind_here"], f__law_box, []⟩
theorem b__law_box : e__law_box.binds := ⟨fun _ _ _ _ _ _ _ us hl => match us, hl with | [_, _], _ => rfl, fun h => absurd rfl h⟩
def f__law_case : Fn := ⟨3, 4,
    (.cons (.asg (.name 3) (.idx (.dget (.var 0) (.con (.str "kind"))) (.con (.int 0))))
    (.cons (.ite (.cmp .eq (.var 3) (.con (.str "source")))
      (.cons (.ret (.tup (.cons (.var 1) (.cons (.con .non) .nil)))) .nil)
      (.nil))
    (.cons (.ret (.ite (.cmp .eq (.var 3) (.con (.str "address"))) (.tup (.cons (.var 1) (.cons (.idx (.var 2) (.con (.int 0))) .nil))) (.tup (.cons (.var 1) (.cons (.var 2) .nil))))) .nil)))⟩
abbrev s__law_case : Stmt := top 28
def e__law_case : Ent := ⟨"_law_case", true, fun K => He.ga K "_law_case", "_law_case", defArgs s__law_case, defBody s__law_case, defScope s__law_case, ["_law_box_here", "_law_source", "_law_target", "_law_word_here"], f__law_case, []⟩
theorem b__law_case : e__law_case.binds := ⟨fun _ _ _ _ _ _ _ us hl => match us, hl with | [_, _, _], _ => rfl, fun h => absurd rfl h⟩
def f__law_lend : Fn := ⟨4, 8,
    (.cons (.asg (.name 4) (.call "_law_case" (.cons (.var 0) (.cons (.var 1) (.cons (.var 2) .nil)))))
    (.cons (.ite (.din true (.var 4) (.dget (.var 0) (.con (.str "cases"))))
      (.cons (.asg (.name 6) (.llen (.dget (.var 0) (.con (.str "order")))))
      (.cons (.asg (.name 7) (.tup (.cons (.dget (.var 0) (.con (.str "name"))) (.cons (.ite (.cmp .is_ (.var 3) (.con .non)) (.bin .add (.var 6) (.con (.int 1))) (.never)) .nil))))
      (.cons (.setd2 (.dget (.var 0) (.con (.str "cases"))) (.var 4) (.dget (.var 0) (.con (.str "inner"))) (.var 7) (.var 7) (.var 1))
      (.cons (.setd (.dget (.var 0) (.con (.str "uses"))) (.var 7) (.newl (.nil)))
      (.cons (.appl (.dget (.var 0) (.con (.str "order"))) (.var 7)) .nil)))))
      (.nil))
    (.cons (.asg (.name 5) (.dget (.dget (.var 0) (.con (.str "cases"))) (.var 4)))
    (.cons (.ite (.lin true (.var 2) (.dget (.dget (.var 0) (.con (.str "uses"))) (.var 5)))
      (.cons (.appl (.dget (.dget (.var 0) (.con (.str "uses"))) (.var 5)) (.var 2)) .nil)
      (.nil))
    (.cons (.ret (.var 5)) .nil)))))⟩
abbrev s__law_lend : Stmt := top 29
def e__law_lend : Ent := ⟨"_law_lend", true, fun K => He.ga K "_law_lend", "_law_lend", defArgs s__law_lend, defBody s__law_lend, defScope s__law_lend, ["_law_box_here", "_law_source", "_law_target", "_law_chooser", "_law_case_here", "_law_found", "_law_count", "_law_door"], f__law_lend, []⟩
theorem b__law_lend : e__law_lend.binds := ⟨fun _ _ _ _ _ _ _ us hl => match us, hl with | [_, _, _, _], _ => rfl, fun h => absurd rfl h⟩
def f__law_opens : Fn := ⟨3, 6,
    (.cons (.par [(3, false), (4, false)] (.cons (.idx (.dget (.var 0) (.con (.str "kind"))) (.con (.int 1))) (.cons (.dget (.dget (.var 0) (.con (.str "uses"))) (.var 1)) .nil)))
    (.cons (.ite (.cmp .eq (.var 3) (.con (.str "any")))
      (.cons (.ret (.con (.bl true))) .nil)
      (.nil))
    (.cons (.ret (.ite (.cmp .eq (.var 3) (.con (.str "door"))) (.lin false (.var 2) (.var 4)) (.cmp .in_ (.idx (.var 2) (.con (.int 0))) (.comps (.idx (.var 5) (.con (.int 0))) (.name 5) (.var 4) none)))) .nil)))⟩
abbrev s__law_opens : Stmt := top 30
def e__law_opens : Ent := ⟨"_law_opens", true, fun K => He.ga K "_law_opens", "_law_opens", defArgs s__law_opens, defBody s__law_opens, defScope s__law_opens, ["_law_box_here", "_law_door", "_law_source", "_law_word_here", "_law_uses", "_law_target"], f__law_opens, []⟩
theorem b__law_opens : e__law_opens.binds := ⟨fun _ _ _ _ _ _ _ us hl => match us, hl with | [_, _, _], _ => rfl, fun h => absurd rfl h⟩
def f__law_is_box_as_l0 : Sms :=
    (.cons (.ite (.or_ (.cmp .ne (.mcall "LiveBox" "inner" "LiveBox.inner" (.var 0) (.cons (.var 2) .nil)) (.dget (.dget (.var 1) (.con (.str "inner"))) (.var 2))) (.cmp .ne (.mcall "LiveBox" "used" "LiveBox.used" (.var 0) (.cons (.var 2) .nil)) (.blt .tuple1 (.cons (.lsort (.dget (.dget (.var 1) (.con (.str "uses"))) (.var 2))) .nil))))
      (.cons (.ret (.con (.bl false))) .nil)
      (.nil)) .nil)
def f__law_is_box_as : Fn := ⟨2, 5,
    (.cons (.par [(3, false), (4, false)] (.cons (.llen (.dget (.var 1) (.con (.str "order")))) (.cons (.dget (.var 1) (.con (.str "name"))) .nil)))
    (.cons (.ite (.or_ (.cmp .ne (.prop "LiveBox" "address" "LiveBox.address" (.var 0)) (.var 4)) (.or_ (.cmp .ne (.prop "LiveBox" "kind" "LiveBox.kind" (.var 0)) (.dget (.var 1) (.con (.str "kind")))) (.cmp .ne (.olen "LiveBox" "LiveBox.__len__" (.var 0)) (.var 3))))
      (.cons (.ret (.con (.bl false))) .nil)
      (.nil))
    (.cons (.ite (.or_ (.cmp .ne (.mcall "LiveBox" "doors" "LiveBox.doors" (.var 0) (.nil)) (.blt .tuple1 (.cons (.lsort (.dget (.var 1) (.con (.str "order")))) .nil))) (.cmp .ne (.ostr "LiveBox" "LiveBox.__str__" (.var 0)) (.fstr (.cons (.con (.str "box ")) (.cons (.var 4) (.cons (.con (.str " with ")) (.cons (.var 3) (.cons (.con (.str " doors")) .nil))))))))
      (.cons (.ret (.con (.bl false))) .nil)
      (.nil))
    (.cons (.forl (.name 2) (.dget (.var 1) (.con (.str "order"))) f__law_is_box_as_l0)
    (.cons (.ret (.con (.bl true))) .nil)))))⟩
abbrev s__law_is_box_as : Stmt := top 31
def e__law_is_box_as : Ent := ⟨"_law_is_box_as", true, fun K => He.ga K "_law_is_box_as", "_law_is_box_as", defArgs s__law_is_box_as, defBody s__law_is_box_as, defScope s__law_is_box_as, ["_law_live", "_law_box_here", "_law_door", "_law_count", "_law_name"], f__law_is_box_as, []⟩
theorem b__law_is_box_as : e__law_is_box_as.binds := ⟨fun _ _ _ _ _ _ _ us hl => match us, hl with | [_, _], _ => rfl, fun h => absurd rfl h⟩
def f__law_doors : Fn := ⟨1, 7,
    (.cons (.asg (.name 1) (.newl (.cons (.call "_law_word" (.cons (.var 0) .nil)) .nil)))
    (.cons (.appl (.var 1) (.call "_law_fresh" (.cons (.var 0) (.cons (.var 1) .nil))))
    (.cons (.appl (.var 1) (.call "_law_fresh" (.cons (.var 0) (.cons (.var 1) .nil))))
    (.cons (.asg (.name 2) (.bin .add (.bin .pow (.con (.int 10)) (.con (.int 39))) (.call "_law_roll" (.cons (.var 0) (.cons (.bin .pow (.con (.int 10)) (.con (.int 12))) .nil)))))
    (.cons (.unl [4, 5, 6] (.var 1))
    (.cons (.asg (.name 3) (.lst (.cons (.tup (.cons (.var 4) (.cons (.con (.int 0)) .nil))) (.cons (.tup (.cons (.var 4) (.cons (.con (.int 1)) .nil))) (.cons (.tup (.cons (.var 4) (.cons (.var 2) .nil))) (.cons (.tup (.cons (.var 5) (.cons (.con (.int 0)) .nil))) (.cons (.tup (.cons (.var 5) (.cons (.var 2) .nil))) (.cons (.tup (.cons (.var 6) (.cons (.con (.int 1)) .nil))) .nil))))))))
    (.cons (.ret (.bin .add (.var 3) (.lst (.cons (.tup (.cons (.var 6) (.cons (.bin .add (.con (.int 2)) (.call "_law_roll" (.cons (.var 0) (.cons (.con (.int 50)) .nil)))) .nil))) (.cons (.tup (.cons (.var 5) (.cons (.con (.int 70)) .nil))) .nil))))) .nil)))))))⟩
abbrev s__law_doors : Stmt := top 32
def e__law_doors : Ent := ⟨"_law_doors", true, fun K => He.ga K "_law_doors", "_law_doors", defArgs s__law_doors, defBody s__law_doors, defScope s__law_doors, ["_law_dice_here", "_law_names", "_law_great", "_law_found", "_law_one", "_law_two", "_law_three"], f__law_doors, []⟩
theorem b__law_doors : e__law_doors.binds := ⟨fun _ _ _ _ _ _ _ us hl => match us, hl with | [_], _ => rfl, fun h => absurd rfl h⟩
def f__law_right_l0 : Sms :=
    (.cons (.asg (.name 11) (.mcall "LiveBox" "lets_in" "LiveBox.lets_in" (.var 5) (.cons (.var 9) (.cons (.var 10) .nil))))
    (.cons (.ite (.or_ (.not_ (.blt .isinst (.cons (.var 11) (.cons (.con (.ty "bool")) .nil)))) (.cmp .ne (.var 11) (.call "_law_opens" (.cons (.var 6) (.cons (.var 9) (.cons (.var 10) .nil))))))
      (.cons (.ret (.con (.bl false))) .nil)
      (.nil)) .nil))
def f__law_right_l1 : Sms :=
    (.cons (.for_ (.name 10) .val (.cons (.bin .add (.var 1) (.lst (.cons (.var 9) .nil))) .nil) f__law_right_l0) .nil)
def f__law_right_l2 : Sms :=
    (.cons (.asg (.name 7) (.call "_law_pick" (.cons (.var 0) (.cons (.slice .hi (.var 1) (.cons (.con (.int 4)) .nil)) .nil))))
    (.cons (.asg (.name 8) (.call "_law_pick" (.cons (.var 0) (.cons (.var 1) .nil))))
    (.cons (.expr (.mcall "LiveBox" "lend" "LiveBox.lend" (.var 5) (.cons (.var 7) (.cons (.var 8) .nil))))
    (.cons (.expr (.call "_law_lend" (.cons (.var 6) (.cons (.var 7) (.cons (.var 8) (.cons (.con .non) .nil))))))
    (.cons (.forl (.name 9) (.dget (.var 6) (.con (.str "order"))) f__law_right_l1) .nil)))))
def f__law_right : Fn := ⟨1, 12,
    (.cons (.par [(3, false), (4, false)] (.cons (.call "_law_word" (.cons (.var 0) .nil)) (.cons (.call "_law_kind" (.cons (.var 0) .nil)) .nil)))
    (.cons (.asg (.name 1) (.call "_law_doors" (.cons (.var 0) .nil)))
    (.cons (.par [(5, false), (6, false)] (.cons (.new "LiveBox" "LiveBox.__init__" (.cons (.var 3) (.cons (.var 4) .nil)) [.non]) (.cons (.call "_law_box" (.cons (.var 3) (.cons (.var 4) .nil))) .nil)))
    (.cons (.for_ (.name 2) .rng1 (.cons (.bin .add (.con (.int 2)) (.call "_law_roll" (.cons (.var 0) (.cons (.con (.int 15)) .nil)))) .nil) f__law_right_l2)
    (.cons (.ret (.call "_law_is_box_as" (.cons (.var 5) (.cons (.var 6) .nil)))) .nil)))))⟩
abbrev s__law_right : Stmt := top 33
def e__law_right : Ent := ⟨"_law_right", true, fun K => He.ga K "_law_right", "_law_right", defArgs s__law_right, defBody s__law_right, defScope s__law_right, ["_law_dice_here", "_law_doors_here", "_law_turn", "_law_name", "_law_kind_here", "_law_live", "_law_box_here", "_law_source", "_law_target", "_law_door", "_law_one", "_law_found"], f__law_right, []⟩
theorem b__law_right : e__law_right.binds := ⟨fun _ _ _ _ _ _ _ us hl => match us, hl with | [_], _ => rfl, fun h => absurd rfl h⟩
def f_law_l0 : Sms :=
    (.cons (.ite (.not_ (.call "_law_right" (.cons (.call "_law_dice" (.cons (.var 0) (.cons (.var 1) .nil))) .nil)))
      (.cons (.ret (.con (.bl false))) .nil)
      (.nil)) .nil)
def f_law : Fn := ⟨1, 2,
    (.cons (.for_ (.name 1) .rng1 (.cons (.blt .max2 (.cons (.con (.int 1)) (.cons (.blt .min2 (.cons (.con (.int 6)) (.cons (.blt .len (.cons (.var 0) .nil)) .nil))) .nil))) .nil) f_law_l0)
    (.cons (.ret (.con (.bl true))) .nil))⟩
abbrev s_law : Stmt := top 34
def e_law : Ent := ⟨"law", true, fun K => He.ga K "law", "law", defArgs s_law, defBody s_law, defScope s_law, ["_law_script", "_law_spot"], f_law, []⟩
theorem b_law : e_law.binds := ⟨fun _ _ _ _ _ _ _ us hl => match us, hl with | [_], _ => rfl, fun h => absurd rfl h⟩
def f_LiveBox___init__ : Fn := ⟨4, 4,
    (.cons (.ite (.or_ (.not_ (.call "is_name" (.cons (.var 1) .nil))) (.not_ (.call "is_kind" (.cons (.var 2) .nil))))
      (.cons (.raise_ "" .nil) .nil)
      (.nil))
    (.cons (.setf (.var 0) "own_name" ["LiveBox"] (.var 1))
    (.cons (.setf (.var 0) "own_kind" ["LiveBox"] (.var 2))
    (.cons (.setf (.var 0) "own_numbers" ["LiveBox"] (.var 3))
    (.cons (.setf (.var 0) "own_cases" ["LiveBox"] (.newn))
    (.cons (.setf (.var 0) "own_inners" ["LiveBox"] (.newd (.nil)))
    (.cons (.setf (.var 0) "own_uses" ["LiveBox"] (.newd (.nil)))
    (.cons (.setf (.var 0) "own_order" ["LiveBox"] (.newl (.nil))) .nil))))))))⟩
abbrev s_LiveBox___init__ : Stmt := (clsBody (top 17)).getD 0 (.Pass ⟨0, 0, 0, 0⟩)
def e_LiveBox___init__ : Ent := ⟨"LiveBox.__init__", false, fun K => He.ma K (He.ga K "LiveBox") "__init__", "__init__", defArgs s_LiveBox___init__, defBody s_LiveBox___init__, defScope s_LiveBox___init__, ["self", "name", "kind", "numbers"], f_LiveBox___init__, [("numbers", .non)]⟩
theorem b_LiveBox___init__ : e_LiveBox___init__.binds := ⟨(fun h => nomatch h), fun _ _ _ _ _ _ _ us ks h1 h2 => match us, ks, h1, h2 with | [_, _, _], [_], _, _ => ⟨_, _, _, _, _, _, rfl, rfl, rfl⟩⟩
def f_LiveBox_address : Fn := ⟨1, 1,
    (.cons (.ret (.attr (.var 0) "own_name" ["LiveBox"])) .nil)⟩
abbrev s_LiveBox_address : Stmt := (clsBody (top 17)).getD 1 (.Pass ⟨0, 0, 0, 0⟩)
def e_LiveBox_address : Ent := ⟨"LiveBox.address", false, fun K => He5.wf K (He.ga K "LiveBox") "property" "address", "address", defArgs s_LiveBox_address, defBody s_LiveBox_address, defScope s_LiveBox_address, ["self"], f_LiveBox_address, []⟩
theorem b_LiveBox_address : e_LiveBox_address.binds := ⟨fun _ _ _ _ _ _ _ us hl => match us, hl with | [_], _ => rfl, fun h => absurd rfl h⟩
def f_LiveBox_kind : Fn := ⟨1, 1,
    (.cons (.ret (.attr (.var 0) "own_kind" ["LiveBox"])) .nil)⟩
abbrev s_LiveBox_kind : Stmt := (clsBody (top 17)).getD 2 (.Pass ⟨0, 0, 0, 0⟩)
def e_LiveBox_kind : Ent := ⟨"LiveBox.kind", false, fun K => He5.wf K (He.ga K "LiveBox") "property" "kind", "kind", defArgs s_LiveBox_kind, defBody s_LiveBox_kind, defScope s_LiveBox_kind, ["self"], f_LiveBox_kind, []⟩
theorem b_LiveBox_kind : e_LiveBox_kind.binds := ⟨fun _ _ _ _ _ _ _ us hl => match us, hl with | [_], _ => rfl, fun h => absurd rfl h⟩
def f_LiveBox_case_of : Fn := ⟨3, 3,
    (.cons (.ite (.cmp .eq (.idx (.attr (.var 0) "own_kind" ["LiveBox"]) (.con (.int 0))) (.con (.str "source")))
      (.cons (.ret (.tup (.cons (.var 1) (.cons (.con .non) .nil)))) .nil)
      (.nil))
    (.cons (.ret (.ite (.cmp .eq (.idx (.attr (.var 0) "own_kind" ["LiveBox"]) (.con (.int 0))) (.con (.str "address"))) (.tup (.cons (.var 1) (.cons (.idx (.var 2) (.con (.int 0))) .nil))) (.tup (.cons (.var 1) (.cons (.var 2) .nil))))) .nil))⟩
abbrev s_LiveBox_case_of : Stmt := (clsBody (top 17)).getD 3 (.Pass ⟨0, 0, 0, 0⟩)
def e_LiveBox_case_of : Ent := ⟨"LiveBox.case_of", false, fun K => He.ma K (He.ga K "LiveBox") "case_of", "case_of", defArgs s_LiveBox_case_of, defBody s_LiveBox_case_of, defScope s_LiveBox_case_of, ["self", "source", "target"], f_LiveBox_case_of, []⟩
theorem b_LiveBox_case_of : e_LiveBox_case_of.binds := ⟨fun _ _ _ _ _ _ _ us hl => match us, hl with | [_, _, _], _ => rfl, fun h => absurd rfl h⟩
def f_LiveBox_offer : Fn := ⟨3, 7,
    (.cons (.asg (.name 3) (.mcall "LiveBox" "case_of" "LiveBox.case_of" (.var 0) (.cons (.var 1) (.cons (.var 2) .nil))))
    (.cons (.ite (.din false (.var 3) (.attr (.var 0) "own_cases" ["LiveBox"]))
      (.cons (.ret (.dget (.attr (.var 0) "own_cases" ["LiveBox"]) (.var 3))) .nil)
      (.nil))
    (.cons (.asg (.name 4) (.llen (.attr (.var 0) "own_order" ["LiveBox"])))
    (.cons (.asg (.name 5) (.attr (.var 0) "own_numbers" ["LiveBox"]))
    (.cons (.asg (.name 6) (.ite (.cmp .is_ (.var 5) (.con .non)) (.bin .add (.var 4) (.con (.int 1))) (.never)))
    (.cons (.ite (.or_ (.not_ (.call "is_integer" (.cons (.var 6) .nil))) (.or_ (.cmp .lt (.var 6) (.con (.int 0))) (.din false (.var 6) (.attr (.var 0) "own_inners" ["LiveBox"]))))
      (.cons (.raise_ "" .nil) .nil)
      (.nil))
    (.cons (.ret (.var 6)) .nil)))))))⟩
abbrev s_LiveBox_offer : Stmt := (clsBody (top 17)).getD 4 (.Pass ⟨0, 0, 0, 0⟩)
def e_LiveBox_offer : Ent := ⟨"LiveBox.offer", false, fun K => He.ma K (He.ga K "LiveBox") "offer", "offer", defArgs s_LiveBox_offer, defBody s_LiveBox_offer, defScope s_LiveBox_offer, ["self", "source", "target", "case", "many", "choose", "number"], f_LiveBox_offer, []⟩
theorem b_LiveBox_offer : e_LiveBox_offer.binds := ⟨fun _ _ _ _ _ _ _ us hl => match us, hl with | [_, _, _], _ => rfl, fun h => absurd rfl h⟩
def f_LiveBox_settle : Fn := ⟨4, 7,
    (.cons (.asg (.name 4) (.din true (.var 3) (.attr (.var 0) "own_inners" ["LiveBox"])))
    (.cons (.ite (.var 4)
      (.cons (.setd (.attr (.var 0) "own_cases" ["LiveBox"]) (.mcall "LiveBox" "case_of" "LiveBox.case_of" (.var 0) (.cons (.var 1) (.cons (.var 2) .nil))) (.var 3))
      (.cons (.setd (.attr (.var 0) "own_inners" ["LiveBox"]) (.var 3) (.var 1))
      (.cons (.setd (.attr (.var 0) "own_uses" ["LiveBox"]) (.var 3) (.newn))
      (.cons (.appl (.attr (.var 0) "own_order" ["LiveBox"]) (.tup (.cons (.attr (.var 0) "own_name" ["LiveBox"]) (.cons (.var 3) .nil)))) .nil))))
      (.nil))
    (.cons (.asg (.name 5) (.dget (.attr (.var 0) "own_uses" ["LiveBox"]) (.var 3)))
    (.cons (.asg (.name 6) (.din true (.var 2) (.var 5)))
    (.cons (.setd (.var 5) (.var 2) (.con (.bl true)))
    (.cons (.ret (.tup (.cons (.var 4) (.cons (.var 6) .nil)))) .nil))))))⟩
abbrev s_LiveBox_settle : Stmt := (clsBody (top 17)).getD 5 (.Pass ⟨0, 0, 0, 0⟩)
def e_LiveBox_settle : Ent := ⟨"LiveBox.settle", false, fun K => He.ma K (He.ga K "LiveBox") "settle", "settle", defArgs s_LiveBox_settle, defBody s_LiveBox_settle, defScope s_LiveBox_settle, ["self", "source", "target", "number", "fresh", "uses", "noted"], f_LiveBox_settle, []⟩
theorem b_LiveBox_settle : e_LiveBox_settle.binds := ⟨fun _ _ _ _ _ _ _ us hl => match us, hl with | [_, _, _, _], _ => rfl, fun h => absurd rfl h⟩
def f_LiveBox_lend : Fn := ⟨3, 4,
    (.cons (.expr (.call "require_door" (.cons (.var 1) .nil)))
    (.cons (.expr (.call "require_door" (.cons (.var 2) .nil)))
    (.cons (.asg (.name 3) (.mcall "LiveBox" "offer" "LiveBox.offer" (.var 0) (.cons (.var 1) (.cons (.var 2) .nil))))
    (.cons (.expr (.mcall "LiveBox" "settle" "LiveBox.settle" (.var 0) (.cons (.var 1) (.cons (.var 2) (.cons (.var 3) .nil)))))
    (.cons (.ret (.tup (.cons (.attr (.var 0) "own_name" ["LiveBox"]) (.cons (.var 3) .nil)))) .nil)))))⟩
abbrev s_LiveBox_lend : Stmt := (clsBody (top 17)).getD 7 (.Pass ⟨0, 0, 0, 0⟩)
def e_LiveBox_lend : Ent := ⟨"LiveBox.lend", false, fun K => He.ma K (He.ga K "LiveBox") "lend", "lend", defArgs s_LiveBox_lend, defBody s_LiveBox_lend, defScope s_LiveBox_lend, ["self", "source", "target", "number"], f_LiveBox_lend, []⟩
theorem b_LiveBox_lend : e_LiveBox_lend.binds := ⟨fun _ _ _ _ _ _ _ us hl => match us, hl with | [_, _, _], _ => rfl, fun h => absurd rfl h⟩
def f_LiveBox_require_lent : Fn := ⟨2, 2,
    (.cons (.ite (.oin "LiveBox" "LiveBox.__contains__" true (.var 1) (.var 0))
      (.cons (.raise_ "" .nil) .nil)
      (.nil)) .nil)⟩
abbrev s_LiveBox_require_lent : Stmt := (clsBody (top 17)).getD 8 (.Pass ⟨0, 0, 0, 0⟩)
def e_LiveBox_require_lent : Ent := ⟨"LiveBox.require_lent", false, fun K => He.ma K (He.ga K "LiveBox") "require_lent", "require_lent", defArgs s_LiveBox_require_lent, defBody s_LiveBox_require_lent, defScope s_LiveBox_require_lent, ["self", "door"], f_LiveBox_require_lent, []⟩
theorem b_LiveBox_require_lent : e_LiveBox_require_lent.binds := ⟨fun _ _ _ _ _ _ _ us hl => match us, hl with | [_, _], _ => rfl, fun h => absurd rfl h⟩
def f_LiveBox_lets_in : Fn := ⟨3, 5,
    (.cons (.expr (.mcall "LiveBox" "require_lent" "LiveBox.require_lent" (.var 0) (.cons (.var 1) .nil)))
    (.cons (.expr (.call "require_door" (.cons (.var 2) .nil)))
    (.cons (.asg (.name 3) (.dget (.attr (.var 0) "own_uses" ["LiveBox"]) (.idx (.var 1) (.con (.int 1)))))
    (.cons (.ite (.cmp .eq (.idx (.attr (.var 0) "own_kind" ["LiveBox"]) (.con (.int 1))) (.con (.str "any")))
      (.cons (.ret (.con (.bl true))) .nil)
      (.nil))
    (.cons (.ite (.cmp .eq (.idx (.attr (.var 0) "own_kind" ["LiveBox"]) (.con (.int 1))) (.con (.str "door")))
      (.cons (.ret (.din false (.var 2) (.var 3))) .nil)
      (.nil))
    (.cons (.ret (.blt .any1 (.cons (.comps (.cmp .eq (.idx (.var 4) (.con (.int 0))) (.idx (.var 2) (.con (.int 0)))) (.name 4) (.var 3) none) .nil))) .nil))))))⟩
abbrev s_LiveBox_lets_in : Stmt := (clsBody (top 17)).getD 9 (.Pass ⟨0, 0, 0, 0⟩)
def e_LiveBox_lets_in : Ent := ⟨"LiveBox.lets_in", false, fun K => He.ma K (He.ga K "LiveBox") "lets_in", "lets_in", defArgs s_LiveBox_lets_in, defBody s_LiveBox_lets_in, defScope s_LiveBox_lets_in, ["self", "door", "source", "uses", "target"], f_LiveBox_lets_in, []⟩
theorem b_LiveBox_lets_in : e_LiveBox_lets_in.binds := ⟨fun _ _ _ _ _ _ _ us hl => match us, hl with | [_, _, _], _ => rfl, fun h => absurd rfl h⟩
def f_LiveBox_inner : Fn := ⟨2, 2,
    (.cons (.expr (.mcall "LiveBox" "require_lent" "LiveBox.require_lent" (.var 0) (.cons (.var 1) .nil)))
    (.cons (.ret (.dget (.attr (.var 0) "own_inners" ["LiveBox"]) (.idx (.var 1) (.con (.int 1))))) .nil))⟩
abbrev s_LiveBox_inner : Stmt := (clsBody (top 17)).getD 10 (.Pass ⟨0, 0, 0, 0⟩)
def e_LiveBox_inner : Ent := ⟨"LiveBox.inner", false, fun K => He.ma K (He.ga K "LiveBox") "inner", "inner", defArgs s_LiveBox_inner, defBody s_LiveBox_inner, defScope s_LiveBox_inner, ["self", "door"], f_LiveBox_inner, []⟩
theorem b_LiveBox_inner : e_LiveBox_inner.binds := ⟨fun _ _ _ _ _ _ _ us hl => match us, hl with | [_, _], _ => rfl, fun h => absurd rfl h⟩
def f_LiveBox_used : Fn := ⟨2, 2,
    (.cons (.expr (.mcall "LiveBox" "require_lent" "LiveBox.require_lent" (.var 0) (.cons (.var 1) .nil)))
    (.cons (.ret (.blt .tuple1 (.cons (.lsort (.dget (.attr (.var 0) "own_uses" ["LiveBox"]) (.idx (.var 1) (.con (.int 1))))) .nil))) .nil))⟩
abbrev s_LiveBox_used : Stmt := (clsBody (top 17)).getD 11 (.Pass ⟨0, 0, 0, 0⟩)
def e_LiveBox_used : Ent := ⟨"LiveBox.used", false, fun K => He.ma K (He.ga K "LiveBox") "used", "used", defArgs s_LiveBox_used, defBody s_LiveBox_used, defScope s_LiveBox_used, ["self", "door"], f_LiveBox_used, []⟩
theorem b_LiveBox_used : e_LiveBox_used.binds := ⟨fun _ _ _ _ _ _ _ us hl => match us, hl with | [_, _], _ => rfl, fun h => absurd rfl h⟩
def f_LiveBox_doors : Fn := ⟨1, 1,
    (.cons (.ret (.blt .tuple1 (.cons (.lsort (.attr (.var 0) "own_order" ["LiveBox"])) .nil))) .nil)⟩
abbrev s_LiveBox_doors : Stmt := (clsBody (top 17)).getD 12 (.Pass ⟨0, 0, 0, 0⟩)
def e_LiveBox_doors : Ent := ⟨"LiveBox.doors", false, fun K => He.ma K (He.ga K "LiveBox") "doors", "doors", defArgs s_LiveBox_doors, defBody s_LiveBox_doors, defScope s_LiveBox_doors, ["self"], f_LiveBox_doors, []⟩
theorem b_LiveBox_doors : e_LiveBox_doors.binds := ⟨fun _ _ _ _ _ _ _ us hl => match us, hl with | [_], _ => rfl, fun h => absurd rfl h⟩
def f_LiveBox___contains__ : Fn := ⟨2, 2,
    (.cons (.ret (.and_ (.call "is_door" (.cons (.var 1) .nil)) (.and_ (.cmp .eq (.idx (.var 1) (.con (.int 0))) (.attr (.var 0) "own_name" ["LiveBox"])) (.din false (.idx (.var 1) (.con (.int 1))) (.attr (.var 0) "own_inners" ["LiveBox"]))))) .nil)⟩
abbrev s_LiveBox___contains__ : Stmt := (clsBody (top 17)).getD 14 (.Pass ⟨0, 0, 0, 0⟩)
def e_LiveBox___contains__ : Ent := ⟨"LiveBox.__contains__", false, fun K => He.ma K (He.ga K "LiveBox") "__contains__", "__contains__", defArgs s_LiveBox___contains__, defBody s_LiveBox___contains__, defScope s_LiveBox___contains__, ["self", "value"], f_LiveBox___contains__, []⟩
theorem b_LiveBox___contains__ : e_LiveBox___contains__.binds := ⟨fun _ _ _ _ _ _ _ us hl => match us, hl with | [_, _], _ => rfl, fun h => absurd rfl h⟩
def f_LiveBox___len__ : Fn := ⟨1, 1,
    (.cons (.ret (.llen (.attr (.var 0) "own_order" ["LiveBox"]))) .nil)⟩
abbrev s_LiveBox___len__ : Stmt := (clsBody (top 17)).getD 16 (.Pass ⟨0, 0, 0, 0⟩)
def e_LiveBox___len__ : Ent := ⟨"LiveBox.__len__", false, fun K => He.ma K (He.ga K "LiveBox") "__len__", "__len__", defArgs s_LiveBox___len__, defBody s_LiveBox___len__, defScope s_LiveBox___len__, ["self"], f_LiveBox___len__, []⟩
theorem b_LiveBox___len__ : e_LiveBox___len__.binds := ⟨fun _ _ _ _ _ _ _ us hl => match us, hl with | [_], _ => rfl, fun h => absurd rfl h⟩
def f_LiveBox___str__ : Fn := ⟨1, 1,
    (.cons (.ret (.fstr (.cons (.con (.str "box ")) (.cons (.attr (.var 0) "own_name" ["LiveBox"]) (.cons (.con (.str " with ")) (.cons (.llen (.attr (.var 0) "own_order" ["LiveBox"])) (.cons (.con (.str " doors")) .nil))))))) .nil)⟩
abbrev s_LiveBox___str__ : Stmt := (clsBody (top 17)).getD 18 (.Pass ⟨0, 0, 0, 0⟩)
def e_LiveBox___str__ : Ent := ⟨"LiveBox.__str__", false, fun K => He.ma K (He.ga K "LiveBox") "__str__", "__str__", defArgs s_LiveBox___str__, defBody s_LiveBox___str__, defScope s_LiveBox___str__, ["self"], f_LiveBox___str__, []⟩
theorem b_LiveBox___str__ : e_LiveBox___str__.binds := ⟨fun _ _ _ _ _ _ _ us hl => match us, hl with | [_], _ => rfl, fun h => absurd rfl h⟩
def es : List Ent := [e_is_integer, e_is_name, e_is_kind, e_is_door, e_require_door, e__law_dice, e__law_roll, e__law_pick, e__law_letters, e__law_word, e__law_fresh, e__law_words, e__law_kind, e__law_box, e__law_case, e__law_lend, e__law_opens, e__law_is_box_as, e__law_doors, e__law_right, e_law, e_LiveBox___init__, e_LiveBox_address, e_LiveBox_kind, e_LiveBox_case_of, e_LiveBox_offer, e_LiveBox_settle, e_LiveBox_lend, e_LiveBox_require_lent, e_LiveBox_lets_in, e_LiveBox_inner, e_LiveBox_used, e_LiveBox_doors, e_LiveBox___contains__, e_LiveBox___len__, e_LiveBox___str__]
def cs : List (Str × D) := [("LENDINGS", .tup [.str "source", .str "address", .str "door"]), ("LETTINGS", .tup [.str "any", .str "address", .str "door"]), ("TURNINGS", .tup [.str "never", .str "lent", .str "inner"]), ("LETTERS", .str "abcdefghijklmnopqrstuvwxyz")]
theorem es_binds : ∀ e ∈ es, e.binds := by
  intro e he
  simp only [es, List.mem_cons, List.not_mem_nil, or_false] at he
  rcases he with rfl | rfl | rfl | rfl | rfl | rfl | rfl | rfl | rfl | rfl | rfl | rfl | rfl | rfl | rfl | rfl | rfl | rfl | rfl | rfl | rfl | rfl | rfl | rfl | rfl | rfl | rfl | rfl | rfl | rfl | rfl | rfl | rfl | rfl | rfl | rfl
  · exact b_is_integer
  · exact b_is_name
  · exact b_is_kind
  · exact b_is_door
  · exact b_require_door
  · exact b__law_dice
  · exact b__law_roll
  · exact b__law_pick
  · exact b__law_letters
  · exact b__law_word
  · exact b__law_fresh
  · exact b__law_words
  · exact b__law_kind
  · exact b__law_box
  · exact b__law_case
  · exact b__law_lend
  · exact b__law_opens
  · exact b__law_is_box_as
  · exact b__law_doors
  · exact b__law_right
  · exact b_law
  · exact b_LiveBox___init__
  · exact b_LiveBox_address
  · exact b_LiveBox_kind
  · exact b_LiveBox_case_of
  · exact b_LiveBox_offer
  · exact b_LiveBox_settle
  · exact b_LiveBox_lend
  · exact b_LiveBox_require_lent
  · exact b_LiveBox_lets_in
  · exact b_LiveBox_inner
  · exact b_LiveBox_used
  · exact b_LiveBox_doors
  · exact b_LiveBox___contains__
  · exact b_LiveBox___len__
  · exact b_LiveBox___str__
theorem es_glo : ∀ K, ∀ e ∈ es, e.glob = true → e.at_ K = He.ga K e.f := by
  intro K e he
  simp only [es, List.mem_cons, List.not_mem_nil, or_false] at he
  rcases he with rfl | rfl | rfl | rfl | rfl | rfl | rfl | rfl | rfl | rfl | rfl | rfl | rfl | rfl | rfl | rfl | rfl | rfl | rfl | rfl | rfl | rfl | rfl | rfl | rfl | rfl | rfl | rfl | rfl | rfl | rfl | rfl | rfl | rfl | rfl | rfl <;> first | exact fun _ => rfl | exact fun h => nomatch h
def xs : List Str := []
def ys : Xs := {}
theorem ys_binds : ∀ m ∈ ys.ms, m.binds := fun m h => absurd h (List.not_mem_nil)
def cl : Cl := { mt := [("LiveBox", "case_of", "LiveBox.case_of", 3), ("LiveBox", "offer", "LiveBox.offer", 3), ("LiveBox", "settle", "LiveBox.settle", 4), ("LiveBox", "lend", "LiveBox.lend", 3), ("LiveBox", "require_lent", "LiveBox.require_lent", 2), ("LiveBox", "lets_in", "LiveBox.lets_in", 3), ("LiveBox", "inner", "LiveBox.inner", 2), ("LiveBox", "used", "LiveBox.used", 2), ("LiveBox", "doors", "LiveBox.doors", 1), ("LiveBox", "__contains__", "LiveBox.__contains__", 2), ("LiveBox", "__len__", "LiveBox.__len__", 1), ("LiveBox", "__str__", "LiveBox.__str__", 1)], pr := [("LiveBox", "address", "LiveBox.address"), ("LiveBox", "kind", "LiveBox.kind")], nw := [("LiveBox", "LiveBox.__init__", 4, [.non])], fl := [("LiveBox", "own_name"), ("LiveBox", "own_kind"), ("LiveBox", "own_numbers"), ("LiveBox", "own_cases"), ("LiveBox", "own_inners"), ("LiveBox", "own_uses"), ("LiveBox", "own_order")] }
def loose : List Str := ["_wall", "DoorError", "InvalidKind", "InvalidDoor", "InvalidNumber", "LENDINGS", "LETTINGS", "TURNINGS", "LETTERS", "is_integer", "is_name", "is_kind", "is_door", "require_door", "LiveBox", "_law_dice", "_law_roll", "_law_pick", "_law_letters", "_law_word", "_law_fresh", "_law_words", "_law_kind", "_law_box", "_law_case", "_law_lend", "_law_opens", "_law_is_box_as", "_law_doors", "_law_right"]
theorem es_nd : (es.map Ent.f).Nodup := by decide +kernel
theorem es_ps : es.all (fun e => decide (e.b.ps ≠ 1000)) = true := by decide +kernel
theorem ys_ok : ys.ok = true := by decide +kernel
theorem cl_ok : cl.ok es = true := by decide +kernel
theorem es_ok : es.all (Ent.ok (tabT es xs ys cl)) = true := by decide +kernel
abbrev R : PySem.W.OpenRow := PySem.W.OpenLaw.row PySem.Challenge.rw_lentdoors_k12_messages_let_in
abbrev hk : PySem.W.Hook := hookL 7 (faL es xs) (es.map Ent.dd ++ ys.ms.map Xm.dd) cs ys es cl
def ob (s : PySem.W.SharedT) : AlL := obsLG 7 (faL es xs) (es.map Ent.dd ++ ys.ms.map Xm.dd) cs ys es cl (HandSHeadRun.getT s)
theorem ob_eq (s : PySem.W.SharedT) : ob s = hk.obs s.abs := obsLG_eq (HandSHeadRun.getT_eq s)
end Lk12
-- law at 34

set_option Elab.async false
set_option linter.all false
set_option maxRecDepth 100000
set_option maxHeartbeats 0
namespace Lk12
open PySem PySem.Spec PyProof.Rows L2 LD
theorem run (w : World) : HandSHeadRun.RunEq R (PySem.W.view R.prog [34]) hk ob 20000 loose w := by
  intro os
  kernel_rfl
end Lk12

set_option Elab.async false
set_option linter.all false
set_option maxRecDepth 100000
/-! the functions' tables that the laws about live boxes share (printed by ext.py). -/
namespace LB
open PySem LD
def f_is_integer : Fn := ⟨1, 1,
    (.cons (.ret (.and_ (.blt .isinst (.cons (.var 0) (.cons (.con (.ty "int")) .nil))) (.not_ (.blt .isinst (.cons (.var 0) (.cons (.con (.ty "bool")) .nil)))))) .nil)⟩
def f_is_name : Fn := ⟨1, 2,
    (.cons (.ret (.and_ (.blt .isinst (.cons (.var 0) (.cons (.con (.ty "str")) .nil))) (.and_ (.chain .le .le (.con (.int 1)) (.blt .len (.cons (.var 0) .nil)) (.con (.int 8))) (.blt .all1 (.cons (.comp (.cmp .in_ (.var 1) (.glob "LETTERS")) (.name 1) .val (.cons (.var 0) .nil) none) .nil))))) .nil)⟩
def f_is_kind : Fn := ⟨1, 4,
    (.cons (.ite (.or_ (.not_ (.blt .isinst (.cons (.var 0) (.cons (.con (.ty "tuple")) .nil)))) (.cmp .ne (.blt .len (.cons (.var 0) .nil)) (.con (.int 3))))
      (.cons (.ret (.con (.bl false))) .nil)
      (.nil))
    (.cons (.asg (.tup [1, 2, 3]) (.var 0))
    (.cons (.ret (.and_ (.cmp .in_ (.var 1) (.glob "LENDINGS")) (.and_ (.cmp .in_ (.var 2) (.glob "LETTINGS")) (.cmp .in_ (.var 3) (.glob "TURNINGS"))))) .nil)))⟩
def f_is_door : Fn := ⟨1, 1,
    (.cons (.ite (.or_ (.not_ (.blt .isinst (.cons (.var 0) (.cons (.con (.ty "tuple")) .nil)))) (.or_ (.cmp .ne (.blt .len (.cons (.var 0) .nil)) (.con (.int 2))) (.not_ (.call "is_name" (.cons (.idx (.var 0) (.con (.int 0))) .nil)))))
      (.cons (.ret (.con (.bl false))) .nil)
      (.nil))
    (.cons (.ret (.and_ (.call "is_integer" (.cons (.idx (.var 0) (.con (.int 1))) .nil)) (.cmp .ge (.idx (.var 0) (.con (.int 1))) (.con (.int 0))))) .nil))⟩
def f_require_door : Fn := ⟨1, 1,
    (.cons (.ite (.not_ (.call "is_door" (.cons (.var 0) .nil)))
      (.cons (.raise_ "" .nil) .nil)
      (.nil)) .nil)⟩
def f__law_letters : Fn := ⟨0, 0,
    (.cons (.ret (.con (.str "abcdefghijklmnopqrstuvwxyz"))) .nil)⟩
def f__law_word : Fn := ⟨1, 3,
    (.cons (.asg (.name 1) (.call "_law_pick" (.cons (.var 0) (.cons (.lst (.cons (.call "_law_letters" (.nil)) (.cons (.call "_law_letters" (.nil)) (.cons (.con (.str "ab")) (.cons (.con (.str "openz")) .nil))))) .nil))))
    (.cons (.ret (.meth .join (.con (.str "")) (.cons (.comp (.idx (.var 1) (.call "_law_roll" (.cons (.var 0) (.cons (.blt .len (.cons (.var 1) .nil)) .nil)))) (.name 2) .rng1 (.cons (.bin .add (.con (.int 1)) (.call "_law_roll" (.cons (.var 0) (.cons (.con (.int 8)) .nil)))) .nil) none) .nil))) .nil))⟩
def f__law_fresh : Fn := ⟨2, 4,
    (.cons (.asg (.name 2) (.bin .add (.lst (.cons (.call "_law_word" (.cons (.var 0) .nil)) .nil)) (.rev (.blt .list1 (.cons (.call "_law_letters" (.nil)) .nil)))))
    (.cons (.ret (.idx (.comp (.var 3) (.name 3) .val (.cons (.var 2) .nil) (some (.and_ (.lin true (.var 3) (.var 1)) (.cmp .ne (.var 3) (.con (.str "open")))))) (.con (.int 0)))) .nil))⟩
def f__law_words : Fn := ⟨0, 0,
    (.cons (.ret (.tup (.cons (.tup (.cons (.con (.str "source")) (.cons (.con (.str "address")) (.cons (.con (.str "door")) .nil)))) (.cons (.tup (.cons (.con (.str "any")) (.cons (.con (.str "address")) (.cons (.con (.str "door")) .nil)))) (.cons (.tup (.cons (.con (.str "never")) (.cons (.con (.str "lent")) (.cons (.con (.str "inner")) .nil)))) .nil))))) .nil)⟩
def f__law_kind : Fn := ⟨1, 2,
    (.cons (.ret (.blt .tuple1 (.cons (.comp (.call "_law_pick" (.cons (.var 0) (.cons (.blt .list1 (.cons (.var 1) .nil)) .nil))) (.name 1) .val (.cons (.call "_law_words" (.nil)) .nil) none) .nil))) .nil)⟩
def f__law_box : Fn := ⟨2, 2,
    (.cons (.ret (.newd (.cons (.con (.str "name")) (.cons (.var 0) (.cons (.con (.str "kind")) (.cons (.var 1) (.cons (.con (.str "cases")) (.cons (.newn) (.cons (.con (.str "inner")) (.cons (.newn) (.cons (.con (.str "uses")) (.cons (.newn) (.cons (.con (.str "order")) (.cons (.newl (.nil)) .nil)))))))))))))) .nil)⟩
def f__law_case : Fn := ⟨3, 4,
    (.cons (.asg (.name 3) (.idx (.dget (.var 0) (.con (.str "kind"))) (.con (.int 0))))
    (.cons (.ite (.cmp .eq (.var 3) (.con (.str "source")))
      (.cons (.ret (.tup (.cons (.var 1) (.cons (.con .non) .nil)))) .nil)
      (.nil))
    (.cons (.ret (.ite (.cmp .eq (.var 3) (.con (.str "address"))) (.tup (.cons (.var 1) (.cons (.idx (.var 2) (.con (.int 0))) .nil))) (.tup (.cons (.var 1) (.cons (.var 2) .nil))))) .nil)))⟩
def f__law_lend : Fn := ⟨4, 8,
    (.cons (.asg (.name 4) (.call "_law_case" (.cons (.var 0) (.cons (.var 1) (.cons (.var 2) .nil)))))
    (.cons (.ite (.din true (.var 4) (.dget (.var 0) (.con (.str "cases"))))
      (.cons (.asg (.name 6) (.llen (.dget (.var 0) (.con (.str "order")))))
      (.cons (.asg (.name 7) (.tup (.cons (.dget (.var 0) (.con (.str "name"))) (.cons (.ite (.cmp .is_ (.var 3) (.con .non)) (.bin .add (.var 6) (.con (.int 1))) (.never)) .nil))))
      (.cons (.setd2 (.dget (.var 0) (.con (.str "cases"))) (.var 4) (.dget (.var 0) (.con (.str "inner"))) (.var 7) (.var 7) (.var 1))
      (.cons (.setd (.dget (.var 0) (.con (.str "uses"))) (.var 7) (.newl (.nil)))
      (.cons (.appl (.dget (.var 0) (.con (.str "order"))) (.var 7)) .nil)))))
      (.nil))
    (.cons (.asg (.name 5) (.dget (.dget (.var 0) (.con (.str "cases"))) (.var 4)))
    (.cons (.ite (.lin true (.var 2) (.dget (.dget (.var 0) (.con (.str "uses"))) (.var 5)))
      (.cons (.appl (.dget (.dget (.var 0) (.con (.str "uses"))) (.var 5)) (.var 2)) .nil)
      (.nil))
    (.cons (.ret (.var 5)) .nil)))))⟩
def f__law_is_box_as_l0 : Sms :=
    (.cons (.ite (.or_ (.cmp .ne (.mcall "LiveBox" "inner" "LiveBox.inner" (.var 0) (.cons (.var 2) .nil)) (.dget (.dget (.var 1) (.con (.str "inner"))) (.var 2))) (.cmp .ne (.mcall "LiveBox" "used" "LiveBox.used" (.var 0) (.cons (.var 2) .nil)) (.blt .tuple1 (.cons (.lsort (.dget (.dget (.var 1) (.con (.str "uses"))) (.var 2))) .nil))))
      (.cons (.ret (.con (.bl false))) .nil)
      (.nil)) .nil)
def f__law_is_box_as : Fn := ⟨2, 5,
    (.cons (.par [(3, false), (4, false)] (.cons (.llen (.dget (.var 1) (.con (.str "order")))) (.cons (.dget (.var 1) (.con (.str "name"))) .nil)))
    (.cons (.ite (.or_ (.cmp .ne (.prop "LiveBox" "address" "LiveBox.address" (.var 0)) (.var 4)) (.or_ (.cmp .ne (.prop "LiveBox" "kind" "LiveBox.kind" (.var 0)) (.dget (.var 1) (.con (.str "kind")))) (.cmp .ne (.olen "LiveBox" "LiveBox.__len__" (.var 0)) (.var 3))))
      (.cons (.ret (.con (.bl false))) .nil)
      (.nil))
    (.cons (.ite (.or_ (.cmp .ne (.mcall "LiveBox" "doors" "LiveBox.doors" (.var 0) (.nil)) (.blt .tuple1 (.cons (.lsort (.dget (.var 1) (.con (.str "order")))) .nil))) (.cmp .ne (.ostr "LiveBox" "LiveBox.__str__" (.var 0)) (.fstr (.cons (.con (.str "box ")) (.cons (.var 4) (.cons (.con (.str " with ")) (.cons (.var 3) (.cons (.con (.str " doors")) .nil))))))))
      (.cons (.ret (.con (.bl false))) .nil)
      (.nil))
    (.cons (.forl (.name 2) (.dget (.var 1) (.con (.str "order"))) f__law_is_box_as_l0)
    (.cons (.ret (.con (.bl true))) .nil)))))⟩
def f__law_doors : Fn := ⟨1, 7,
    (.cons (.asg (.name 1) (.newl (.cons (.call "_law_word" (.cons (.var 0) .nil)) .nil)))
    (.cons (.appl (.var 1) (.call "_law_fresh" (.cons (.var 0) (.cons (.var 1) .nil))))
    (.cons (.appl (.var 1) (.call "_law_fresh" (.cons (.var 0) (.cons (.var 1) .nil))))
    (.cons (.asg (.name 2) (.bin .add (.bin .pow (.con (.int 10)) (.con (.int 39))) (.call "_law_roll" (.cons (.var 0) (.cons (.bin .pow (.con (.int 10)) (.con (.int 12))) .nil)))))
    (.cons (.unl [4, 5, 6] (.var 1))
    (.cons (.asg (.name 3) (.lst (.cons (.tup (.cons (.var 4) (.cons (.con (.int 0)) .nil))) (.cons (.tup (.cons (.var 4) (.cons (.con (.int 1)) .nil))) (.cons (.tup (.cons (.var 4) (.cons (.var 2) .nil))) (.cons (.tup (.cons (.var 5) (.cons (.con (.int 0)) .nil))) (.cons (.tup (.cons (.var 5) (.cons (.var 2) .nil))) (.cons (.tup (.cons (.var 6) (.cons (.con (.int 1)) .nil))) .nil))))))))
    (.cons (.ret (.bin .add (.var 3) (.lst (.cons (.tup (.cons (.var 6) (.cons (.bin .add (.con (.int 2)) (.call "_law_roll" (.cons (.var 0) (.cons (.con (.int 50)) .nil)))) .nil))) (.cons (.tup (.cons (.var 5) (.cons (.con (.int 70)) .nil))) .nil))))) .nil)))))))⟩
def f_LiveBox___init__ : Fn := ⟨4, 4,
    (.cons (.ite (.or_ (.not_ (.call "is_name" (.cons (.var 1) .nil))) (.not_ (.call "is_kind" (.cons (.var 2) .nil))))
      (.cons (.raise_ "" .nil) .nil)
      (.nil))
    (.cons (.setf (.var 0) "own_name" ["LiveBox"] (.var 1))
    (.cons (.setf (.var 0) "own_kind" ["LiveBox"] (.var 2))
    (.cons (.setf (.var 0) "own_numbers" ["LiveBox"] (.var 3))
    (.cons (.setf (.var 0) "own_cases" ["LiveBox"] (.newn))
    (.cons (.setf (.var 0) "own_inners" ["LiveBox"] (.newd (.nil)))
    (.cons (.setf (.var 0) "own_uses" ["LiveBox"] (.newd (.nil)))
    (.cons (.setf (.var 0) "own_order" ["LiveBox"] (.newl (.nil))) .nil))))))))⟩
def f_LiveBox_address : Fn := ⟨1, 1,
    (.cons (.ret (.attr (.var 0) "own_name" ["LiveBox"])) .nil)⟩
def f_LiveBox_kind : Fn := ⟨1, 1,
    (.cons (.ret (.attr (.var 0) "own_kind" ["LiveBox"])) .nil)⟩
def f_LiveBox_case_of : Fn := ⟨3, 3,
    (.cons (.ite (.cmp .eq (.idx (.attr (.var 0) "own_kind" ["LiveBox"]) (.con (.int 0))) (.con (.str "source")))
      (.cons (.ret (.tup (.cons (.var 1) (.cons (.con .non) .nil)))) .nil)
      (.nil))
    (.cons (.ret (.ite (.cmp .eq (.idx (.attr (.var 0) "own_kind" ["LiveBox"]) (.con (.int 0))) (.con (.str "address"))) (.tup (.cons (.var 1) (.cons (.idx (.var 2) (.con (.int 0))) .nil))) (.tup (.cons (.var 1) (.cons (.var 2) .nil))))) .nil))⟩
def f_LiveBox_offer : Fn := ⟨3, 7,
    (.cons (.asg (.name 3) (.mcall "LiveBox" "case_of" "LiveBox.case_of" (.var 0) (.cons (.var 1) (.cons (.var 2) .nil))))
    (.cons (.ite (.din false (.var 3) (.attr (.var 0) "own_cases" ["LiveBox"]))
      (.cons (.ret (.dget (.attr (.var 0) "own_cases" ["LiveBox"]) (.var 3))) .nil)
      (.nil))
    (.cons (.asg (.name 4) (.llen (.attr (.var 0) "own_order" ["LiveBox"])))
    (.cons (.asg (.name 5) (.attr (.var 0) "own_numbers" ["LiveBox"]))
    (.cons (.asg (.name 6) (.ite (.cmp .is_ (.var 5) (.con .non)) (.bin .add (.var 4) (.con (.int 1))) (.never)))
    (.cons (.ite (.or_ (.not_ (.call "is_integer" (.cons (.var 6) .nil))) (.or_ (.cmp .lt (.var 6) (.con (.int 0))) (.din false (.var 6) (.attr (.var 0) "own_inners" ["LiveBox"]))))
      (.cons (.raise_ "" .nil) .nil)
      (.nil))
    (.cons (.ret (.var 6)) .nil)))))))⟩
def f_LiveBox_settle : Fn := ⟨4, 7,
    (.cons (.asg (.name 4) (.din true (.var 3) (.attr (.var 0) "own_inners" ["LiveBox"])))
    (.cons (.ite (.var 4)
      (.cons (.setd (.attr (.var 0) "own_cases" ["LiveBox"]) (.mcall "LiveBox" "case_of" "LiveBox.case_of" (.var 0) (.cons (.var 1) (.cons (.var 2) .nil))) (.var 3))
      (.cons (.setd (.attr (.var 0) "own_inners" ["LiveBox"]) (.var 3) (.var 1))
      (.cons (.setd (.attr (.var 0) "own_uses" ["LiveBox"]) (.var 3) (.newn))
      (.cons (.appl (.attr (.var 0) "own_order" ["LiveBox"]) (.tup (.cons (.attr (.var 0) "own_name" ["LiveBox"]) (.cons (.var 3) .nil)))) .nil))))
      (.nil))
    (.cons (.asg (.name 5) (.dget (.attr (.var 0) "own_uses" ["LiveBox"]) (.var 3)))
    (.cons (.asg (.name 6) (.din true (.var 2) (.var 5)))
    (.cons (.setd (.var 5) (.var 2) (.con (.bl true)))
    (.cons (.ret (.tup (.cons (.var 4) (.cons (.var 6) .nil)))) .nil))))))⟩
def f_LiveBox_lend : Fn := ⟨3, 4,
    (.cons (.expr (.call "require_door" (.cons (.var 1) .nil)))
    (.cons (.expr (.call "require_door" (.cons (.var 2) .nil)))
    (.cons (.asg (.name 3) (.mcall "LiveBox" "offer" "LiveBox.offer" (.var 0) (.cons (.var 1) (.cons (.var 2) .nil))))
    (.cons (.expr (.mcall "LiveBox" "settle" "LiveBox.settle" (.var 0) (.cons (.var 1) (.cons (.var 2) (.cons (.var 3) .nil)))))
    (.cons (.ret (.tup (.cons (.attr (.var 0) "own_name" ["LiveBox"]) (.cons (.var 3) .nil)))) .nil)))))⟩
def f_LiveBox_require_lent : Fn := ⟨2, 2,
    (.cons (.ite (.oin "LiveBox" "LiveBox.__contains__" true (.var 1) (.var 0))
      (.cons (.raise_ "" .nil) .nil)
      (.nil)) .nil)⟩
def f_LiveBox_inner : Fn := ⟨2, 2,
    (.cons (.expr (.mcall "LiveBox" "require_lent" "LiveBox.require_lent" (.var 0) (.cons (.var 1) .nil)))
    (.cons (.ret (.dget (.attr (.var 0) "own_inners" ["LiveBox"]) (.idx (.var 1) (.con (.int 1))))) .nil))⟩
def f_LiveBox_used : Fn := ⟨2, 2,
    (.cons (.expr (.mcall "LiveBox" "require_lent" "LiveBox.require_lent" (.var 0) (.cons (.var 1) .nil)))
    (.cons (.ret (.blt .tuple1 (.cons (.lsort (.dget (.attr (.var 0) "own_uses" ["LiveBox"]) (.idx (.var 1) (.con (.int 1))))) .nil))) .nil))⟩
def f_LiveBox_doors : Fn := ⟨1, 1,
    (.cons (.ret (.blt .tuple1 (.cons (.lsort (.attr (.var 0) "own_order" ["LiveBox"])) .nil))) .nil)⟩
def f_LiveBox___contains__ : Fn := ⟨2, 2,
    (.cons (.ret (.and_ (.call "is_door" (.cons (.var 1) .nil)) (.and_ (.cmp .eq (.idx (.var 1) (.con (.int 0))) (.attr (.var 0) "own_name" ["LiveBox"])) (.din false (.idx (.var 1) (.con (.int 1))) (.attr (.var 0) "own_inners" ["LiveBox"]))))) .nil)⟩
def f_LiveBox___len__ : Fn := ⟨1, 1,
    (.cons (.ret (.llen (.attr (.var 0) "own_order" ["LiveBox"]))) .nil)⟩
def f_LiveBox___str__ : Fn := ⟨1, 1,
    (.cons (.ret (.fstr (.cons (.con (.str "box ")) (.cons (.attr (.var 0) "own_name" ["LiveBox"]) (.cons (.con (.str " with ")) (.cons (.llen (.attr (.var 0) "own_order" ["LiveBox"])) (.cons (.con (.str " doors")) .nil))))))) .nil)⟩
end LB

set_option Elab.async false
set_option linter.all false
set_option maxRecDepth 100000
set_option maxHeartbeats 2000000
/-! LB1: doors, cases, dicts by them, sorted lists of them. -/
namespace LB
open PySem (Str NestedKey PyData)
open LD
abbrev P := Str × Int
def dr (p : P) : D := .tup [.str p.1, .int p.2]
def nkP (p : P) : NestedKey := .tup [.text p.1, .num p.2]
theorem nkT_dr (p : P) : nkT (dr p) = some (nkP p) := rfl
theorem nkP_inj {p q : P} (h : nkP p = nkP q) : p = q := by
  unfold nkP at h
  simp only [NestedKey.tup.injEq, List.cons.injEq, NestedKey.text.injEq, NestedKey.num.injEq, and_true] at h
  exact Prod.ext h.1 h.2
inductive Cs where
  | s | a (x : Str) | d (p : P)
  deriving DecidableEq
def csD : Cs → D
  | .s => .non
  | .a x => .str x
  | .d p => dr p
def csK : Cs → NestedKey
  | .s => .none
  | .a x => .text x
  | .d p => nkP p
theorem csK_inj {a b : Cs} (h : csK a = csK b) : a = b := by
  cases a <;> cases b <;> simp [csK, nkP] at h ⊢
  · exact h
  · exact nkP_inj (by unfold nkP; simp [h])
structure Ca where
  src : P
  c : Cs
  deriving DecidableEq
def caD (x : Ca) : D := .tup [dr x.src, csD x.c]
def nkC (x : Ca) : NestedKey := .tup [nkP x.src, csK x.c]
theorem nkT_ca (x : Ca) : nkT (caD x) = some (nkC x) := by
  obtain ⟨p, c⟩ := x
  cases c <;> rfl
theorem nkC_inj {a b : Ca} (h : nkC a = nkC b) : a = b := by
  obtain ⟨p, c⟩ := a
  obtain ⟨q, d⟩ := b
  unfold nkC at h
  simp only [NestedKey.tup.injEq, List.cons.injEq, and_true] at h
  rw [nkP_inj h.1, csK_inj h.2]
/-- a kind of keys -/
structure KD (κ : Type) where
  d : κ → D
  n : κ → NestedKey
  ok : ∀ k, nkT (d k) = some (n k)
  inj : ∀ {a b}, n a = n b → a = b
def kP : KD P := ⟨dr, nkP, nkT_dr, nkP_inj⟩
def kC : KD Ca := ⟨caD, nkC, nkT_ca, nkC_inj⟩
section
variable {κ α : Type} [DecidableEq κ] (T : KD κ) (k : α → κ) (v : α → D)
theorem KD.dec (a b : κ) : decide (nkT (T.d a) = some (T.n b)) = decide (a = b) := by
  rw [T.ok]
  by_cases h : a = b
  · simp [h]
  · rw [decide_eq_false h]
    simp only [decide_eq_false_iff_not, Option.some.injEq]
    exact fun q => h (T.inj q)
theorem look_map (es : List α) (y : κ) : lookN (es.map fun e => (T.d (k e), v e)) (T.d y) = (es.find? fun e => decide (k e = y)).map v := by
  unfold lookN
  rw [T.ok]
  show ((es.map fun e => (T.d (k e), v e)).find? fun p => decide (nkT p.1 = some (T.n y))).map (·.2) = _
  rw [List.find?_map]
  have e : ((fun p : D × D => decide (nkT p.1 = some (T.n y))) ∘ fun e => (T.d (k e), v e)) = fun e => decide (k e = y) := funext fun e => T.dec (k e) y
  rw [e]
  cases es.find? _ <;> rfl
theorem has_map (es : List α) (y : κ) : hasN (es.map fun e => (T.d (k e), v e)) (T.n y) = es.any fun e => decide (k e = y) := by
  unfold hasN
  rw [List.any_map]
  have e : ((fun p : D × D => decide (nkT p.1 = some (T.n y))) ∘ fun e => (T.d (k e), v e)) = fun e => decide (k e = y) := funext fun e => T.dec (k e) y
  rw [e]
theorem put_new (es : List α) (y : κ) (d : D) (h : (es.any fun e => decide (k e = y)) = false) (hl : es.length < LINE) : putN (es.map fun e => (T.d (k e), v e)) (T.d y) d = some ((es.map fun e => (T.d (k e), v e)) ++ [(T.d y, d)]) := by
  unfold putN
  rw [T.ok]
  simp only [List.length_map, has_map, h, if_pos hl]
  rfl
theorem put_old (es : List α) (y : κ) (d : D) (h : (es.any fun e => decide (k e = y)) = true) (hl : es.length < LINE) (hv : ∀ e ∈ es, v e = d) : putN (es.map fun e => (T.d (k e), v e)) (T.d y) d = some (es.map fun e => (T.d (k e), v e)) := by
  unfold putN
  rw [T.ok]
  simp only [List.length_map, has_map, h, if_pos hl, if_true]
  rw [List.map_map]
  congr 1
  refine List.map_congr_left fun e he => ?_
  simp only [Function.comp]
  split
  · rw [hv e he]
  · rfl
end
/-! ### dicts by numbers -/
section
variable {α : Type} (k : α → Int) (v : α → D)
theorem decI (a b : Int) : decide (keyD (.int a) = some (Sum.inl b)) = decide (a = b) := by
  show decide (some (Sum.inl a : L2.Key) = some (Sum.inl b)) = _
  by_cases h : a = b <;> simp [h]
theorem lookI (es : List α) (y : Int) : lookD (es.map fun e => (D.int (k e), v e)) (.int y) = (es.find? fun e => decide (k e = y)).map v := by
  unfold lookD
  show ((es.map fun e => (D.int (k e), v e)).find? fun p => decide (keyD p.1 = some (Sum.inl y))).map (·.2) = _
  rw [List.find?_map]
  have e : ((fun p : D × D => decide (keyD p.1 = some (Sum.inl y))) ∘ fun e => (D.int (k e), v e)) = fun e => decide (k e = y) := funext fun e => decI (k e) y
  rw [e]
  cases es.find? _ <;> rfl
theorem hasI (es : List α) (y : Int) : hasD (es.map fun e => (D.int (k e), v e)) (Sum.inl y) = es.any fun e => decide (k e = y) := by
  unfold hasD
  rw [List.any_map]
  have e : ((fun p : D × D => decide (keyD p.1 = some (Sum.inl y))) ∘ fun e => (D.int (k e), v e)) = fun e => decide (k e = y) := funext fun e => decI (k e) y
  rw [e]
theorem putI (es : List α) (y : Int) (d : D) (h : (es.any fun e => decide (k e = y)) = false) (hl : es.length < LINE) : putD (es.map fun e => (D.int (k e), v e)) (.int y) d = some ((es.map fun e => (D.int (k e), v e)) ++ [(.int y, d)]) := by
  unfold putD
  show (if (es.map fun e => (D.int (k e), v e)).length < LINE then (if hasD (es.map fun e => (D.int (k e), v e)) (Sum.inl y) then _ else _) else _) = _
  simp only [List.length_map, hasI, h, if_pos hl]
  rfl
end
/-! ### names, doors as data -/
def letters : Str := "abcdefghijklmnopqrstuvwxyz"
def Lt (c : Nat) : Prop := c ∈ letters.cps.toList
theorem Lt.ok {c : Nat} (h : Lt c) : c < 0x110000 := by
  have k : ∀ c ∈ letters.cps.toList, c < 0x110000 := by decide +kernel
  exact k c h
def GN (z : Str) : Prop := 1 ≤ z.length ∧ z.length ≤ 8 ∧ ∀ c ∈ z.cps.toList, Lt c
theorem GN.ok {z : Str} (h : GN z) : PyData.strOk z = true := by
  unfold PyData.strOk
  rw [← Array.all_toList]
  exact List.all_eq_true.mpr fun c hc => decide_eq_true (h.2.2 c hc).ok
def GP (p : P) : Prop := GN p.1 ∧ 0 ≤ p.2
def prP (p : P) : PyData := .tuple [.str p.1, .int p.2]
theorem toP_dr (p : P) : toP (dr p) = some (prP p) := rfl
theorem toPs_dr : ∀ ps : List P, toPs (ps.map dr) = some (ps.map prP)
  | [] => rfl
  | p :: ps => by
    rw [List.map_cons]
    unfold toPs
    rw [toP_dr, toPs_dr ps]
    rfl
theorem lay_dr : ∀ {ps : List P}, (∀ p ∈ ps, GN p.1) → PyData.canLayAll0 (ps.map prP) = true
  | [], _ => rfl
  | p :: ps, h => by
    have h1 := (h p (List.mem_cons_self ..)).ok
    have h2 := lay_dr (ps := ps) fun q hq => h q (List.mem_cons_of_mem _ hq)
    show ((PyData.strOk p.1 && (true && true)) && PyData.canLayAll0 (ps.map prP)) = true
    rw [h1, h2]
    rfl
theorem depth_dr : ∀ ps : List P, PyData.depthAll (ps.map prP) ≤ 1
  | [] => by decide
  | p :: ps => by
    have h2 := depth_dr ps
    show max (PyData.depth (prP p)) (PyData.depthAll (ps.map prP)) ≤ 1
    have : PyData.depth (prP p) = 1 := rfl
    omega
theorem eqv_dr (p q : P) : PyData.eqv (prP p) (prP q) = decide (p = q) := by
  show ((p.1 == q.1) && ((p.2 == q.2) && true)) = _
  by_cases h : p = q
  · subst h
    simp
  · rw [decide_eq_false h]
    by_cases h1 : p.1 = q.1
    · have h2 : p.2 ≠ q.2 := fun h2 => h (Prod.ext h1 h2)
      simp [h2]
    · simp [h1]
theorem eqvs_dr : ∀ ps qs : List P, PyData.eqvAll (ps.map prP) (qs.map prP) = decide (ps = qs)
  | [], [] => rfl
  | [], _ :: _ => rfl
  | _ :: _, [] => rfl
  | p :: ps, q :: qs => by
    show (PyData.eqv (prP p) (prP q) && PyData.eqvAll (ps.map prP) (qs.map prP)) = _
    rw [eqv_dr, eqvs_dr ps qs]
    by_cases h1 : p = q <;> by_cases h2 : ps = qs <;> simp [h1, h2]
theorem shaped_dr {p : P} (h : GN p.1) : PySem.SeqAt.shaped (prP p) = true := by
  show ((PyData.strOk p.1 && (true && true)) && decide (1 ≤ 64)) = true
  rw [h.ok]
  rfl
theorem shaped_drs {ps : List P} (h : ∀ p ∈ ps, GN p.1) : PySem.SeqAt.shaped (.tuple (ps.map prP)) = true := by
  show (PyData.canLayAll0 (ps.map prP) && decide (PyData.depthAll (ps.map prP) + 1 ≤ 64)) = true
  have := depth_dr ps
  rw [lay_dr h, decide_eq_true (by omega)]
  rfl
theorem eq_dr {p q : P} (h : GN p.1) (h' : GN q.1) : eqD (dr p) (dr q) = some (decide (p = q)) := by
  unfold eqD
  rw [toP_dr, toP_dr]
  simp only [shaped_dr h, shaped_dr h', Bool.and_self, if_true, eqv_dr]
theorem ne_dr {p q : P} (h : GN p.1) (h' : GN q.1) : cmpop .ne (dr p) (dr q) = some (!decide (p = q)) := by
  show neD (dr p) (dr q) = _
  unfold neD
  rw [eq_dr h h']
theorem ne_drs {ps qs : List P} (h : ∀ p ∈ ps, GN p.1) (h' : ∀ p ∈ qs, GN p.1) : cmpop .ne (.tup (ps.map dr)) (.tup (qs.map dr)) = some (!decide (ps = qs)) := by
  show neD _ _ = _
  unfold neD eqD
  have t : ∀ ps : List P, toP (.tup (ps.map dr)) = some (.tuple (ps.map prP)) := fun ps => by
    unfold toP
    rw [toPs_dr]
    rfl
  rw [t, t]
  have e : PyData.eqv (.tuple (ps.map prP)) (.tuple (qs.map prP)) = decide (ps = qs) := eqvs_dr ps qs
  simp only [shaped_drs h, shaped_drs h', Bool.and_self, if_true, e]
theorem in_dr {p : P} {ps : List P} (h : GN p.1) (h' : ∀ p ∈ ps, GN p.1) : inSeq (dr p) (ps.map dr) = some (decide (p ∈ ps)) := by
  unfold inSeq
  have f : flat (dr p) = false := rfl
  simp only [f, Bool.false_and]
  show inData (dr p) (ps.map dr) = _
  unfold inData
  rw [toP_dr, toPs_dr]
  have d : PyData.depth (prP p) ≤ 63 := by
    have : PyData.depth (prP p) = 1 := rfl
    omega
  simp only [shaped_dr h, d, decide_true, lay_dr h', Bool.and_self, if_true]
  congr 1
  rw [List.any_map]
  have e : ((fun y => PyData.eqv y (prP p)) ∘ prP) = fun q => decide (q = p) := funext fun q => eqv_dr q p
  rw [e]
  by_cases hp : p ∈ ps
  · rw [decide_eq_true hp]
    exact List.any_eq_true.mpr ⟨p, hp, decide_eq_true rfl⟩
  · rw [decide_eq_false hp]
    refine List.any_eq_false.mpr fun q hq => ?_
    simp only [decide_eq_true_eq]
    exact fun z => hp (z ▸ hq)
theorem sort_dr (ps : List P) : ∃ qs : List P, sortT (ps.map dr) = some (qs.map dr) ∧ ∀ q ∈ qs, q ∈ ps := by
  have ok : sortOk (ps.map prP) = true := by
    unfold sortOk
    have a : ((ps.map prP).all fun p => (ps.map prP).all fun q => PySem.W.alike p q) = true := by
      refine List.all_eq_true.mpr fun p hp => List.all_eq_true.mpr fun q hq => ?_
      obtain ⟨p, _, rfl⟩ := List.mem_map.mp hp
      obtain ⟨q, _, rfl⟩ := List.mem_map.mp hq
      rfl
    have b : ((ps.map prP).all fun p => decide (p.depth ≤ 40)) = true := by
      refine List.all_eq_true.mpr fun p hp => ?_
      obtain ⟨p, _, rfl⟩ := List.mem_map.mp hp
      rfl
    rw [a, b]
    simp only [Bool.true_and, Bool.or_eq_true]
    refine Or.inl (List.all_eq_true.mpr fun p hp => ?_)
    obtain ⟨p, _, rfl⟩ := List.mem_map.mp hp
    rfl
  have hperm := List.mergeSort_perm (ps.map dr) (PySem.W.dataLe false encD)
  have hall : ∀ d ∈ (ps.map dr).mergeSort (PySem.W.dataLe false encD), ∃ q ∈ ps, dr q = d := fun d hd => List.mem_map.mp (hperm.mem_iff.mp hd)
  have lift : ∀ ds : List D, (∀ d ∈ ds, ∃ q ∈ ps, dr q = d) → ∃ qs : List P, ds = qs.map dr ∧ ∀ q ∈ qs, q ∈ ps := by
    intro ds
    induction ds with
    | nil => exact fun _ => ⟨[], rfl, by simp⟩
    | cons d ds ih =>
      intro h
      obtain ⟨q, hq, rfl⟩ := h d (List.mem_cons_self ..)
      obtain ⟨qs, rfl, hqs⟩ := ih fun x hx => h x (List.mem_cons_of_mem _ hx)
      exact ⟨q :: qs, rfl, fun y hy => by
        rcases List.mem_cons.mp hy with rfl | hy
        · exact hq
        · exact hqs y hy⟩
  obtain ⟨qs, e, h⟩ := lift _ hall
  refine ⟨qs, ?_, h⟩
  unfold sortT
  rw [toPs_dr]
  show (if sortOk (ps.map prP) = true then some ((ps.map dr).mergeSort (PySem.W.dataLe false encD)) else none) = _
  rw [if_pos ok, e]
end LB

set_option Elab.async false
set_option linter.all false
set_option maxRecDepth 100000
set_option maxHeartbeats 4000000
/-! LB2: what the laws draw: words, names, kinds, doors. -/
namespace LB
open PySem (Str NestedKey PyData)
open LD
theorem Chg.get {l i : Nat} {μ μ' : Store} (h : Chg l μ μ') (hi : i ≠ l) : μ'[i]? = μ[i]? := by
  obtain ⟨so, rfl⟩ := h
  exact List.getElem?_set_ne (fun q => hi q.symm)
theorem dice_refl {l : Nat} {μ : Store} (h : Dice l μ) : Chg l μ μ := by
  obtain ⟨a, b, c, h⟩ := h
  refine ⟨_, (List.ext_getElem? fun i => ?_ : μ = μ.set l (.lst [.int a, .int b, .int c]))⟩
  by_cases hi : l = i
  · subst hi
    rw [h, List.getElem?_set_self (List.getElem?_eq_some_iff.mp h).1]
  · rw [List.getElem?_set_ne hi]
theorem dice_lt {l : Nat} {μ : Store} (h : Dice l μ) : l < μ.length := by
  obtain ⟨a, b, c, h⟩ := h
  exact (List.getElem?_eq_some_iff.mp h).1
theorem dice_app {l : Nat} {μ ν : Store} (h : Dice l μ) : Dice l (μ ++ ν) := by
  obtain ⟨a, b, c, h⟩ := h
  exact ⟨a, b, c, by rw [List.getElem?_append_left (List.getElem?_eq_some_iff.mp h).1, h]⟩
theorem dice_set {l i : Nat} {μ : Store} {x : SO} (h : Dice l μ) (hi : i ≠ l) : Dice l (μ.set i x) := by
  obtain ⟨a, b, c, h⟩ := h
  exact ⟨a, b, c, by rw [List.getElem?_set_ne hi, h]⟩
/-- a turn that draws one sign -/
theorem loop_signs {f : D → Store → Out (Option D)} {l : Nat} (Q : Nat → Prop) (hf : ∀ x μ, Dice l μ → ∃ (c : Nat) (μ' : Store), Q c ∧ f x μ = .ok (some (.str ⟨#[c]⟩)) μ' ∧ Dice l μ' ∧ Chg l μ μ') : ∀ (xs : List D) (acc : List D) (μ : Store), Dice l μ → ∃ (cs' : List Nat) (μ' : Store), (∀ c ∈ cs', Q c) ∧ cs'.length = xs.length ∧ compLoop f xs acc μ = .ok (acc ++ cs'.map fun c => .str ⟨#[c]⟩) μ' ∧ Dice l μ' ∧ Chg l μ μ'
  | [], acc, μ, hd => ⟨[], μ, by simp, rfl, by simp [compLoop], hd, dice_refl hd⟩
  | x :: xs, acc, μ, hd => by
    obtain ⟨c, μ1, hc, e1, d1, g1⟩ := hf x μ hd
    obtain ⟨cs', μ2, h1, h2, e2, d2, g2⟩ := loop_signs Q hf xs (acc ++ [.str ⟨#[c]⟩]) μ1 d1
    refine ⟨c :: cs', μ2, fun y hy => ?_, by simp [h2], ?_, d2, g1.trans g2⟩
    · rcases List.mem_cons.mp hy with rfl | hy
      · exact hc
      · exact h1 y hy
    · rw [compLoop, e1]
      show compLoop f xs (acc ++ [.str ⟨#[c]⟩]) μ1 = _
      rw [e2, List.append_assoc]
      rfl
theorem join_sg : ∀ ys : List Nat, (Str.join "" (ys.map fun c => (⟨#[c]⟩ : Str))).cps.toList = ys
  | [] => rfl
  | [c] => rfl
  | c :: d :: ys => by
    have ih := join_sg (d :: ys)
    show ((⟨#[c]⟩ ++ ("" : Str) ++ Str.join "" ((d :: ys).map fun c => (⟨#[c]⟩ : Str)) : Str)).cps.toList = _
    show ((#[c] ++ (Str.ofString "").cps) ++ (Str.join "" ((d :: ys).map fun c => (⟨#[c]⟩ : Str))).cps).toList = _
    rw [Array.toList_append, ih]
    rfl
theorem strs_sg : ∀ ys : List Nat, strsD (ys.map fun c => D.str ⟨#[c]⟩) = some (ys.map fun c => (⟨#[c]⟩ : Str))
  | [] => rfl
  | c :: ys => by simp [strsD, strs_sg ys]
theorem len_sg : ∀ ys : List Nat, ((ys.map fun c => (⟨#[c]⟩ : Str)).map (·.length)).sum = ys.length
  | [] => rfl
  | c :: ys => by
    have := len_sg ys
    simp only [List.map_cons, List.sum_cons, List.length_cons, this]
    show 1 + ys.length = _
    omega
theorem join_ok (ys : List Nat) (h : ys.length ≤ 16777216) : ∃ z : Str, meth .join (.str "") [.lst (ys.map fun c => D.str ⟨#[c]⟩)] = some (.str z) ∧ z.cps.toList = ys := by
  refine ⟨Str.join "" (ys.map fun c => (⟨#[c]⟩ : Str)), ?_, join_sg ys⟩
  show (match strsD (ys.map fun c => D.str ⟨#[c]⟩) with
    | some ys => if (List.map (fun y : Str => y.length) ys).sum + ys.length * Str.length "" ≤ LINE then some (D.str (Str.join "" ys)) else none
    | none => none) = _
  rw [strs_sg]
  have e0 : Str.length "" = 0 := rfl
  simp only [len_sg, e0, Nat.mul_zero, Nat.add_zero]
  rw [if_pos (show ys.length ≤ LINE from h)]
theorem rangeL_len (lo hi : Int) : (rangeL lo hi).length = (hi - lo).toNat := by simp [rangeL]
theorem rng1_it (j : Int) (h0 : 0 ≤ j) (h : j < LINE) : iterD .rng1 [.int j] = some (rangeL 0 j) := by
  show (if -(2 ^ 62) ≤ j ∧ j < LINE then some (rangeL 0 j) else none) = _
  rw [if_pos ⟨by omega, h⟩]
theorem at_sg {z : Str} (hz : ∀ c ∈ z.cps.toList, Lt c) {k : Nat} (hk : k < z.length) (μ : Store) : ∃ c, Lt c ∧ idxD (.str z) (.int (k : Int)) μ = some (.str ⟨#[c]⟩) := by
  have hk' : k < z.cps.toList.length := by simpa [Str.length] using hk
  refine ⟨z.cps.toList[k], hz _ (List.getElem_mem hk'), ?_⟩
  show (L2.atI z.cps.toList (k : Int)).map (fun c => D.str ⟨#[c]⟩) = _
  unfold L2.atI L2.ixN
  rw [if_pos (by omega), if_pos (by omega)]
  simp [hk']
def WordOk (r : List D → Store → Out D) : Prop := ∀ (l : Nat) (μ : Store), Dice l μ → ∃ (z : Str) (μ' : Store), GN z ∧ r [.loc l] μ = .ok (.str z) μ' ∧ Dice l μ' ∧ Chg l μ μ'
def LettersOk (r : List D → Store → Out D) : Prop := ∀ μ, r [] μ = .ok (.str letters) μ
theorem letters_ok {G : GT} {fuel : Nat} : LettersOk (runF G fuel f__law_letters) := fun μ => rfl
theorem word_ok {G : GT} {fuel : Nat} (hr : RollOk (G.call "_law_roll")) (hp : PickOk (G.call "_law_pick")) (hl : LettersOk (G.call "_law_letters")) : WordOk (runF G fuel f__law_word) := by
  intro l μ hd
  obtain ⟨x, μ1, m1, e1, d1, g1⟩ := hp l μ [.str letters, .str letters, .str "ab", .str "openz"] hd (by decide) (by decide)
  obtain ⟨w, rfl, hw, hw1⟩ : ∃ w : Str, x = .str w ∧ (∀ c ∈ w.cps.toList, Lt c) ∧ (1 ≤ w.length ∧ w.length ≤ 26) := by
    simp only [List.mem_cons, List.not_mem_nil, or_false] at m1
    rcases m1 with rfl | rfl | rfl | rfl
    · exact ⟨_, rfl, fun c h => h, by decide +kernel⟩
    · exact ⟨_, rfl, fun c h => h, by decide +kernel⟩
    · exact ⟨_, rfl, by unfold Lt; decide +kernel, by decide +kernel⟩
    · exact ⟨_, rfl, by unfold Lt; decide +kernel, by decide +kernel⟩
  obtain ⟨k, μ2, hk, e2, d2, g2⟩ := hr l μ1 8 d1 (by decide) (by decide)
  have hk : k < 8 := by omega
  obtain ⟨jj, hj⟩ : ∃ jj : Int, jj = 1 + (k : Int) := ⟨_, rfl⟩
  have hL : (100 : Int) < (LINE : Int) := by decide
  have hit := rng1_it jj (by omega) (by omega)
  obtain ⟨cs', μ3, h1, h2, e3, d3, g3⟩ := loop_signs (l := l) Lt (f := fun x μ => match bindT (wipeE [.val (.loc l), .val (.str w), .no] (Tg.name 2).slots) (.name 2) x with
      | some ρ' => (ev G (.idx (.var 1) (.call "_law_roll" (.cons (.var 0) (.cons (.blt .len (.cons (.var 1) .nil)) .nil)))) ρ' μ).bind fun y μ => .ok (some y) μ
      | none => .bad) (fun x μ hd => by
    obtain ⟨j, μ', hj, ej, dj, gj⟩ := hr l μ w.length hd (by omega) (by omega)
    obtain ⟨c, hc, ec⟩ := at_sg hw (show j < w.length by omega) μ'
    refine ⟨c, μ', hc, ?_, dj, gj⟩
    simp [wipeE, Tg.slots, bindT, Env.put, Env.get, opt, Out.bind, ev, evs, blt, lenD, ej, ec]) (rangeL 0 jj) [] μ2 d2
  rw [rangeL_len] at h2
  obtain ⟨z, ez, hz⟩ := join_ok cs' (by omega)
  have hlen : z.length = cs'.length := by rw [← hz]; simp [Str.length]
  refine ⟨z, μ3, ⟨by omega, by omega, by rw [hz]; exact h1⟩, ?_, d3, (g1.trans g2).trans g3⟩
  have hcm : ev G (.comp (.idx (.var 1) (.call "_law_roll" (.cons (.var 0) (.cons (.blt .len (.cons (.var 1) .nil)) .nil)))) (.name 2) .rng1 (.cons (.bin .add (.con (.int 1)) (.call "_law_roll" (.cons (.var 0) (.cons (.con (.int 8)) .nil)))) .nil) none) [.val (.loc l), .val (.str w), .no] μ1 = .ok (.lst (cs'.map fun c => .str ⟨#[c]⟩)) μ3 := by
    have q1 : evs G (.cons (.bin .add (.con (.int 1)) (.call "_law_roll" (.cons (.var 0) (.cons (.con (.int 8)) .nil)))) .nil) [.val (.loc l), .val (.str w), .no] μ1 = .ok [.int jj] μ2 := by
      simp [evs, ev, Out.bind, opt, Env.get, e2, binop, hj]
    rw [ev, q1]
    show (match iterD .rng1 [.int jj] with
      | some xs => (compLoop _ xs [] μ2).bind fun ys μ => Out.ok (D.lst ys) μ
      | none => Out.bad) = _
    rw [hit]
    exact congrArg (fun o : Out (List D) => o.bind fun ys μ => Out.ok (D.lst ys) μ) e3
  have hl := hl μ
  have q0 : exS G fuel (.asg (.name 1) (.call "_law_pick" (.cons (.var 0) (.cons (.lst (.cons (.call "_law_letters" (.nil)) (.cons (.call "_law_letters" (.nil)) (.cons (.con (.str "ab")) (.cons (.con (.str "openz")) .nil))))) .nil)))) [.val (.loc l), .no, .no] μ = .nx [.val (.loc l), .val (.str w), .no] μ1 := by
    simp [exS, evs, ev, Fl.of, Fl.opt, Out.bind, opt, Env.get, Env.put, bindT, hl, LINE, e1]
  have q2 : exS G fuel (.ret (.meth .join (.con (.str "")) (.cons (.comp (.idx (.var 1) (.call "_law_roll" (.cons (.var 0) (.cons (.blt .len (.cons (.var 1) .nil)) .nil)))) (.name 2) .rng1 (.cons (.bin .add (.con (.int 1)) (.call "_law_roll" (.cons (.var 0) (.cons (.con (.int 8)) .nil)))) .nil) none) .nil))) [.val (.loc l), .val (.str w), .no] μ1 = .ret (.str z) μ3 := by
    rw [exS, ev]
    show Fl.of _ ((Out.ok (D.str "") μ1).bind _) _ = _
    rw [Out.bind_ok]
    show Fl.of _ ((evs G (.cons (.comp (.idx (.var 1) (.call "_law_roll" (.cons (.var 0) (.cons (.blt .len (.cons (.var 1) .nil)) .nil)))) (.name 2) .rng1 (.cons (.bin .add (.con (.int 1)) (.call "_law_roll" (.cons (.var 0) (.cons (.con (.int 8)) .nil)))) .nil) none) .nil) _ μ1).bind fun ds μ => opt (meth .join (D.str "") ds) μ) _ = _
    rw [evs, hcm]
    show Fl.of _ (opt (meth .join (D.str "") [.lst (cs'.map fun c => .str ⟨#[c]⟩)]) μ3) _ = _
    rw [ez]
    rfl
  exact runF_ret rfl ((exSs_nx q0).trans (exSs_ret q2))
/-! ### fresh names -/
def sg (c : Nat) : Str := ⟨#[c]⟩
theorem sg_gn {c : Nat} (h : Lt c) : GN (sg c) := ⟨Nat.le_refl 1, (show 1 ≤ 8 by omega), fun x hx => by
  have e : (sg c).cps.toList = [c] := rfl
  rw [e, List.mem_singleton] at hx
  exact hx ▸ h⟩
theorem in_strs (x : Str) (us : List Str) : inSeq (.str x) (us.map D.str) = some (decide (x ∈ us)) := by
  unfold inSeq
  have f : (flat (.str x) && (us.map D.str).all flat) = true := by
    rw [List.all_map]
    simp only [flat, Bool.true_and]
    exact List.all_eq_true.mpr fun _ _ => rfl
  rw [if_pos f, List.any_map]
  congr 1
  have e : ((fun y => eqF y (.str x)) ∘ D.str) = fun u => decide (u = x) := funext fun u => by
    show (u == x) = _
    by_cases h : u = x <;> simp [h]
  rw [e]
  by_cases hp : x ∈ us
  · rw [decide_eq_true hp]
    exact List.any_eq_true.mpr ⟨x, hp, decide_eq_true rfl⟩
  · rw [decide_eq_false hp]
    refine List.any_eq_false.mpr fun q hq => ?_
    simp only [decide_eq_true_eq]
    exact fun z => hp (z ▸ hq)
theorem ne_str {x y : Str} (hx : PyData.strOk x = true) (hy : PyData.strOk y = true) : cmpop .ne (.str x) (.str y) = some (!decide (x = y)) := by
  show neD (.str x) (.str y) = _
  unfold neD eqD
  have s : ∀ {z : Str}, PyData.strOk z = true → PySem.SeqAt.shaped (.str z) = true := fun {z} h => by
    show (PyData.strOk z && decide (0 ≤ 64)) = true
    rw [h]
    rfl
  have e : PyData.eqv (.str x) (.str y) = decide (x = y) := by
    show (x == y) = _
    by_cases h : x = y <;> simp [h]
  show (match (if (PySem.SeqAt.shaped (.str x) && PySem.SeqAt.shaped (.str y)) = true then some (PyData.eqv (.str x) (.str y)) else none) with
    | some k => some !k
    | none => neX (.str x) (.str y)) = _
  rw [s hx, s hy, e]
  rfl
theorem open_ok : PyData.strOk "open" = true := by decide +kernel
theorem fresh_ex : ∀ us : List Str, us.length ≤ 2 → ∃ c ∈ [122, 121, 120], sg c ∉ us := by
  have h1 : sg 122 ≠ sg 121 := by decide +kernel
  have h2 : sg 122 ≠ sg 120 := by decide +kernel
  have h3 : sg 121 ≠ sg 120 := by decide +kernel
  intro us h
  match us, h with
  | [], _ => exact ⟨122, by simp, by simp⟩
  | [a], _ =>
    by_cases q : sg 122 = a
    · exact ⟨121, by simp, by simp [← q, h1.symm]⟩
    · exact ⟨122, by simp, by simp [q]⟩
  | [a, b], _ =>
    by_cases q : sg 122 ∈ [a, b]
    · by_cases q' : sg 121 ∈ [a, b]
      · refine ⟨120, by simp, fun q'' => ?_⟩
        simp only [List.mem_cons, List.not_mem_nil, or_false] at q q' q''
        rcases q with q | q <;> rcases q' with q' | q' <;> rcases q'' with q'' | q'' <;>
          first
            | exact h1 (q.trans q'.symm)
            | exact h2 (q.trans q''.symm)
            | exact h3 (q'.trans q''.symm)
      · exact ⟨121, by simp, q'⟩
    · exact ⟨122, by simp, q⟩
def opts (z : Str) : List Str := z :: letters.cps.toList.reverse.map sg
theorem opts_gn {z : Str} (h : GN z) : ∀ x ∈ opts z, GN x := by
  intro x hx
  rcases List.mem_cons.mp hx with rfl | hx
  · exact h
  · obtain ⟨c, hc, rfl⟩ := List.mem_map.mp hx
    exact sg_gn (List.mem_reverse.mp hc)
theorem pick_fresh {z : Str} (hz : GN z) (us : List Str) (h : us.length ≤ 2) : ∃ x xs, GN x ∧ (opts z).filter (fun x => !decide (x ∈ us) && !decide (x = "open")) = x :: xs := by
  obtain ⟨c, hc, hn⟩ := fresh_ex us h
  have hm : sg c ∈ (opts z).filter (fun x => !decide (x ∈ us) && !decide (x = "open")) := by
    refine List.mem_filter.mpr ⟨List.mem_cons_of_mem _ (List.mem_map_of_mem ?_), ?_⟩
    · have k : ∀ c ∈ [122, 121, 120], c ∈ letters.cps.toList.reverse := by decide +kernel
      exact k c hc
    · have k : ∀ c ∈ [122, 121, 120], ¬ sg c = "open" := by decide +kernel
      simp only [hn, k c hc, decide_false, Bool.not_false, Bool.and_self]
  match e : (opts z).filter (fun x => !decide (x ∈ us) && !decide (x = "open")), hm with
  | x :: xs, _ =>
    have hx : x ∈ (opts z).filter (fun x => !decide (x ∈ us) && !decide (x = "open")) := by rw [e]; exact List.mem_cons_self ..
    exact ⟨x, xs, opts_gn hz x (List.mem_filter.mp hx).1, rfl⟩
def FreshOk (r : List D → Store → Out D) : Prop := ∀ (l u : Nat) (μ : Store) (us : List Str), Dice l μ → μ[u]? = some (.lst (us.map D.str)) → u ≠ l → us.length ≤ 2 → ∃ (z : Str) (μ' : Store), GN z ∧ r [.loc l, .loc u] μ = .ok (.str z) μ' ∧ Dice l μ' ∧ Chg l μ μ'
theorem list_letters (μ : Store) : blt .list1 [.str letters] = some (.lst (letters.cps.toList.map fun c => .str (sg c))) := rfl
theorem fresh_ok {G : GT} {fuel : Nat} (hw : WordOk (G.call "_law_word")) (hl : LettersOk (G.call "_law_letters")) : FreshOk (runF G fuel f__law_fresh) := by
  intro l u μ us hd hu hul hlen
  obtain ⟨z, μ1, hz, e1, d1, g1⟩ := hw l μ hd
  have hu1 : μ1[u]? = some (.lst (us.map D.str)) := by rw [Chg.get g1 hul, hu]
  have hl1 := hl μ1
  obtain ⟨x, xs, hx, ef⟩ := pick_fresh hz us hlen
  have q0 : exS G fuel (.asg (.name 2) (.bin .add (.lst (.cons (.call "_law_word" (.cons (.var 0) .nil)) .nil)) (.rev (.blt .list1 (.cons (.call "_law_letters" (.nil)) .nil))))) [.val (.loc l), .val (.loc u), .no, .no] μ = .nx [.val (.loc l), .val (.loc u), .val (.lst ((opts z).map D.str)), .no] μ1 := by
    have b : binop .add (.lst [.str z]) (.lst ((letters.cps.toList.map fun c => D.str (sg c)).reverse)) = some (.lst ((opts z).map D.str)) := by
      show (if [D.str z].length + ((letters.cps.toList.map fun c => D.str (sg c)).reverse).length ≤ LINE then some (D.lst ([D.str z] ++ (letters.cps.toList.map fun c => D.str (sg c)).reverse)) else none) = _
      rw [if_pos (by rw [List.length_reverse, List.length_map]; show 1 + letters.cps.toList.length ≤ LINE; decide +kernel)]
      rw [← List.map_reverse]
      simp [opts]
    have b' : blt .list1 [.str letters] = some (.lst (letters.cps.toList.map fun c => .str (sg c))) := rfl
    generalize letters.cps.toList.map (fun c => D.str (sg c)) = W at b b'
    simp [exS, evs, ev, Fl.of, Fl.opt, Out.bind, opt, Env.get, Env.put, bindT, LINE, e1, hl1, b, b']
  have q1 : exS G fuel (.ret (.idx (.comp (.var 3) (.name 3) .val (.cons (.var 2) .nil) (some (.and_ (.lin true (.var 3) (.var 1)) (.cmp .ne (.var 3) (.con (.str "open")))))) (.con (.int 0)))) [.val (.loc l), .val (.loc u), .val (.lst ((opts z).map D.str)), .no] μ1 = .ret (.str x) μ1 := by
    have hc : ev G (.comp (.var 3) (.name 3) .val (.cons (.var 2) .nil) (some (.and_ (.lin true (.var 3) (.var 1)) (.cmp .ne (.var 3) (.con (.str "open")))))) [.val (.loc l), .val (.loc u), .val (.lst ((opts z).map D.str)), .no] μ1 = .ok (.lst (.str x :: xs.map D.str)) μ1 := by
      simp only [ev, evs, Out.bind, opt, Env.get, iterD]
      simp only [List.getElem?_cons_zero, List.getElem?_cons_succ]
      rw [compLoop_filter (g := D.str) (h := D.str) (p := fun x => !decide (x ∈ us) && !decide (x = "open"))]
      · show Out.ok (D.lst ([] ++ ((opts z).filter _).map D.str)) μ1 = _
        rw [ef]
        rfl
      · intro y hy
        have i1 := in_strs y us
        have i2 := ne_str (opts_gn hz y hy).ok open_ok
        by_cases q1 : y ∈ us
        · simp only [q1, decide_true] at i1
          simp [wipeE, Tg.slots, bindT, Env.put, Env.get, opt, Out.bind, ev, evs, testOf, truthy, hu1, i1, q1]
        · simp only [q1, decide_false] at i1
          by_cases q2 : y = "open"
          · simp only [q2, decide_true] at i2
            subst q2
            simp [wipeE, Tg.slots, bindT, Env.put, Env.get, opt, Out.bind, ev, evs, testOf, truthy, hu1, i1, q1, i2]
          · simp only [q2, decide_false] at i2
            simp [wipeE, Tg.slots, bindT, Env.put, Env.get, opt, Out.bind, ev, evs, testOf, truthy, hu1, i1, q1, i2, q2]
    rw [exS, ev, hc]
    simp [ev, opt, Out.bind, Fl.of, idxD, L2.atI, L2.ixN]
  exact ⟨x, μ1, hx, runF_ret rfl ((exSs_nx q0).trans (exSs_ret q1)), d1, g1⟩
/-! ### kinds -/
structure Kd where
  a : Str
  b : Str
  c : Str
  deriving DecidableEq
def A1 : List Str := ["source", "address", "door"]
def A2 : List Str := ["any", "address", "door"]
def A3 : List Str := ["never", "lent", "inner"]
def GK (k : Kd) : Prop := k.a ∈ A1 ∧ k.b ∈ A2 ∧ k.c ∈ A3
def kd (k : Kd) : D := .tup [.str k.a, .str k.b, .str k.c]
def KindOk (r : List D → Store → Out D) : Prop := ∀ (l : Nat) (μ : Store), Dice l μ → ∃ (k : Kd) (μ' : Store), GK k ∧ r [.loc l] μ = .ok (kd k) μ' ∧ Dice l μ' ∧ Chg l μ μ'
def WordsOk (r : List D → Store → Out D) : Prop := ∀ μ, r [] μ = .ok (.tup [.tup (A1.map D.str), .tup (A2.map D.str), .tup (A3.map D.str)]) μ
theorem words_ok {G : GT} {fuel : Nat} : WordsOk (runF G fuel f__law_words) := fun μ => by
  simp [runF, f__law_words, exSs, exS, ev, evs, Fl.of, Fl.next, Out.bind, LINE, A1, A2, A3]
theorem pick_str {r : List D → Store → Out D} (hp : PickOk r) {l : Nat} {μ : Store} (us : List Str) (hd : Dice l μ) (h1 : 1 ≤ us.length) (h2 : us.length < 1073741824) : ∃ (z : Str) (μ' : Store), z ∈ us ∧ r [.loc l, .lst (us.map D.str)] μ = .ok (.str z) μ' ∧ Dice l μ' ∧ Chg l μ μ' := by
  obtain ⟨x, μ', m, e, d, g⟩ := hp l μ (us.map D.str) hd (by simpa using h1) (by simpa using h2)
  obtain ⟨z, hz, rfl⟩ := List.mem_map.mp m
  exact ⟨z, μ', hz, e, d, g⟩
theorem kind_ok {G : GT} {fuel : Nat} (hp : PickOk (G.call "_law_pick")) (hw : WordsOk (G.call "_law_words")) : KindOk (runF G fuel f__law_kind) := by
  intro l μ hd
  obtain ⟨a, μ1, ma, e1, d1, g1⟩ := pick_str hp A1 hd (by decide) (by decide)
  obtain ⟨b, μ2, mb, e2, d2, g2⟩ := pick_str hp A2 d1 (by decide) (by decide)
  obtain ⟨c, μ3, mc, e3, d3, g3⟩ := pick_str hp A3 d2 (by decide) (by decide)
  refine ⟨⟨a, b, c⟩, μ3, ⟨ma, mb, mc⟩, ?_, d3, (g1.trans g2).trans g3⟩
  have hw := hw μ
  generalize A1.map D.str = B1 at e1 hw
  generalize A2.map D.str = B2 at e2 hw
  generalize A3.map D.str = B3 at e3 hw
  simp [runF, f__law_kind, exSs, exS, ev, evs, Fl.of, Fl.next, Out.bind, opt, Env.get, Env.put, iterD, hw, compLoop, wipeE, Tg.slots, bindT, blt, e1, e2, e3, kd]
/-! ### doors -/
def DoorsOk (r : List D → Store → Out D) : Prop := ∀ (l : Nat) (μ : Store), Dice l μ → ∃ (ps : List P) (μ' : Store), ps.length = 8 ∧ (∀ p ∈ ps, GP p) ∧ r [.loc l] μ = .ok (.lst (ps.map dr)) μ' ∧ Dice l μ'
theorem pows : powOk 10 39 = true ∧ powOk 10 12 = true := by decide +kernel
theorem doors_ok {G : GT} {fuel : Nat} (hr : RollOk (G.call "_law_roll")) (hw : WordOk (G.call "_law_word")) (hf : FreshOk (G.call "_law_fresh")) : DoorsOk (runF G fuel f__law_doors) := by
  intro l μ hd
  obtain ⟨z1, μ1, hz1, e1, d1, g1⟩ := hw l μ hd
  have dA := dice_app (ν := [.lst [.str z1]]) d1
  have hne : μ1.length ≠ l := Nat.ne_of_gt (dice_lt d1)
  obtain ⟨z2, μ2, hz2, e2, d2, g2⟩ := hf l μ1.length (μ1 ++ [.lst [.str z1]]) [z1] dA (by simp) hne (by simp)
  have u2 : μ2[μ1.length]? = some (.lst [.str z1]) := by rw [Chg.get g2 hne]; simp
  have l2 : μ1.length < μ2.length := (List.getElem?_eq_some_iff.mp u2).1
  have dB := dice_set (x := .lst [.str z1, .str z2]) d2 hne
  obtain ⟨z3, μ3, hz3, e3, d3, g3⟩ := hf l μ1.length (μ2.set μ1.length (.lst [.str z1, .str z2])) [z1, z2] dB (List.getElem?_set_self l2) hne (by simp)
  have u3 : μ3[μ1.length]? = some (.lst [.str z1, .str z2]) := by rw [Chg.get g3 hne, List.getElem?_set_self l2]
  have l3 : μ1.length < μ3.length := (List.getElem?_eq_some_iff.mp u3).1
  have dC := dice_set (x := .lst [.str z1, .str z2, .str z3]) d3 hne
  obtain ⟨n, μ4, hn, e4, d4, g4⟩ := hr l (μ3.set μ1.length (.lst [.str z1, .str z2, .str z3])) 1000000000000 dC (by decide) (by decide)
  have u4 : μ4[μ1.length]? = some (.lst [.str z1, .str z2, .str z3]) := by rw [Chg.get g4 hne, List.getElem?_set_self l3]
  obtain ⟨k, μ5, hk, e5, d5, g5⟩ := hr l μ4 50 d4 (by decide) (by decide)
  obtain ⟨p1, p2⟩ := pows
  obtain ⟨g, hg⟩ : ∃ g : Int, g = 1000000000000000000000000000000000000000 + (n : Int) := ⟨_, rfl⟩
  refine ⟨[(z1, 0), (z1, 1), (z1, g), (z2, 0), (z2, g), (z3, 1), (z3, 2 + (k : Int)), (z2, 70)], μ5, rfl, ?_, ?_, d5⟩
  · intro p hp
    simp only [List.mem_cons, List.not_mem_nil, or_false] at hp
    rcases hp with rfl | rfl | rfl | rfl | rfl | rfl | rfl | rfl
    all_goals first
      | exact ⟨hz1, (by show (0 : Int) ≤ _; omega)⟩
      | exact ⟨hz2, (by show (0 : Int) ≤ _; omega)⟩
      | exact ⟨hz3, (by show (0 : Int) ≤ _; omega)⟩
  · have s2 := List.getElem?_set_self (a := SO.lst [.str z1, .str z2]) l2
    have s3 := List.getElem?_set_self (a := SO.lst [.str z1, .str z2, .str z3]) l3
    clear l2 l3
    generalize hu : μ1.length = u at *
    simp [runF, f__law_doors, exSs, exS, ev, evs, Fl.of, Fl.next, Fl.opt, Out.bind, opt, Env.get, Env.put, bindT, putAll, LINE, binop, e1, e2, e3, e4, e5, hu, u2, u3, u4, s2, s3, p1, p2, ← hg, dr]
end LB

set_option Elab.async false
set_option linter.all false
set_option maxRecDepth 100000
set_option maxHeartbeats 4000000
/-! LB3: live boxes in the store; what they are asked. -/
namespace LB
open PySem (Str NestedKey PyData)
open LD
/-! ### names, doors, kinds asked -/
def NameOk (r : List D → Store → Out D) : Prop := ∀ (z : Str) (μ : Store), GN z → r [.str z] μ = .ok (.bl true) μ
def IntOk (r : List D → Store → Out D) : Prop := ∀ (n : Int) (μ : Store), r [.int n] μ = .ok (.bl true) μ
def DoorOk (r : List D → Store → Out D) : Prop := ∀ (p : P) (μ : Store), GP p → r [dr p] μ = .ok (.bl true) μ
def ReqDoorOk (r : List D → Store → Out D) : Prop := ∀ (p : P) (μ : Store), GP p → r [dr p] μ = .ok .non μ
def IsKindOk (r : List D → Store → Out D) : Prop := ∀ (k : Kd) (μ : Store), GK k → r [kd k] μ = .ok (.bl true) μ
theorem bools_all : ∀ l : List Nat, bools (l.map fun _ => D.bl true) = some (l.map fun _ => true)
  | [] => rfl
  | c :: l => by simp [bools, bools_all l]
theorem in_sg {c : Nat} (h : Lt c) : cmpop .in_ (.str ⟨#[c]⟩) (.str letters) = some true := by
  show some (decide (c ∈ letters.cps.toList)) = _
  exact congrArg some (decide_eq_true (show c ∈ letters.cps.toList from h))
theorem name_ok {G : GT} {fuel : Nat} (hL : G.con "LETTERS" = some (.str letters)) : NameOk (runF G fuel f_is_name) := by
  intro z μ hz
  obtain ⟨h1, h2, h3⟩ := hz
  have hc : ev G (.comp (.cmp .in_ (.var 1) (.glob "LETTERS")) (.name 1) .val (.cons (.var 0) .nil) none) [.val (.str z), .no] μ = .ok (.lst (z.cps.toList.map fun c => .bl true)) μ := by
    simp only [ev, evs, Out.bind, opt, Env.get, iterD]
    simp only [List.getElem?_cons_zero]
    rw [compLoop_map (g := fun c => D.str ⟨#[c]⟩) (h := fun c => .bl true)]
    · rfl
    · intro x hx
      simp [wipeE, Tg.slots, bindT, Env.put, Env.get, opt, Out.bind, ev, hL, in_sg (h3 x hx)]
  have hb := bools_all z.cps.toList
  have l1 : cmpop .le (.int 1) (.int (z.length : Int)) = some true := by
    show some (decide ((1 : Int) ≤ (z.length : Int))) = _
    rw [decide_eq_true (by omega)]
  have l2 : cmpop .le (.int (z.length : Int)) (.int 8) = some true := by
    show some (decide ((z.length : Int) ≤ 8)) = _
    rw [decide_eq_true (by omega)]
  have hall : blt .all1 [.lst (z.cps.toList.map fun c => .bl true)] = some (.bl true) := by
    show (bools (z.cps.toList.map fun c => D.bl true)).map (fun bs => D.bl (bs.all id)) = _
    rw [hb]
    simp
  have q : ev G (.and_ (.blt .isinst (.cons (.var 0) (.cons (.con (.ty "str")) .nil))) (.and_ (.chain .le .le (.con (.int 1)) (.blt .len (.cons (.var 0) .nil)) (.con (.int 8))) (.blt .all1 (.cons (.comp (.cmp .in_ (.var 1) (.glob "LETTERS")) (.name 1) .val (.cons (.var 0) .nil) none) .nil)))) [.val (.str z), .no] μ = .ok (.bl true) μ := by
    have hbl : ev G (.blt .all1 (.cons (.comp (.cmp .in_ (.var 1) (.glob "LETTERS")) (.name 1) .val (.cons (.var 0) .nil) none) .nil)) [.val (.str z), .no] μ = .ok (.bl true) μ := by
      rw [ev, evs, hc]
      show opt (blt .all1 [.lst (z.cps.toList.map fun c => .bl true)]) μ = _
      rw [hall]
      rfl
    generalize Ex.blt .all1 (.cons (.comp (.cmp .in_ (.var 1) (.glob "LETTERS")) (.name 1) .val (.cons (.var 0) .nil) none) .nil) = e at hbl
    simp [ev, evs, Out.bind, opt, Env.get, blt, tyN, isB, truthy, lenD, l1, l2, hbl]
  refine runF_ret rfl (exSs_ret ?_)
  exact (congrArg (fun o => Fl.of [.val (.str z), .no] o fun d μ => .ret d μ) q : _)
theorem int_ok {G : GT} {fuel : Nat} : IntOk (runF G fuel f_is_integer) := fun n μ => by
  simp [runF, f_is_integer, exSs, exS, Fl.of, Fl.next, ev, evs, Out.bind, opt, Env.get, blt, tyN, isB, truthy]
theorem ge0 {n : Int} (h : 0 ≤ n) : cmpop .ge (.int n) (.int 0) = some true := by
  show some (decide (0 ≤ n)) = _
  rw [decide_eq_true h]
theorem ne22 : cmpop .ne (.int 2) (.int 2) = some false := by kernel_rfl
theorem ne33 : cmpop .ne (.int 3) (.int 3) = some false := by kernel_rfl
theorem door_ok {G : GT} {fuel : Nat} (hn : NameOk (G.call "is_name")) (hi : IntOk (G.call "is_integer")) : DoorOk (runF G fuel f_is_door) := by
  intro p μ hp
  have h1 := hn p.1 μ hp.1
  have h2 := hi p.2 μ
  have h3 := ge0 hp.2
  simp [runF, f_is_door, exSs, exS, Fl.of, Fl.next, ev, evs, Out.bind, opt, Env.get, blt, tyN, isB, truthy, testOf, lenD, ne22, dr, idxD, L2.atI, L2.ixN, h1, h2, h3]
theorem req_door_ok {G : GT} {fuel : Nat} (hd : DoorOk (G.call "is_door")) : ReqDoorOk (runF G fuel f_require_door) := by
  intro p μ hp
  have h1 := hd p μ hp
  simp [runF, f_require_door, exSs, exS, Fl.of, Fl.next, ev, evs, Out.bind, opt, Env.get, truthy, testOf, h1]
theorem in_A1 : ∀ {x : Str}, x ∈ A1 → inSeq (.str x) (A1.map D.str) = some true := fun {x} h => by rw [in_strs, decide_eq_true h]
theorem is_kind_ok {G : GT} {fuel : Nat} (h1 : G.con "LENDINGS" = some (.tup (A1.map D.str))) (h2 : G.con "LETTINGS" = some (.tup (A2.map D.str))) (h3 : G.con "TURNINGS" = some (.tup (A3.map D.str))) : IsKindOk (runF G fuel f_is_kind) := by
  intro k μ hk
  obtain ⟨a, b, c⟩ := k
  obtain ⟨ha, hb, hc⟩ := hk
  have i1 : cmpop .in_ (.str a) (.tup (A1.map D.str)) = some true := by
    show inSeq (.str a) (A1.map D.str) = _
    rw [in_strs, decide_eq_true ha]
  have i2 : cmpop .in_ (.str b) (.tup (A2.map D.str)) = some true := by
    show inSeq (.str b) (A2.map D.str) = _
    rw [in_strs, decide_eq_true hb]
  have i3 : cmpop .in_ (.str c) (.tup (A3.map D.str)) = some true := by
    show inSeq (.str c) (A3.map D.str) = _
    rw [in_strs, decide_eq_true hc]
  generalize A1.map D.str = B1 at *
  generalize A2.map D.str = B2 at *
  generalize A3.map D.str = B3 at *
  simp [runF, f_is_kind, exSs, exS, ev, evs, Fl.of, Fl.next, Fl.opt, Out.bind, opt, Env.get, Env.put, bindT, putAll, testOf, truthy, blt, tyN, isB, lenD, ne33, kd, i1, i2, i3, h1, h2, h3]
/-! ### boxes in the store -/
structure E where
  ca : Ca
  num : Int
  uses : List P
  pu : Nat
  lu : Nat
structure LL where
  o : Nat
  c : Nat
  i : Nat
  u : Nat
  r : Nat
def hdl (a : LL) : List Nat := [a.o, a.c, a.i, a.u, a.r]
def fds (name : Str) (k : Kd) (nb : D) (a : LL) : List (Str × D) := [("own_name", .str name), ("own_kind", kd k), ("own_numbers", nb), ("own_cases", .loc a.c), ("own_inners", .loc a.i), ("own_uses", .loc a.u), ("own_order", .loc a.r)]
section
variable (name : Str) (k : Kd) (nb : D) (a : LL)
theorem f_name : List.lookup ("own_name" : Str) (fds name k nb a) = some (.str name) := by kernel_rfl
theorem f_kind : List.lookup ("own_kind" : Str) (fds name k nb a) = some (kd k) := by kernel_rfl
theorem f_numbers : List.lookup ("own_numbers" : Str) (fds name k nb a) = some nb := by kernel_rfl
theorem f_cases : List.lookup ("own_cases" : Str) (fds name k nb a) = some (.loc a.c) := by kernel_rfl
theorem f_inners : List.lookup ("own_inners" : Str) (fds name k nb a) = some (.loc a.i) := by kernel_rfl
theorem f_uses : List.lookup ("own_uses" : Str) (fds name k nb a) = some (.loc a.u) := by kernel_rfl
theorem f_order : List.lookup ("own_order" : Str) (fds name k nb a) = some (.loc a.r) := by kernel_rfl
theorem m_case_of : List.lookup ("case_of" : Str) (fds name k nb a) = none := by kernel_rfl
theorem m_offer : List.lookup ("offer" : Str) (fds name k nb a) = none := by kernel_rfl
theorem m_settle : List.lookup ("settle" : Str) (fds name k nb a) = none := by kernel_rfl
theorem m_lend : List.lookup ("lend" : Str) (fds name k nb a) = none := by kernel_rfl
theorem m_require_lent : List.lookup ("require_lent" : Str) (fds name k nb a) = none := by kernel_rfl
theorem m_inner : List.lookup ("inner" : Str) (fds name k nb a) = none := by kernel_rfl
theorem m_used : List.lookup ("used" : Str) (fds name k nb a) = none := by kernel_rfl
theorem m_doors : List.lookup ("doors" : Str) (fds name k nb a) = none := by kernel_rfl
theorem m_lets_in : List.lookup ("lets_in" : Str) (fds name k nb a) = none := by kernel_rfl
end
def ObjAt (μ : Store) (a : LL) (name : Str) (k : Kd) (nb : D) : Prop := μ[a.o]? = some (.obj "LiveBox" (fds name k nb a))
structure LiveAt (μ : Store) (a : LL) (name : Str) (k : Kd) (nb : D) (es : List E) : Prop where
  ob : ObjAt μ a name k nb
  ca : μ[a.c]? = some (.dcn (es.map fun e => (kC.d e.ca, D.int e.num)))
  inn : μ[a.i]? = some (.dct (es.map fun e => (D.int e.num, dr e.ca.src)))
  us : μ[a.u]? = some (.dct (es.map fun e => (D.int e.num, D.loc e.lu)))
  ord : μ[a.r]? = some (.lst (es.map fun e => dr (name, e.num)))
  ul : ∀ e ∈ es, μ[e.lu]? = some (.dcn (e.uses.map fun p => (kP.d p, D.bl true)))
def pbox (name : Str) (k : Kd) (a : LL) : List (D × D) := [(.str "name", .str name), (.str "kind", kd k), (.str "cases", .loc a.c), (.str "inner", .loc a.i), (.str "uses", .loc a.u), (.str "order", .loc a.r)]
section
variable (name : Str) (k : Kd) (a : LL)
theorem p_name : lookD (pbox name k a) (.str "name") = some (.str name) := by kernel_rfl
theorem p_kind : lookD (pbox name k a) (.str "kind") = some (kd k) := by kernel_rfl
theorem p_cases : lookD (pbox name k a) (.str "cases") = some (.loc a.c) := by kernel_rfl
theorem p_inner : lookD (pbox name k a) (.str "inner") = some (.loc a.i) := by kernel_rfl
theorem p_uses : lookD (pbox name k a) (.str "uses") = some (.loc a.u) := by kernel_rfl
theorem p_order : lookD (pbox name k a) (.str "order") = some (.loc a.r) := by kernel_rfl
end
structure PlainAt (μ : Store) (a : LL) (name : Str) (k : Kd) (es : List E) : Prop where
  ob : μ[a.o]? = some (.dct (pbox name k a))
  ca : μ[a.c]? = some (.dcn (es.map fun e => (kC.d e.ca, dr (name, e.num))))
  inn : μ[a.i]? = some (.dcn (es.map fun e => (kP.d (name, e.num), dr e.ca.src)))
  us : μ[a.u]? = some (.dcn (es.map fun e => (kP.d (name, e.num), D.loc e.pu)))
  ord : μ[a.r]? = some (.lst (es.map fun e => dr (name, e.num)))
  ul : ∀ e ∈ es, μ[e.pu]? = some (.lst (e.uses.map dr))
/-! ### finding -/
def InjO {κ : Type} (f : E → κ) (es : List E) : Prop := ∀ x ∈ es, ∀ y ∈ es, f x = f y → x = y
theorem find_inj {κ : Type} [DecidableEq κ] {f : E → κ} : ∀ {es : List E} {e : E}, InjO f es → e ∈ es → (es.find? fun x => decide (f x = f e)) = some e
  | x :: es, e, hi, he => by
    by_cases h : f x = f e
    · have hx : x = e := hi x (List.mem_cons_self ..) e he h
      subst hx
      simp
    · rw [List.find?_cons, decide_eq_false h]
      have he' : e ∈ es := by
        rcases List.mem_cons.mp he with rfl | he
        · exact absurd rfl h
        · exact he
      exact find_inj (fun a ha b hb => hi a (List.mem_cons_of_mem _ ha) b (List.mem_cons_of_mem _ hb)) he'
theorem any_mem {κ : Type} [DecidableEq κ] {f : E → κ} {es : List E} {e : E} (he : e ∈ es) : (es.any fun x => decide (f x = f e)) = true := List.any_eq_true.mpr ⟨e, he, decide_eq_true rfl⟩
theorem any_none {κ : Type} [DecidableEq κ] {f : E → κ} {es : List E} {y : κ} (h : ∀ e ∈ es, f e ≠ y) : (es.any fun x => decide (f x = y)) = false := List.any_eq_false.mpr fun e he => by simpa using h e he
/-- what stands between boxes: all about the entries -/
structure Wf (name : Str) (es : List E) : Prop where
  ca : InjO E.ca es
  num : InjO E.num es
  lu : InjO E.lu es
  pu : InjO E.pu es
  pos : ∀ e ∈ es, 0 ≤ e.num
  src : ∀ e ∈ es, GP e.ca.src
  us : ∀ e ∈ es, ∀ p ∈ e.uses, GP p
/-! ### what a box tells -/
def caOf (k : Kd) (s t : P) : Ca := if k.a = "source" then ⟨s, .s⟩ else if k.a = "address" then ⟨s, .a t.1⟩ else ⟨s, .d t⟩
def AttrOk (r : List D → Store → Out D) (f : Str → Kd → D) : Prop := ∀ (μ : Store) (a : LL) (name : Str) (k : Kd) (nb : D), ObjAt μ a name k nb → r [.loc a.o] μ = .ok (f name k) μ
theorem address_ok {G : GT} {fuel : Nat} : AttrOk (runF G fuel f_LiveBox_address) fun n _ => .str n := fun μ a name k nb h => by
  unfold ObjAt at h
  simp [runF, f_LiveBox_address, exSs, exS, ev, Fl.of, Fl.next, Out.bind, opt, Env.get, h, f_name]
theorem kindp_ok {G : GT} {fuel : Nat} : AttrOk (runF G fuel f_LiveBox_kind) fun _ k => kd k := fun μ a name k nb h => by
  unfold ObjAt at h
  simp [runF, f_LiveBox_kind, exSs, exS, ev, Fl.of, Fl.next, Out.bind, opt, Env.get, h, f_kind]
def CaseOfOk (r : List D → Store → Out D) : Prop := ∀ (μ : Store) (a : LL) (name : Str) (k : Kd) (nb : D) (s t : P), ObjAt μ a name k nb → GK k → r [.loc a.o, dr s, dr t] μ = .ok (caD (caOf k s t)) μ
theorem eqA1 : cmpop .eq (.str "source") (.str "source") = some true ∧ cmpop .eq (.str "address") (.str "source") = some false ∧ cmpop .eq (.str "door") (.str "source") = some false ∧ cmpop .eq (.str "address") (.str "address") = some true ∧ cmpop .eq (.str "door") (.str "address") = some false := by
  refine ⟨?_, ?_, ?_, ?_, ?_⟩ <;> kernel_rfl
theorem neA1 : ¬ ("address" : Str) = "source" ∧ ¬ ("door" : Str) = "source" ∧ ¬ ("door" : Str) = "address" := by decide +kernel
theorem kd_0 (k : Kd) (μ : Store) : idxD (kd k) (.int 0) μ = some (.str k.a) := rfl
theorem dr_0 (p : P) (μ : Store) : idxD (dr p) (.int 0) μ = some (.str p.1) := rfl
theorem dr_1 (p : P) (μ : Store) : idxD (dr p) (.int 1) μ = some (.int p.2) := rfl
theorem case_of_ok {G : GT} {fuel : Nat} : CaseOfOk (runF G fuel f_LiveBox_case_of) := fun μ a name k nb s t h hk => by
  unfold ObjAt at h
  obtain ⟨q1, q2, q3, q4, q5⟩ := eqA1
  obtain ⟨n1, n2, n3⟩ := neA1
  have ha := hk.1
  have f0 := f_kind name k nb a
  have i0 := kd_0 k
  have j0 := dr_0 t
  unfold caOf
  simp only [A1, List.mem_cons, List.not_mem_nil, or_false] at ha
  generalize kd k = kk at *
  rcases ha with e | e | e <;> rw [e] at i0 <;> simp only [e, n1, n2, n3, if_true, if_false] <;>
    simp [runF, f_LiveBox_case_of, exSs, exS, ev, evs, Fl.of, Fl.next, Out.bind, opt, Env.get, testOf, truthy, LINE, h, f0, i0, j0, q1, q2, q3, q4, q5, caD, csD]
def LawCaseOk (r : List D → Store → Out D) : Prop := ∀ (μ : Store) (a : LL) (name : Str) (k : Kd) (s t : P), μ[a.o]? = some (.dct (pbox name k a)) → GK k → r [.loc a.o, dr s, dr t] μ = .ok (caD (caOf k s t)) μ
theorem law_case_ok {G : GT} {fuel : Nat} : LawCaseOk (runF G fuel f__law_case) := fun μ a name k s t h hk => by
  obtain ⟨q1, q2, q3, q4, q5⟩ := eqA1
  obtain ⟨n1, n2, n3⟩ := neA1
  have ha := hk.1
  have f0 := p_kind name k a
  have i0 := kd_0 k
  have j0 := dr_0 t
  unfold caOf
  simp only [A1, List.mem_cons, List.not_mem_nil, or_false] at ha
  generalize kd k = kk at *
  rcases ha with e | e | e <;> rw [e] at i0 <;> simp only [e, n1, n2, n3, if_true, if_false] <;>
    simp [runF, f__law_case, exSs, exS, ev, evs, Fl.of, Fl.next, Fl.opt, Out.bind, opt, Env.get, Env.put, bindT, testOf, truthy, LINE, h, f0, i0, j0, q1, q2, q3, q4, q5, caD, csD]
end LB

set_option Elab.async false
set_option linter.all false
set_option maxRecDepth 100000
set_option maxHeartbeats 4000000
/-! LB4: a plain box lends. -/
namespace LB
open PySem (Str NestedKey PyData)
open LD
theorem set_get {μ : Store} {i j : Nat} {x y : SO} (h : i ≠ j) (q : μ[j]? = some y) : (List.set μ i x)[j]? = some y := by rw [List.getElem?_set_ne h, q]
theorem set_at {μ : Store} {i : Nat} {x y : SO} (q : μ[i]? = some y) : (List.set μ i x)[i]? = some x := List.getElem?_set_self (List.getElem?_eq_some_iff.mp q).1
theorem app_get {μ ν : Store} {j : Nat} {y : SO} (q : μ[j]? = some y) : (μ ++ ν)[j]? = some y := by rw [List.getElem?_append_left (List.getElem?_eq_some_iff.mp q).1, q]
theorem app_at {μ : Store} {x : SO} : (μ ++ [x])[μ.length]? = some x := by simp
theorem lt_of_get {μ : Store} {i : Nat} {y : SO} (q : μ[i]? = some y) : i < μ.length := (List.getElem?_eq_some_iff.mp q).1
def addU (us : List P) (t : P) : List P := if t ∈ us then us else us ++ [t]
def upd (c : Ca) (t : P) (e : E) : E := if e.ca = c then { e with uses := addU e.uses t } else e
section
variable (c : Ca) (t : P) (e : E)
theorem upd_ca : (upd c t e).ca = e.ca := by unfold upd; split <;> rfl
theorem upd_num : (upd c t e).num = e.num := by unfold upd; split <;> rfl
theorem upd_pu : (upd c t e).pu = e.pu := by unfold upd; split <;> rfl
theorem upd_lu : (upd c t e).lu = e.lu := by unfold upd; split <;> rfl
end
def ensure (es : List E) (c : Ca) (n : Int) (pu lu : Nat) : List E := if es.any (fun e => decide (e.ca = c)) then es else es ++ [⟨c, n, [], pu, lu⟩]
/-- what changed: only the objects of F, and new ones; F' the objects then -/
structure Stp (F F' : List Nat) (μ μ' : Store) : Prop where
  len : μ.length ≤ μ'.length
  keep : ∀ l, l ∉ F → l < μ.length → μ'[l]? = μ[l]?
  fr : ∀ l ∈ F', l ∈ F ∨ μ.length ≤ l
theorem Stp.trans {F F' F'' : List Nat} {μ μ' μ'' : Store} (h : Stp F F' μ μ') (h' : Stp F' F'' μ' μ'') : Stp F F'' μ μ'' where
  len := Nat.le_trans h.len h'.len
  keep := fun l h1 h2 => by
    rw [h'.keep l (fun q => by
      rcases h.fr l q with q | q
      · exact h1 q
      · omega) (by have := h.len; omega), h.keep l h1 h2]
  fr := fun l hl => by
    rcases h'.fr l hl with q | q
    · exact h.fr l q
    · exact Or.inr (Nat.le_trans h.len q)
theorem Stp.refl (F : List Nat) (μ : Store) : Stp F F μ μ := ⟨Nat.le_refl _, fun _ _ _ => rfl, fun l h => Or.inl h⟩
def foot (a : LL) (f : E → Nat) (es : List E) : List Nat := hdl a ++ es.map f
theorem foot_upd {a : LL} {f : E → Nat} {c : Ca} {t : P} (h : ∀ e, f (upd c t e) = f e) (es : List E) : foot a f (es.map (upd c t)) = foot a f es := by
  unfold foot
  rw [List.map_map]
  congr 1
  exact List.map_congr_left fun e _ => h e
structure Sep (a : LL) (f : E → Nat) (es : List E) : Prop where
  nd : (hdl a).Nodup
  ne : ∀ e ∈ es, f e ∉ hdl a
theorem Sep.nes {a : LL} {f : E → Nat} {es : List E} (h : Sep a f es) : (a.o ≠ a.c ∧ a.o ≠ a.i ∧ a.o ≠ a.u ∧ a.o ≠ a.r) ∧ (a.c ≠ a.i ∧ a.c ≠ a.u ∧ a.c ≠ a.r) ∧ (a.i ≠ a.u ∧ a.i ≠ a.r) ∧ a.u ≠ a.r := by
  have h := h.nd
  unfold hdl at h
  simp only [List.nodup_cons, List.mem_cons, List.not_mem_nil, or_false, not_or] at h
  exact ⟨h.1, h.2.1, h.2.2.1, h.2.2.2.1⟩
theorem Sep.of {a : LL} {f : E → Nat} {es : List E} (h : Sep a f es) {e : E} (he : e ∈ es) : f e ≠ a.o ∧ f e ≠ a.c ∧ f e ≠ a.i ∧ f e ≠ a.u ∧ f e ≠ a.r := by
  have h := h.ne e he
  unfold hdl at h
  simp only [List.mem_cons, List.not_mem_nil, or_false, not_or] at h
  exact h
/-- entries may be as many as N -/
structure Few (N : Nat) (es : List E) : Prop where
  len : es.length ≤ N
  us : ∀ e ∈ es, e.uses.length ≤ N
  lt : N < LINE
section
variable {G : GT} {fuel : Nat} {μ : Store} {a : LL} {name : Str} {k : Kd} {es : List E} {c : Ca} {t s : P}
theorem mem_foot {a : LL} {f : E → Nat} {es : List E} {e : E} (he : e ∈ es) : f e ∈ foot a f es := List.mem_append_right _ (List.mem_map_of_mem he)
theorem hd_foot {a : LL} {f : E → Nat} {es : List E} : a.o ∈ foot a f es ∧ a.c ∈ foot a f es ∧ a.i ∈ foot a f es ∧ a.u ∈ foot a f es ∧ a.r ∈ foot a f es := by
  unfold foot hdl
  simp
/-- the plain box with one more use -/
theorem PlainAt.use (h : PlainAt μ a name k es) (S : Sep a E.pu es) (W : Wf name es) {e : E} (he : e ∈ es) (hc : e.ca = c) (ht : t ∉ e.uses) : PlainAt (List.set μ e.pu (.lst (e.uses.map dr ++ [dr t]))) a name k (es.map (upd c t)) := by
  obtain ⟨n1, n2, n3, n4, n5⟩ := S.of he
  have m : ∀ {β : Type} (f : E → β), (∀ e, f (upd c t e) = f e) → (es.map (upd c t)).map f = es.map f := fun f hf => by
    rw [List.map_map]
    exact List.map_congr_left fun e _ => hf e
  constructor
  · exact set_get n1 h.ob
  · rw [m]
    · exact set_get n2 h.ca
    · intro e; simp only [upd_ca, upd_num]
  · rw [m]
    · exact set_get n3 h.inn
    · intro e; simp only [upd_ca, upd_num]
  · rw [m]
    · exact set_get n4 h.us
    · intro e; simp only [upd_pu, upd_num]
  · rw [m]
    · exact set_get n5 h.ord
    · intro e; simp only [upd_num]
  · intro x' hx'
    obtain ⟨x, hx, rfl⟩ := List.mem_map.mp hx'
    rw [upd_pu]
    by_cases q : x.ca = c
    · have hxe : x = e := W.ca x hx e he (q.trans hc.symm)
      subst hxe
      unfold upd addU
      rw [if_pos q, if_neg ht]
      rw [set_at (h.ul x hx)]
      simp
    · have hne : e.pu ≠ x.pu := fun z => q ((congrArg E.ca (W.pu e he x hx z)).symm.trans hc)
      unfold upd
      rw [if_neg q]
      exact set_get hne (h.ul x hx)
theorem upd_id (W : Wf name es) {e : E} (he : e ∈ es) (hc : e.ca = c) (ht : t ∈ e.uses) : es.map (upd c t) = es := by
  have : es.map (upd c t) = es.map id := List.map_congr_left fun x hx => by
    unfold upd
    split
    · rename_i q
      have hxe : x = e := W.ca x hx e he (q.trans hc.symm)
      subst hxe
      unfold addU
      rw [if_pos ht]
      rfl
    · rfl
  rw [this, List.map_id]
def lendB : Sms := (.cons (.asg (.name 5) (.dget (.dget (.var 0) (.con (.str "cases"))) (.var 4)))
    (.cons (.ite (.lin true (.var 2) (.dget (.dget (.var 0) (.con (.str "uses"))) (.var 5)))
      (.cons (.appl (.dget (.dget (.var 0) (.con (.str "uses"))) (.var 5)) (.var 2)) .nil)
      (.nil))
    (.cons (.ret (.var 5)) .nil)))
theorem lendB_ok {N : Nat} (h : PlainAt μ a name k es) (S : Sep a E.pu es) (W : Wf name es) (F : Few N es) (ht : GP t) {e : E} (he : e ∈ es) (hc : e.ca = c) (v s6 s7 : Slot) : ∃ μ', exSs G fuel lendB [.val (.loc a.o), .val (dr s), .val (dr t), v, .val (caD c), .no, s6, s7] μ = .ret (dr (name, e.num)) μ' ∧ PlainAt μ' a name k (es.map (upd c t)) ∧ Stp (foot a E.pu es) (foot a E.pu (es.map (upd c t))) μ μ' ∧ μ'.length = μ.length := by
  have l1 : lookN (es.map fun e => (kC.d e.ca, dr (name, e.num))) (caD c) = some (dr (name, e.num)) := by
    have q := look_map kC E.ca (fun e => dr (name, e.num)) es c
    rw [← hc, find_inj W.ca he] at q
    rw [← hc]
    exact q
  have l2 : lookN (es.map fun e => (kP.d (name, e.num), D.loc e.pu)) (dr (name, e.num)) = some (.loc e.pu) := by
    have q := look_map kP (fun e : E => (name, e.num)) (fun e => D.loc e.pu) es (name, e.num)
    rw [find_inj (f := fun e : E => (name, e.num)) (fun x hx y hy z => W.num x hx y hy (congrArg Prod.snd z)) he] at q
    exact q
  have i1 := in_dr ht.1 (fun p hp => (W.us e he p hp).1)
  have o := h.ob
  have oc := h.ca
  have ou := h.us
  have ul := h.ul e he
  have p1 := p_cases name k a
  have p2 := p_uses name k a
  generalize (es.map fun e => (kC.d e.ca, dr (name, e.num))) = X1 at oc l1
  generalize (es.map fun e => (kP.d (name, e.num), D.loc e.pu)) = X2 at ou l2
  generalize pbox name k a = X3 at o p1 p2
  have q0 : exS G fuel (.asg (.name 5) (.dget (.dget (.var 0) (.con (.str "cases"))) (.var 4))) [.val (.loc a.o), .val (dr s), .val (dr t), v, .val (caD c), .no, s6, s7] μ = .nx [.val (.loc a.o), .val (dr s), .val (dr t), v, .val (caD c), .val (dr (name, e.num)), s6, s7] μ := by
    simp [exS, ev, Fl.of, Fl.opt, Out.bind, opt, Env.get, Env.put, bindT, o, oc, p1, l1]
  have q3 : ∀ μ', exS G fuel (.ret (.var 5)) [.val (.loc a.o), .val (dr s), .val (dr t), v, .val (caD c), .val (dr (name, e.num)), s6, s7] μ' = .ret (dr (name, e.num)) μ' := fun μ' => by
    simp [exS, ev, Fl.of, opt, Env.get]
  by_cases hm : t ∈ e.uses
  · rw [decide_eq_true hm] at i1
    have q1 : exS G fuel (.ite (.lin true (.var 2) (.dget (.dget (.var 0) (.con (.str "uses"))) (.var 5))) (.cons (.appl (.dget (.dget (.var 0) (.con (.str "uses"))) (.var 5)) (.var 2)) .nil) (.nil)) [.val (.loc a.o), .val (dr s), .val (dr t), v, .val (caD c), .val (dr (name, e.num)), s6, s7] μ = .nx [.val (.loc a.o), .val (dr s), .val (dr t), v, .val (caD c), .val (dr (name, e.num)), s6, s7] μ := by
      simp [exS, exSs, ev, Fl.of, Fl.opt, Out.bind, opt, Env.get, testOf, truthy, o, ou, p2, l2, ul, i1]
    refine ⟨μ, (exSs_nx q0).trans ((exSs_nx q1).trans (exSs_ret (q3 μ))), ?_, ?_, rfl⟩
    · rw [upd_id W he hc hm]
      exact h
    · rw [upd_id W he hc hm]
      exact Stp.refl _ _
  · rw [decide_eq_false hm] at i1
    have hlen : (e.uses.map dr).length < LINE := by
      have := F.us e he
      have := F.lt
      rw [List.length_map]
      omega
    have q1 : exS G fuel (.ite (.lin true (.var 2) (.dget (.dget (.var 0) (.con (.str "uses"))) (.var 5))) (.cons (.appl (.dget (.dget (.var 0) (.con (.str "uses"))) (.var 5)) (.var 2)) .nil) (.nil)) [.val (.loc a.o), .val (dr s), .val (dr t), v, .val (caD c), .val (dr (name, e.num)), s6, s7] μ = .nx [.val (.loc a.o), .val (dr s), .val (dr t), v, .val (caD c), .val (dr (name, e.num)), s6, s7] (List.set μ e.pu (.lst (e.uses.map dr ++ [dr t]))) := by
      generalize e.uses.map dr = X4 at *
      simp [exS, exSs, ev, Fl.of, Fl.opt, Fl.next, Out.bind, opt, Env.get, testOf, truthy, o, ou, p2, l2, ul, i1, hlen]
    refine ⟨_, (exSs_nx q0).trans ((exSs_nx q1).trans (exSs_ret (q3 _))), h.use S W he hc hm, ?_, List.length_set⟩
    rw [foot_upd (upd_pu c t)]
    exact ⟨by rw [List.length_set]; exact Nat.le_refl _, fun l h1 _ => List.getElem?_set_ne fun z => h1 ((show e.pu = l from z) ▸ mem_foot he), fun l hl => Or.inl hl⟩
end
end LB

set_option Elab.async false
set_option linter.all false
set_option maxRecDepth 100000
set_option maxHeartbeats 4000000
/-! LB5: a plain box lends a new door; _law_lend whole. -/
namespace LB
open PySem (Str NestedKey PyData)
open LD
theorem set_len {μ : Store} {i : Nat} {x : SO} : (List.set μ i x).length = List.length μ := List.length_set
theorem set_get' {μ μ1 : Store} {i j : Nat} {x y : SO} (e : μ1 = List.set μ i x) (h : i ≠ j) (q : μ[j]? = some y) : μ1[j]? = some y := e ▸ set_get h q
theorem set_at' {μ μ1 : Store} {i : Nat} {x y : SO} (e : μ1 = List.set μ i x) (q : μ[i]? = some y) : μ1[i]? = some x := e ▸ set_at q
theorem app_get' {μ ν μ1 : Store} {j : Nat} {y : SO} (e : μ1 = μ ++ ν) (q : μ[j]? = some y) : μ1[j]? = some y := e ▸ app_get q
section
variable {G : GT} {fuel : Nat} {μ : Store} {a : LL} {name : Str} {k : Kd} {es : List E} {c : Ca} {t s : P}
def lendA : Sms := (.cons (.asg (.name 6) (.llen (.dget (.var 0) (.con (.str "order")))))
      (.cons (.asg (.name 7) (.tup (.cons (.dget (.var 0) (.con (.str "name"))) (.cons (.ite (.cmp .is_ (.var 3) (.con .non)) (.bin .add (.var 6) (.con (.int 1))) (.never)) .nil))))
      (.cons (.setd2 (.dget (.var 0) (.con (.str "cases"))) (.var 4) (.dget (.var 0) (.con (.str "inner"))) (.var 7) (.var 7) (.var 1))
      (.cons (.setd (.dget (.var 0) (.con (.str "uses"))) (.var 7) (.newl (.nil)))
      (.cons (.appl (.dget (.var 0) (.con (.str "order"))) (.var 7)) .nil)))))
theorem lendA_ok {N : Nat} (h : PlainAt μ a name k es) (S : Sep a E.pu es) (F : Few N es) (hs : c.src = s) (hn : ∀ e ∈ es, e.ca ≠ c) (hm : ∀ e ∈ es, e.num ≠ (es.length : Int) + 1) (lu : Nat) (t5 s6 s7 : Slot) :
    ∃ μ', exSs G fuel lendA [.val (.loc a.o), .val (dr s), .val (dr t), .val .non, .val (caD c), t5, s6, s7] μ = .nx [.val (.loc a.o), .val (dr s), .val (dr t), .val .non, .val (caD c), t5, .val (.int es.length), .val (dr (name, (es.length : Int) + 1))] μ' ∧ PlainAt μ' a name k (es ++ [⟨c, (es.length : Int) + 1, [], μ.length, lu⟩]) ∧ Stp (foot a E.pu es) (foot a E.pu (es ++ [⟨c, (es.length : Int) + 1, [], μ.length, lu⟩])) μ μ' ∧ μ'.length = μ.length + 1 := by
  obtain ⟨n, hnn⟩ : ∃ n : Int, n = (es.length : Int) + 1 := ⟨_, rfl⟩
  rw [← hnn] at hm ⊢
  obtain ⟨⟨w1, w2, w3, w4⟩, ⟨w5, w6, w7⟩, ⟨w8, w9⟩, w10⟩ := S.nes
  have hlen : es.length < LINE := Nat.lt_of_le_of_lt F.len F.lt
  have k1 : putN (es.map fun e => (kC.d e.ca, dr (name, e.num))) (caD c) (dr (name, n)) = some ((es.map fun e => (kC.d e.ca, dr (name, e.num))) ++ [(caD c, dr (name, n))]) := put_new kC E.ca (fun e => dr (name, e.num)) es c _ (any_none hn) hlen
  have hm' : ∀ e ∈ es, ((name, e.num) : P) ≠ (name, n) := fun e he z => hm e he (congrArg Prod.snd z)
  have k2 : putN (es.map fun e => (kP.d (name, e.num), dr e.ca.src)) (dr (name, n)) (dr s) = some ((es.map fun e => (kP.d (name, e.num), dr e.ca.src)) ++ [(dr (name, n), dr s)]) := put_new kP (fun e : E => (name, e.num)) (fun e => dr e.ca.src) es (name, n) _ (any_none (f := fun e : E => ((name, e.num) : P)) hm') hlen
  have k3 : putN (es.map fun e => (kP.d (name, e.num), D.loc e.pu)) (dr (name, n)) (.loc μ.length) = some ((es.map fun e => (kP.d (name, e.num), D.loc e.pu)) ++ [(dr (name, n), .loc μ.length)]) := put_new kP (fun e : E => (name, e.num)) (fun e => D.loc e.pu) es (name, n) _ (any_none (f := fun e : E => ((name, e.num) : P)) hm') hlen
  have hlr : (es.map fun e => dr (name, e.num)).length < LINE := by rw [List.length_map]; exact hlen
  have hlr2 : (es.map fun e => dr (name, e.num)).length = es.length := List.length_map _
  have o := h.ob
  have oc := h.ca
  have oi := h.inn
  have ou := h.us
  have orr := h.ord
  have ul := h.ul
  -- the stores
  obtain ⟨μ1, e1⟩ : ∃ μ1, μ1 = List.set μ a.c (.dcn ((es.map fun e => (kC.d e.ca, dr (name, e.num))) ++ [(caD c, dr (name, n))])) := ⟨_, rfl⟩
  have L1 : List.length μ1 = List.length μ := by rw [e1, set_len]
  have o1 : μ1[a.o]? = some (.dct (pbox name k a)) := by rw [e1]; exact set_get w1.symm o
  have oc1 : μ1[a.c]? = some (.dcn ((es.map fun e => (kC.d e.ca, dr (name, e.num))) ++ [(caD c, dr (name, n))])) := by rw [e1]; exact set_at oc
  have oi1 := set_get' e1 w5 oi
  have ou1 := set_get' e1 w6 ou
  have or1 := set_get' e1 w7 orr
  obtain ⟨μ2, e2⟩ : ∃ μ2, μ2 = List.set μ1 a.i (.dcn ((es.map fun e => (kP.d (name, e.num), dr e.ca.src)) ++ [(dr (name, n), dr s)])) := ⟨_, rfl⟩
  have L2 : List.length μ2 = List.length μ := by rw [e2, set_len, L1]
  have o2 := set_get' e2 w2.symm o1
  have oc2 := set_get' e2 w5.symm oc1
  have oi2 : μ2[a.i]? = some (.dcn ((es.map fun e => (kP.d (name, e.num), dr e.ca.src)) ++ [(dr (name, n), dr s)])) := by rw [e2]; exact set_at oi1
  have ou2 := set_get' e2 w8 ou1
  have or2 := set_get' e2 w9 or1
  obtain ⟨μ3, e3⟩ : ∃ μ3, μ3 = μ2 ++ [SO.lst []] := ⟨_, rfl⟩
  have o3 := app_get' e3 o2
  have oc3 := app_get' e3 oc2
  have oi3 := app_get' e3 oi2
  have ou3 := app_get' e3 ou2
  have or3 := app_get' e3 or2
  have n3 : μ3[List.length μ]? = some (.lst []) := by rw [e3, ← L2]; exact app_at
  have b1 := Nat.ne_of_lt (lt_of_get ou)
  have b2 := Nat.ne_of_lt (lt_of_get orr)
  obtain ⟨μ4, e4⟩ : ∃ μ4, μ4 = List.set μ3 a.u (.dcn ((es.map fun e => (kP.d (name, e.num), D.loc e.pu)) ++ [(dr (name, n), .loc (List.length μ))])) := ⟨_, rfl⟩
  have o4 := set_get' e4 w3.symm o3
  have oc4 := set_get' e4 w6.symm oc3
  have oi4 := set_get' e4 w8.symm oi3
  have ou4 : μ4[a.u]? = some (.dcn ((es.map fun e => (kP.d (name, e.num), D.loc e.pu)) ++ [(dr (name, n), .loc (List.length μ))])) := by rw [e4]; exact set_at ou3
  have or4 := set_get' e4 w10 or3
  have n4 := set_get' e4 b1 n3
  obtain ⟨μ5, e5⟩ : ∃ μ5, μ5 = List.set μ4 a.r (.lst ((es.map fun e => dr (name, e.num)) ++ [dr (name, n)])) := ⟨_, rfl⟩
  have hk : ∀ l, l ≠ a.c → l ≠ a.i → l ≠ a.u → l ≠ a.r → l < List.length μ → μ5[l]? = μ[l]? := fun l z1 z2 z3 z4 z5 => by
    rw [e5, List.getElem?_set_ne (Ne.symm z4), e4, List.getElem?_set_ne (Ne.symm z3), e3, List.getElem?_append_left (by rw [L2]; exact z5), e2, List.getElem?_set_ne (Ne.symm z2), e1, List.getElem?_set_ne (Ne.symm z1)]
  refine ⟨μ5, ?_, ⟨?_, ?_, ?_, ?_, ?_, ?_⟩, ⟨?_, ?_, ?_⟩, by rw [e5, set_len, e4, set_len, e3, List.length_append, L2]; rfl⟩
  · have p1 := p_name name k a
    have p2 := p_cases name k a
    have p3 := p_inner name k a
    have p4 := p_uses name k a
    have p5 := p_order name k a
    generalize (es.map fun e => (kC.d e.ca, dr (name, e.num))) = X1 at *
    generalize (es.map fun e => (kP.d (name, e.num), dr e.ca.src)) = X2 at *
    generalize (es.map fun e => (kP.d (name, e.num), D.loc e.pu)) = X3 at *
    generalize (es.map fun e => dr (name, e.num)) = X4 at *
    generalize pbox name k a = X5 at *
    have q0 : exS G fuel (.asg (.name 6) (.llen (.dget (.var 0) (.con (.str "order"))))) [.val (.loc a.o), .val (dr s), .val (dr t), .val .non, .val (caD c), t5, s6, s7] μ = .nx [.val (.loc a.o), .val (dr s), .val (dr t), .val .non, .val (caD c), t5, .val (.int es.length), s7] μ := by
      simp [exS, ev, Fl.of, Fl.opt, Out.bind, opt, Env.get, Env.put, bindT, o, orr, p5, hlr2]
    have q1 : exS G fuel (.asg (.name 7) (.tup (.cons (.dget (.var 0) (.con (.str "name"))) (.cons (.ite (.cmp .is_ (.var 3) (.con .non)) (.bin .add (.var 6) (.con (.int 1))) (.never)) .nil)))) [.val (.loc a.o), .val (dr s), .val (dr t), .val .non, .val (caD c), t5, .val (.int es.length), s7] μ = .nx [.val (.loc a.o), .val (dr s), .val (dr t), .val .non, .val (caD c), t5, .val (.int es.length), .val (dr (name, n))] μ := by
      have ci : cmpop .is_ .non .non = some true := rfl
      simp [exS, ev, evs, Fl.of, Fl.opt, Out.bind, opt, Env.get, Env.put, bindT, o, p1, ci, truthy, binop, LINE, dr, hnn]
    have q2 : exS G fuel (.setd2 (.dget (.var 0) (.con (.str "cases"))) (.var 4) (.dget (.var 0) (.con (.str "inner"))) (.var 7) (.var 7) (.var 1)) [.val (.loc a.o), .val (dr s), .val (dr t), .val .non, .val (caD c), t5, .val (.int es.length), .val (dr (name, n))] μ = .nx [.val (.loc a.o), .val (dr s), .val (dr t), .val .non, .val (caD c), t5, .val (.int es.length), .val (dr (name, n))] μ2 := by
      simp [exS, ev, Fl.of, Fl.next, Out.bind, opt, Env.get, o, p2, oc, putSt, k1, ← e1, o1, p3, oi1, k2, ← e2]
    have q3 : exS G fuel (.setd (.dget (.var 0) (.con (.str "uses"))) (.var 7) (.newl (.nil))) [.val (.loc a.o), .val (dr s), .val (dr t), .val .non, .val (caD c), t5, .val (.int es.length), .val (dr (name, n))] μ2 = .nx [.val (.loc a.o), .val (dr s), .val (dr t), .val .non, .val (caD c), t5, .val (.int es.length), .val (dr (name, n))] μ4 := by
      simp [exS, ev, evs, Fl.of, Fl.next, Out.bind, opt, Env.get, LINE, ← e3, o3, p4, ou3, L2, k3, ← e4]
    have q4 : exS G fuel (.appl (.dget (.var 0) (.con (.str "order"))) (.var 7)) [.val (.loc a.o), .val (dr s), .val (dr t), .val .non, .val (caD c), t5, .val (.int es.length), .val (dr (name, n))] μ4 = .nx [.val (.loc a.o), .val (dr s), .val (dr t), .val .non, .val (caD c), t5, .val (.int es.length), .val (dr (name, n))] μ5 := by
      simp [exS, ev, Fl.of, Fl.next, Out.bind, opt, Env.get, o4, p5, or4, hlr, ← e5]
    refine (exSs_nx q0).trans ((exSs_nx q1).trans ((exSs_nx q2).trans ((exSs_nx q3).trans ((exSs_nx q4).trans ?_))))
    rfl
  · rw [e5]; exact set_get w4.symm o4
  · rw [e5, List.map_append]; exact set_get w7.symm oc4
  · rw [e5, List.map_append]
    subst hs
    exact set_get w9.symm oi4
  · rw [e5, List.map_append]; exact set_get w10.symm ou4
  · rw [e5, List.map_append]; exact set_at or4
  · intro e he
    rcases List.mem_append.mp he with he | he
    · obtain ⟨_, z1, z2, z3, z4⟩ := S.of he
      rw [hk _ z1 z2 z3 z4 (lt_of_get (ul e he))]
      exact ul e he
    · rw [List.mem_singleton] at he
      subst he
      rw [e5]
      exact set_get b2 n4
  · rw [e5, set_len, e4, set_len, e3, List.length_append, L2]
    exact Nat.le_add_right _ _
  · intro l hl hlt
    obtain ⟨_, f1, f2, f3, f4⟩ := hd_foot (a := a) (f := E.pu) (es := es)
    exact hk l (fun z => hl (z ▸ f1)) (fun z => hl (z ▸ f2)) (fun z => hl (z ▸ f3)) (fun z => hl (z ▸ f4)) hlt
  · intro l hl
    unfold foot at hl ⊢
    rw [List.map_append, ← List.append_assoc] at hl
    rcases List.mem_append.mp hl with hl | hl
    · exact Or.inl hl
    · have hl : l = List.length μ := by simpa using hl
      exact Or.inr (Nat.le_of_eq hl.symm)
end
end LB

set_option Elab.async false
set_option linter.all false
set_option maxRecDepth 100000
set_option maxHeartbeats 4000000
/-! LB6: _law_lend whole; what a step does to the entries. -/
namespace LB
open PySem (Str NestedKey PyData)
open LD
def dueOf (es : List E) (c : Ca) : Int := match es.find? (fun e => decide (e.ca = c)) with
  | some e => e.num
  | none => (es.length : Int) + 1
def stepE (es : List E) (c : Ca) (t : P) (pu lu : Nat) : List E := (ensure es c ((es.length : Int) + 1) pu lu).map (upd c t)
def Usual (es : List E) : Prop := ∀ e ∈ es, e.num ≤ es.length
theorem inj_map {κ : Type} {f : E → κ} {c : Ca} {t : P} (hf : ∀ e, f (upd c t e) = f e) {es : List E} (h : InjO f es) : InjO f (es.map (upd c t)) := fun x hx y hy q => by
  obtain ⟨x, hx1, rfl⟩ := List.mem_map.mp hx
  obtain ⟨y, hy1, rfl⟩ := List.mem_map.mp hy
  rw [hf, hf] at q
  rw [h x hx1 y hy1 q]
theorem Wf.upd {name : Str} {es : List E} {c : Ca} {t : P} (h : Wf name es) (ht : GP t) : Wf name (es.map (LB.upd c t)) where
  ca := inj_map (upd_ca c t) h.ca
  num := inj_map (upd_num c t) h.num
  lu := inj_map (upd_lu c t) h.lu
  pu := inj_map (upd_pu c t) h.pu
  pos := fun e he => by
    obtain ⟨e, he1, rfl⟩ := List.mem_map.mp he
    rw [upd_num]
    exact h.pos e he1
  src := fun e he => by
    obtain ⟨e, he1, rfl⟩ := List.mem_map.mp he
    rw [upd_ca]
    exact h.src e he1
  us := fun e he p hp => by
    obtain ⟨e, he1, rfl⟩ := List.mem_map.mp he
    unfold LB.upd at hp
    split at hp
    · unfold addU at hp
      split at hp
      · exact h.us e he1 p hp
      · rcases List.mem_append.mp hp with hp | hp
        · exact h.us e he1 p hp
        · rw [List.mem_singleton] at hp
          subst hp
          exact ht
    · exact h.us e he1 p hp
theorem inj_app {κ : Type} {f : E → κ} {es : List E} {e : E} (h : InjO f es) (hn : ∀ x ∈ es, f x ≠ f e) : InjO f (es ++ [e]) := fun x hx y hy q => by
  rcases List.mem_append.mp hx with hx1 | hx1 <;> rcases List.mem_append.mp hy with hy1 | hy1
  · exact h x hx1 y hy1 q
  · rw [List.mem_singleton] at hy1
    rw [hy1] at q
    exact absurd q (hn x hx1)
  · rw [List.mem_singleton] at hx1
    rw [hx1] at q
    exact absurd q.symm (hn y hy1)
  · rw [List.mem_singleton] at hx1 hy1
    rw [hx1, hy1]
theorem Wf.app {name : Str} {es : List E} {e : E} (h : Wf name es) (h1 : ∀ x ∈ es, x.ca ≠ e.ca) (h2 : ∀ x ∈ es, x.num ≠ e.num) (h3 : ∀ x ∈ es, x.lu ≠ e.lu) (h4 : ∀ x ∈ es, x.pu ≠ e.pu) (h5 : 0 ≤ e.num) (h6 : GP e.ca.src) (h7 : ∀ p ∈ e.uses, GP p) : Wf name (es ++ [e]) where
  ca := inj_app h.ca h1
  num := inj_app h.num h2
  lu := inj_app h.lu h3
  pu := inj_app h.pu h4
  pos := fun x hx => by
    rcases List.mem_append.mp hx with hx | hx
    · exact h.pos x hx
    · rw [List.mem_singleton] at hx
      subst hx
      exact h5
  src := fun x hx => by
    rcases List.mem_append.mp hx with hx | hx
    · exact h.src x hx
    · rw [List.mem_singleton] at hx
      subst hx
      exact h6
  us := fun x hx => by
    rcases List.mem_append.mp hx with hx | hx
    · exact h.us x hx
    · rw [List.mem_singleton] at hx
      subst hx
      exact h7
theorem Few.app {N : Nat} {es : List E} {e : E} (h : Few N es) (hu : e.uses = []) (hN : N + 1 < LINE) : Few (N + 1) (es ++ [e]) where
  len := by
    have := h.len
    simp
    omega
  us := fun x hx => by
    rcases List.mem_append.mp hx with hx | hx
    · exact Nat.le_succ_of_le (h.us x hx)
    · rw [List.mem_singleton] at hx
      subst hx
      rw [hu]
      exact Nat.zero_le _
  lt := hN
theorem Few.up {N : Nat} {es : List E} (h : Few N es) (hN : N + 1 < LINE) : Few (N + 1) es := ⟨Nat.le_succ_of_le h.len, fun e he => Nat.le_succ_of_le (h.us e he), hN⟩
theorem addU_len (us : List P) (t : P) : (addU us t).length ≤ us.length + 1 := by
  unfold addU
  split
  · omega
  · simp
theorem Few.upd {N : Nat} {es : List E} {c : Ca} {t : P} (h1 : es.length ≤ N + 1) (h2 : ∀ e ∈ es, e.uses.length ≤ N) (hN : N + 1 < LINE) : Few (N + 1) (es.map (LB.upd c t)) where
  len := by rw [List.length_map]; exact h1
  us := fun e he => by
    obtain ⟨e, he1, rfl⟩ := List.mem_map.mp he
    unfold LB.upd
    have := h2 e he1
    split
    · have := addU_len e.uses t
      show (addU e.uses t).length ≤ _
      omega
    · omega
  lt := hN
theorem Sep.upd {a : LL} {f : E → Nat} {es : List E} {c : Ca} {t : P} (hf : ∀ e, f (LB.upd c t e) = f e) (h : Sep a f es) : Sep a f (es.map (LB.upd c t)) where
  nd := h.nd
  ne := fun e he => by
    obtain ⟨e, he1, rfl⟩ := List.mem_map.mp he
    rw [hf]
    exact h.ne e he1
theorem Sep.app {a : LL} {f : E → Nat} {es : List E} {e : E} (h : Sep a f es) (he : f e ∉ hdl a) : Sep a f (es ++ [e]) where
  nd := h.nd
  ne := fun x hx => by
    rcases List.mem_append.mp hx with hx | hx
    · exact h.ne x hx
    · rw [List.mem_singleton] at hx
      subst hx
      exact he
theorem ensure_old {es : List E} {c : Ca} {n : Int} {pu lu : Nat} {e : E} (he : e ∈ es) (hc : e.ca = c) : ensure es c n pu lu = es := by
  unfold ensure
  rw [if_pos (by rw [← hc]; exact any_mem he)]
theorem ensure_new {es : List E} {c : Ca} {n : Int} {pu lu : Nat} (h : ∀ e ∈ es, e.ca ≠ c) : ensure es c n pu lu = es ++ [⟨c, n, [], pu, lu⟩] := by
  unfold ensure
  rw [any_none h]
  rfl
theorem due_old {name : Str} {es : List E} {c : Ca} {e : E} (W : Wf name es) (he : e ∈ es) (hc : e.ca = c) : dueOf es c = e.num := by
  unfold dueOf
  rw [← hc, find_inj W.ca he]
theorem due_new {es : List E} {c : Ca} (h : ∀ e ∈ es, e.ca ≠ c) : dueOf es c = (es.length : Int) + 1 := by
  unfold dueOf
  rw [List.find?_eq_none.mpr fun e he => by simpa using h e he]
theorem old_or_new (es : List E) (c : Ca) : (∃ e ∈ es, e.ca = c) ∨ ∀ e ∈ es, e.ca ≠ c := by
  by_cases h : ∃ e ∈ es, e.ca = c
  · exact Or.inl h
  · exact Or.inr fun e he q => h ⟨e, he, q⟩
theorem Usual.ne {es : List E} (h : Usual es) : ∀ e ∈ es, e.num ≠ (es.length : Int) + 1 := fun e he q => by
  have := h e he
  omega
theorem src_caOf (k : Kd) (s t : P) : (caOf k s t).src = s := by
  unfold caOf
  split
  · rfl
  · split <;> rfl
/-- all that holds of the entries of a box with the usual numbers -/
structure Good (name : Str) (N : Nat) (es : List E) : Prop where
  W : Wf name es
  F : Few N es
  U : Usual es
theorem Good.step {name : Str} {N : Nat} {es : List E} (h : Good name N es) {c : Ca} {t : P} {pu lu : Nat} (hN : N + 1 < LINE) (hs : GP c.src) (ht : GP t) (hpu : ∀ e ∈ es, e.pu ≠ pu) (hlu : ∀ e ∈ es, e.lu ≠ lu) : Good name (N + 1) (stepE es c t pu lu) := by
  unfold stepE
  rcases old_or_new es c with ⟨e, he, hc⟩ | hn
  · rw [ensure_old he hc]
    refine ⟨h.W.upd ht, Few.upd (Nat.le_succ_of_le h.F.len) h.F.us hN, fun x hx => ?_⟩
    obtain ⟨x, hx1, rfl⟩ := List.mem_map.mp hx
    rw [upd_num, List.length_map]
    exact h.U x hx1
  · rw [ensure_new hn]
    refine ⟨(h.W.app hn h.U.ne hlu hpu (by show (0 : Int) ≤ (es.length : Int) + 1; omega) hs (fun p hp => absurd hp List.not_mem_nil)).upd ht, Few.upd ?_ ?_ hN, fun x hx => ?_⟩
    · have := h.F.len
      simp
      omega
    · intro x hx
      rcases List.mem_append.mp hx with hx | hx
      · exact h.F.us x hx
      · rw [List.mem_singleton] at hx
        subst hx
        exact Nat.zero_le _
    · obtain ⟨x, hx1, rfl⟩ := List.mem_map.mp hx
      rw [upd_num, List.length_map, List.length_append]
      rcases List.mem_append.mp hx1 with hx | hx
      · have := h.U x hx
        simp
        omega
      · rw [List.mem_singleton] at hx
        subst hx
        simp
theorem PlainAt.lt {μ : Store} {a : LL} {name : Str} {k : Kd} {es : List E} (h : PlainAt μ a name k es) : ∀ l ∈ foot a E.pu es, l < μ.length := fun l hl => by
  unfold foot hdl at hl
  rcases List.mem_append.mp hl with hl | hl
  · simp only [List.mem_cons, List.not_mem_nil, or_false] at hl
    rcases hl with rfl | rfl | rfl | rfl | rfl
    · exact lt_of_get h.ob
    · exact lt_of_get h.ca
    · exact lt_of_get h.inn
    · exact lt_of_get h.us
    · exact lt_of_get h.ord
  · obtain ⟨e, he, rfl⟩ := List.mem_map.mp hl
    exact lt_of_get (h.ul e he)
theorem LiveAt.lt {μ : Store} {a : LL} {name : Str} {k : Kd} {nb : D} {es : List E} (h : LiveAt μ a name k nb es) : ∀ l ∈ foot a E.lu es, l < μ.length := fun l hl => by
  unfold foot hdl at hl
  rcases List.mem_append.mp hl with hl | hl
  · simp only [List.mem_cons, List.not_mem_nil, or_false] at hl
    rcases hl with rfl | rfl | rfl | rfl | rfl
    · exact lt_of_get h.ob
    · exact lt_of_get h.ca
    · exact lt_of_get h.inn
    · exact lt_of_get h.us
    · exact lt_of_get h.ord
  · obtain ⟨e, he, rfl⟩ := List.mem_map.mp hl
    exact lt_of_get (h.ul e he)
theorem PlainAt.keep {μ μ' : Store} {a : LL} {name : Str} {k : Kd} {es : List E} (h : PlainAt μ a name k es) (hk : ∀ l ∈ foot a E.pu es, μ'[l]? = μ[l]?) : PlainAt μ' a name k es := by
  obtain ⟨f0, f1, f2, f3, f4⟩ := hd_foot (a := a) (f := E.pu) (es := es)
  exact ⟨(hk _ f0).trans h.ob, (hk _ f1).trans h.ca, (hk _ f2).trans h.inn, (hk _ f3).trans h.us, (hk _ f4).trans h.ord, fun e he => (hk _ (mem_foot he)).trans (h.ul e he)⟩
theorem LiveAt.keep {μ μ' : Store} {a : LL} {name : Str} {k : Kd} {nb : D} {es : List E} (h : LiveAt μ a name k nb es) (hk : ∀ l ∈ foot a E.lu es, μ'[l]? = μ[l]?) : LiveAt μ' a name k nb es := by
  obtain ⟨f0, f1, f2, f3, f4⟩ := hd_foot (a := a) (f := E.lu) (es := es)
  exact ⟨(hk _ f0).trans h.ob, (hk _ f1).trans h.ca, (hk _ f2).trans h.inn, (hk _ f3).trans h.us, (hk _ f4).trans h.ord, fun e he => (hk _ (mem_foot he)).trans (h.ul e he)⟩
def LawLendOk (r : List D → Store → Out D) : Prop := ∀ (N : Nat) (μ : Store) (a : LL) (name : Str) (k : Kd) (es : List E) (s t : P) (lu : Nat), PlainAt μ a name k es → Sep a E.pu es → Good name N es → N + 1 < LINE → GP s → GP t → GK k → (∀ e ∈ es, e.lu ≠ lu) →
  ∃ μ', r [.loc a.o, dr s, dr t, .non] μ = .ok (dr (name, dueOf es (caOf k s t))) μ' ∧ PlainAt μ' a name k (stepE es (caOf k s t) t μ.length lu) ∧ Sep a E.pu (stepE es (caOf k s t) t μ.length lu) ∧ Stp (foot a E.pu es) (foot a E.pu (stepE es (caOf k s t) t μ.length lu)) μ μ' ∧ ((∀ e ∈ es, e.ca ≠ caOf k s t) → μ'.length = μ.length + 1)
theorem law_lend_ok {G : GT} {fuel : Nat} (hc : LawCaseOk (G.call "_law_case")) : LawLendOk (runF G fuel f__law_lend) := by
  intro N μ a name k es s t lu h S g hN hs ht hk hlu
  have hcs := hc μ a name k s t h.ob hk
  have hsrc := src_caOf k s t
  generalize caOf k s t = c at *
  have q0 : exS G fuel (.asg (.name 4) (.call "_law_case" (.cons (.var 0) (.cons (.var 1) (.cons (.var 2) .nil))))) [.val (.loc a.o), .val (dr s), .val (dr t), .val .non, .no, .no, .no, .no] μ = .nx [.val (.loc a.o), .val (dr s), .val (dr t), .val .non, .val (caD c), .no, .no, .no] μ := by
    simp [exS, ev, evs, Fl.of, Fl.opt, Out.bind, opt, Env.get, Env.put, bindT, hcs]
  have o := h.ob
  have oc := h.ca
  have p2 := p_cases name k a
  have hn : hasN (es.map fun e => (kC.d e.ca, dr (name, e.num))) (nkC c) = es.any fun e => decide (e.ca = c) := has_map kC E.ca (fun e => dr (name, e.num)) es c
  have hk1 := nkT_ca c
  rcases old_or_new es c with ⟨e, he, hec⟩ | hnew
  · rw [show (es.any fun e => decide (e.ca = c)) = true by rw [← hec]; exact any_mem he] at hn
    have q1 : exS G fuel (.ite (.din true (.var 4) (.dget (.var 0) (.con (.str "cases")))) lendA .nil) [.val (.loc a.o), .val (dr s), .val (dr t), .val .non, .val (caD c), .no, .no, .no] μ = .nx [.val (.loc a.o), .val (dr s), .val (dr t), .val .non, .val (caD c), .no, .no, .no] μ := by
      generalize (es.map fun e => (kC.d e.ca, dr (name, e.num))) = X1 at oc hn
      generalize pbox name k a = X2 at o p2
      simp [exS, exSs, ev, Fl.of, Fl.opt, Out.bind, opt, Env.get, testOf, truthy, o, oc, p2, hk1, hn]
    obtain ⟨μ', e1, e2, e3, e4⟩ := lendB_ok (G := G) (fuel := fuel) (s := s) h S g.W g.F ht he hec (.val .non) .no .no
    unfold stepE
    rw [ensure_old he hec, due_old g.W he hec]
    refine ⟨μ', runF_ret rfl ?_, e2, S.upd (upd_pu c t), e3, fun z => absurd hec (z e he)⟩
    exact (exSs_nx q0).trans ((exSs_nx q1).trans e1)
  · rw [any_none hnew] at hn
    have q1 : exS G fuel (.ite (.din true (.var 4) (.dget (.var 0) (.con (.str "cases")))) lendA .nil) [.val (.loc a.o), .val (dr s), .val (dr t), .val .non, .val (caD c), .no, .no, .no] μ = exSs G fuel lendA [.val (.loc a.o), .val (dr s), .val (dr t), .val .non, .val (caD c), .no, .no, .no] μ := by
      generalize (es.map fun e => (kC.d e.ca, dr (name, e.num))) = X1 at oc hn
      generalize pbox name k a = X2 at o p2
      simp [exS, ev, Fl.of, Fl.opt, Out.bind, opt, Env.get, testOf, truthy, o, oc, p2, hk1, hn]
    obtain ⟨μ1, a1, a2, a3, a4⟩ := lendA_ok (G := G) (fuel := fuel) (t := t) h S g.F hsrc hnew g.U.ne lu .no .no .no
    have hpu : ∀ e ∈ es, e.pu ≠ μ.length := fun e he => Nat.ne_of_lt (h.lt _ (mem_foot he))
    have W' : Wf name (es ++ [⟨c, (es.length : Int) + 1, [], μ.length, lu⟩]) := g.W.app hnew g.U.ne hlu hpu (by show (0 : Int) ≤ (es.length : Int) + 1; omega) (by rw [hsrc]; exact hs) fun p hp => absurd hp List.not_mem_nil
    have S' : Sep a E.pu (es ++ [⟨c, (es.length : Int) + 1, [], μ.length, lu⟩]) := S.app fun z => Nat.lt_irrefl _ (h.lt _ (List.mem_append_left _ z))
    obtain ⟨μ', e1, e2, e3, e4⟩ := lendB_ok (G := G) (fuel := fuel) (s := s) a2 S' W' (g.F.app rfl hN) ht (List.mem_append_right _ (List.mem_singleton.mpr rfl)) rfl (.val .non) (.val (.int es.length)) (.val (dr (name, (es.length : Int) + 1)))
    unfold stepE
    rw [ensure_new hnew, due_new hnew]
    refine ⟨μ', runF_ret rfl ?_, e2, S'.upd (upd_pu c t), a3.trans e3, fun _ => ?_⟩
    · exact (exSs_nx q0).trans ((exSs_nx (q1.trans a1)).trans e1)
    · rw [e4, a4]
end LB

set_option Elab.async false
set_option linter.all false
set_option maxRecDepth 100000
set_option maxHeartbeats 4000000
/-! LB7: a live box lends. -/
namespace LB
open PySem (Str NestedKey PyData)
open LD
section
variable {G : GT} {fuel : Nat} {μ : Store} {a : LL} {name : Str} {k : Kd} {nb : D} {es : List E} {c : Ca} {t s : P}
theorem LiveAt.use (h : LiveAt μ a name k nb es) (S : Sep a E.lu es) (W : Wf name es) {e : E} (he : e ∈ es) (hc : e.ca = c) : LiveAt (List.set μ e.lu (.dcn ((addU e.uses t).map fun p => (kP.d p, D.bl true)))) a name k nb (es.map (upd c t)) := by
  obtain ⟨n1, n2, n3, n4, n5⟩ := S.of he
  have m : ∀ {β : Type} (f : E → β), (∀ e, f (upd c t e) = f e) → (es.map (upd c t)).map f = es.map f := fun f hf => by
    rw [List.map_map]
    exact List.map_congr_left fun e _ => hf e
  constructor
  · exact set_get n1 h.ob
  · rw [m]
    · exact set_get n2 h.ca
    · intro e; simp only [upd_ca, upd_num]
  · rw [m]
    · exact set_get n3 h.inn
    · intro e; simp only [upd_ca, upd_num]
  · rw [m]
    · exact set_get n4 h.us
    · intro e; simp only [upd_lu, upd_num]
  · rw [m]
    · exact set_get n5 h.ord
    · intro e; simp only [upd_num]
  · intro x' hx'
    obtain ⟨x, hx, rfl⟩ := List.mem_map.mp hx'
    rw [upd_lu]
    by_cases q : x.ca = c
    · have hxe : x = e := W.ca x hx e he (q.trans hc.symm)
      subst hxe
      unfold upd
      rw [if_pos q, set_at (h.ul x hx)]
    · have hne : e.lu ≠ x.lu := fun z => q ((congrArg E.ca (W.lu e he x hx z)).symm.trans hc)
      unfold upd
      rw [if_neg q]
      exact set_get hne (h.ul x hx)
def setB : Sms := (.cons (.asg (.name 5) (.dget (.attr (.var 0) "own_uses" ["LiveBox"]) (.var 3)))
    (.cons (.asg (.name 6) (.din true (.var 2) (.var 5)))
    (.cons (.setd (.var 5) (.var 2) (.con (.bl true)))
    (.cons (.ret (.tup (.cons (.var 4) (.cons (.var 6) .nil)))) .nil))))
theorem setB_ok {N : Nat} (h : LiveAt μ a name k nb es) (S : Sep a E.lu es) (W : Wf name es) (F : Few N es) {e : E} (he : e ∈ es) (hc : e.ca = c) (fr : Bool) : ∃ d μ', exSs G fuel setB [.val (.loc a.o), .val (dr s), .val (dr t), .val (.int e.num), .val (.bl fr), .no, .no] μ = .ret d μ' ∧ LiveAt μ' a name k nb (es.map (upd c t)) ∧ Stp (foot a E.lu es) (foot a E.lu (es.map (upd c t))) μ μ' ∧ μ'.length = μ.length := by
  have l1 : lookD (es.map fun e => (D.int e.num, D.loc e.lu)) (.int e.num) = some (.loc e.lu) := by
    have q := lookI E.num (fun e => D.loc e.lu) es e.num
    rw [find_inj W.num he] at q
    exact q
  have o : μ[a.o]? = _ := h.ob
  have ou := h.us
  have ul := h.ul e he
  have f1 := f_uses name k nb a
  have hk1 : nkT (dr t) = some (nkP t) := nkT_dr t
  obtain ⟨b, hh⟩ : ∃ b, hasN (e.uses.map fun p => (kP.d p, D.bl true)) (nkP t) = b := ⟨_, rfl⟩
  have hput : putN (e.uses.map fun p => (kP.d p, D.bl true)) (dr t) (.bl true) = some ((addU e.uses t).map fun p => (kP.d p, D.bl true)) := by
    have hlen : e.uses.length < LINE := Nat.lt_of_le_of_lt (F.us e he) F.lt
    unfold addU
    by_cases hm : t ∈ e.uses
    · rw [if_pos hm]
      exact put_old kP id (fun _ => D.bl true) e.uses t (.bl true) (List.any_eq_true.mpr ⟨t, hm, decide_eq_true rfl⟩) hlen fun _ _ => rfl
    · rw [if_neg hm, List.map_append]
      exact put_new kP id (fun _ => D.bl true) e.uses t (.bl true) (List.any_eq_false.mpr fun x hx => by
        simp only [decide_eq_true_eq, id]
        exact fun z => hm (z ▸ hx)) hlen
  refine ⟨.tup [.bl fr, .bl (!b)], _, ?_, h.use S W he hc (t := t), ?_, List.length_set⟩
  · generalize (es.map fun e => (D.int e.num, D.loc e.lu)) = X1 at *
    generalize (e.uses.map fun p => (kP.d p, D.bl true)) = X2 at *
    generalize ((addU e.uses t).map fun p => (kP.d p, D.bl true)) = X3 at *
    generalize fds name k nb a = X4 at *
    have q0 : exS G fuel (.asg (.name 5) (.dget (.attr (.var 0) "own_uses" ["LiveBox"]) (.var 3))) [.val (.loc a.o), .val (dr s), .val (dr t), .val (.int e.num), .val (.bl fr), .no, .no] μ = .nx [.val (.loc a.o), .val (dr s), .val (dr t), .val (.int e.num), .val (.bl fr), .val (.loc e.lu), .no] μ := by
      simp [exS, ev, Fl.of, Fl.opt, Out.bind, opt, Env.get, Env.put, bindT, o, f1, ou, l1]
    have q1 : exS G fuel (.asg (.name 6) (.din true (.var 2) (.var 5))) [.val (.loc a.o), .val (dr s), .val (dr t), .val (.int e.num), .val (.bl fr), .val (.loc e.lu), .no] μ = .nx [.val (.loc a.o), .val (dr s), .val (dr t), .val (.int e.num), .val (.bl fr), .val (.loc e.lu), .val (.bl (!b))] μ := by
      simp [exS, ev, Fl.of, Fl.opt, Out.bind, opt, Env.get, Env.put, bindT, ul, hk1, hh]
    have q2 : exS G fuel (.setd (.var 5) (.var 2) (.con (.bl true))) [.val (.loc a.o), .val (dr s), .val (dr t), .val (.int e.num), .val (.bl fr), .val (.loc e.lu), .val (.bl (!b))] μ = .nx [.val (.loc a.o), .val (dr s), .val (dr t), .val (.int e.num), .val (.bl fr), .val (.loc e.lu), .val (.bl (!b))] (List.set μ e.lu (.dcn X3)) := by
      simp [exS, ev, Fl.of, Fl.opt, Out.bind, opt, Env.get, ul, hput]
    have q3 : ∀ μ', exS G fuel (.ret (.tup (.cons (.var 4) (.cons (.var 6) .nil)))) [.val (.loc a.o), .val (dr s), .val (dr t), .val (.int e.num), .val (.bl fr), .val (.loc e.lu), .val (.bl (!b))] μ' = .ret (.tup [.bl fr, .bl (!b)]) μ' := fun μ' => by
      simp [exS, ev, evs, Fl.of, Out.bind, opt, Env.get, LINE]
    exact (exSs_nx q0).trans ((exSs_nx q1).trans ((exSs_nx q2).trans (exSs_ret (q3 _))))
  · rw [foot_upd (upd_lu c t)]
    exact ⟨by rw [List.length_set]; exact Nat.le_refl _, fun l h1 _ => List.getElem?_set_ne fun z => h1 ((show e.lu = l from z) ▸ mem_foot he), fun l hl => Or.inl hl⟩
def setA : Sms := (.cons (.setd (.attr (.var 0) "own_cases" ["LiveBox"]) (.mcall "LiveBox" "case_of" "LiveBox.case_of" (.var 0) (.cons (.var 1) (.cons (.var 2) .nil))) (.var 3))
      (.cons (.setd (.attr (.var 0) "own_inners" ["LiveBox"]) (.var 3) (.var 1))
      (.cons (.setd (.attr (.var 0) "own_uses" ["LiveBox"]) (.var 3) (.newn))
      (.cons (.appl (.attr (.var 0) "own_order" ["LiveBox"]) (.tup (.cons (.attr (.var 0) "own_name" ["LiveBox"]) (.cons (.var 3) .nil)))) .nil))))
theorem setA_ok {N : Nat} (hco : CaseOfOk (G.call "LiveBox.case_of")) (h : LiveAt μ a name k nb es) (S : Sep a E.lu es) (F : Few N es) (hk : GK k) (hcc : caOf k s t = c) (hn : ∀ e ∈ es, e.ca ≠ c) {n : Int} (hm : ∀ e ∈ es, e.num ≠ n) (pu : Nat) (t4 t5 t6 : Slot) :
    ∃ μ', exSs G fuel setA [.val (.loc a.o), .val (dr s), .val (dr t), .val (.int n), t4, t5, t6] μ = .nx [.val (.loc a.o), .val (dr s), .val (dr t), .val (.int n), t4, t5, t6] μ' ∧ LiveAt μ' a name k nb (es ++ [⟨c, n, [], pu, μ.length⟩]) ∧ Stp (foot a E.lu es) (foot a E.lu (es ++ [⟨c, n, [], pu, μ.length⟩])) μ μ' ∧ μ'.length = μ.length + 1 := by
  have hs : c.src = s := by rw [← hcc, src_caOf]
  obtain ⟨⟨w1, w2, w3, w4⟩, ⟨w5, w6, w7⟩, ⟨w8, w9⟩, w10⟩ := S.nes
  have hlen : es.length < LINE := Nat.lt_of_le_of_lt F.len F.lt
  have k1 : putN (es.map fun e => (kC.d e.ca, D.int e.num)) (caD c) (.int n) = some ((es.map fun e => (kC.d e.ca, D.int e.num)) ++ [(caD c, .int n)]) := put_new kC E.ca (fun e => D.int e.num) es c _ (any_none hn) hlen
  have k2 : putD (es.map fun e => (D.int e.num, dr e.ca.src)) (.int n) (dr s) = some ((es.map fun e => (D.int e.num, dr e.ca.src)) ++ [(.int n, dr s)]) := putI E.num (fun e => dr e.ca.src) es n _ (any_none hm) hlen
  have k3 : putD (es.map fun e => (D.int e.num, D.loc e.lu)) (.int n) (.loc μ.length) = some ((es.map fun e => (D.int e.num, D.loc e.lu)) ++ [(.int n, .loc μ.length)]) := putI E.num (fun e => D.loc e.lu) es n _ (any_none hm) hlen
  have hlr : (es.map fun e => dr (name, e.num)).length < LINE := by rw [List.length_map]; exact hlen
  have o : μ[a.o]? = some (.obj "LiveBox" (fds name k nb a)) := h.ob
  have oc := h.ca
  have oi := h.inn
  have ou := h.us
  have orr := h.ord
  have ul := h.ul
  have hcall := hco μ a name k nb s t h.ob hk
  rw [hcc] at hcall
  obtain ⟨μ1, e1⟩ : ∃ μ1, μ1 = List.set μ a.c (.dcn ((es.map fun e => (kC.d e.ca, D.int e.num)) ++ [(caD c, .int n)])) := ⟨_, rfl⟩
  have L1 : List.length μ1 = List.length μ := by rw [e1, set_len]
  have o1 := set_get' e1 w1.symm o
  have oc1 := set_at' e1 oc
  have oi1 := set_get' e1 w5 oi
  have ou1 := set_get' e1 w6 ou
  have or1 := set_get' e1 w7 orr
  obtain ⟨μ2, e2⟩ : ∃ μ2, μ2 = List.set μ1 a.i (.dct ((es.map fun e => (D.int e.num, dr e.ca.src)) ++ [(.int n, dr s)])) := ⟨_, rfl⟩
  have L2 : List.length μ2 = List.length μ := by rw [e2, set_len, L1]
  have o2 := set_get' e2 w2.symm o1
  have oc2 := set_get' e2 w5.symm oc1
  have oi2 := set_at' e2 oi1
  have ou2 := set_get' e2 w8 ou1
  have or2 := set_get' e2 w9 or1
  obtain ⟨μ3, e3⟩ : ∃ μ3, μ3 = μ2 ++ [SO.dcn []] := ⟨_, rfl⟩
  have o3 := app_get' e3 o2
  have oc3 := app_get' e3 oc2
  have oi3 := app_get' e3 oi2
  have ou3 := app_get' e3 ou2
  have or3 := app_get' e3 or2
  have n3 : μ3[List.length μ]? = some (.dcn []) := by rw [e3, ← L2]; exact app_at
  have b1 := Nat.ne_of_lt (lt_of_get ou)
  have b2 := Nat.ne_of_lt (lt_of_get orr)
  obtain ⟨μ4, e4⟩ : ∃ μ4, μ4 = List.set μ3 a.u (.dct ((es.map fun e => (D.int e.num, D.loc e.lu)) ++ [(.int n, .loc (List.length μ))])) := ⟨_, rfl⟩
  have o4 := set_get' e4 w3.symm o3
  have oc4 := set_get' e4 w6.symm oc3
  have oi4 := set_get' e4 w8.symm oi3
  have ou4 := set_at' e4 ou3
  have or4 := set_get' e4 w10 or3
  have n4 := set_get' e4 b1 n3
  obtain ⟨μ5, e5⟩ : ∃ μ5, μ5 = List.set μ4 a.r (.lst ((es.map fun e => dr (name, e.num)) ++ [dr (name, n)])) := ⟨_, rfl⟩
  have hkk : ∀ l, l ≠ a.c → l ≠ a.i → l ≠ a.u → l ≠ a.r → l < List.length μ → μ5[l]? = μ[l]? := fun l z1 z2 z3 z4 z5 => by
    rw [e5, List.getElem?_set_ne (Ne.symm z4), e4, List.getElem?_set_ne (Ne.symm z3), e3, List.getElem?_append_left (by rw [L2]; exact z5), e2, List.getElem?_set_ne (Ne.symm z2), e1, List.getElem?_set_ne (Ne.symm z1)]
  refine ⟨μ5, ?_, ⟨?_, ?_, ?_, ?_, ?_, ?_⟩, ⟨?_, ?_, ?_⟩, by rw [e5, set_len, e4, set_len, e3, List.length_append, L2]; rfl⟩
  · have p1 := f_name name k nb a
    have p2 := f_cases name k nb a
    have p3 := f_inners name k nb a
    have p4 := f_uses name k nb a
    have p5 := f_order name k nb a
    have p6 := m_case_of name k nb a
    generalize (es.map fun e => (kC.d e.ca, D.int e.num)) = X1 at *
    generalize (es.map fun e => (D.int e.num, dr e.ca.src)) = X2 at *
    generalize (es.map fun e => (D.int e.num, D.loc e.lu)) = X3 at *
    generalize (es.map fun e => dr (name, e.num)) = X4 at *
    generalize fds name k nb a = X5 at *
    have q1 : exS G fuel (.setd (.attr (.var 0) "own_cases" ["LiveBox"]) (.mcall "LiveBox" "case_of" "LiveBox.case_of" (.var 0) (.cons (.var 1) (.cons (.var 2) .nil))) (.var 3)) [.val (.loc a.o), .val (dr s), .val (dr t), .val (.int n), t4, t5, t6] μ = .nx [.val (.loc a.o), .val (dr s), .val (dr t), .val (.int n), t4, t5, t6] μ1 := by
      simp [exS, ev, evs, Fl.of, Fl.next, Out.bind, opt, Env.get, o, p2, p6, objFs, hcall, oc, k1, ← e1]
    have q2 : exS G fuel (.setd (.attr (.var 0) "own_inners" ["LiveBox"]) (.var 3) (.var 1)) [.val (.loc a.o), .val (dr s), .val (dr t), .val (.int n), t4, t5, t6] μ1 = .nx [.val (.loc a.o), .val (dr s), .val (dr t), .val (.int n), t4, t5, t6] μ2 := by
      simp [exS, ev, evs, Fl.of, Fl.next, Out.bind, opt, Env.get, o1, p3, oi1, k2, ← e2]
    have q3 : exS G fuel (.setd (.attr (.var 0) "own_uses" ["LiveBox"]) (.var 3) (.newn)) [.val (.loc a.o), .val (dr s), .val (dr t), .val (.int n), t4, t5, t6] μ2 = .nx [.val (.loc a.o), .val (dr s), .val (dr t), .val (.int n), t4, t5, t6] μ4 := by
      simp [exS, ev, evs, Fl.of, Fl.next, Out.bind, opt, Env.get, ← e3, o3, p4, ou3, L2, k3, ← e4]
    have q4 : exS G fuel (.appl (.attr (.var 0) "own_order" ["LiveBox"]) (.tup (.cons (.attr (.var 0) "own_name" ["LiveBox"]) (.cons (.var 3) .nil)))) [.val (.loc a.o), .val (dr s), .val (dr t), .val (.int n), t4, t5, t6] μ4 = .nx [.val (.loc a.o), .val (dr s), .val (dr t), .val (.int n), t4, t5, t6] μ5 := by
      have e5' : μ5 = List.set μ4 a.r (.lst (X4 ++ [.tup [.str name, .int n]])) := e5
      simp [exS, ev, evs, Fl.of, Fl.next, Out.bind, opt, Env.get, o4, p5, p1, or4, hlr, LINE, ← e5']
      exact hlr
    refine (exSs_nx q1).trans ((exSs_nx q2).trans ((exSs_nx q3).trans ((exSs_nx q4).trans ?_)))
    rfl
  · show μ5[a.o]? = _
    rw [e5]; exact set_get w4.symm o4
  · rw [e5, List.map_append]; exact set_get w7.symm oc4
  · rw [e5, List.map_append]
    subst hs
    exact set_get w9.symm oi4
  · rw [e5, List.map_append]; exact set_get w10.symm ou4
  · rw [e5, List.map_append]; exact set_at or4
  · intro e he
    rcases List.mem_append.mp he with he | he
    · obtain ⟨_, z1, z2, z3, z4⟩ := S.of he
      rw [hkk _ z1 z2 z3 z4 (lt_of_get (ul e he))]
      exact ul e he
    · rw [List.mem_singleton] at he
      subst he
      rw [e5]
      exact set_get b2 n4
  · rw [e5, set_len, e4, set_len, e3, List.length_append, L2]
    exact Nat.le_add_right _ _
  · intro l hl hlt
    obtain ⟨_, f1, f2, f3, f4⟩ := hd_foot (a := a) (f := E.lu) (es := es)
    exact hkk l (fun z => hl (z ▸ f1)) (fun z => hl (z ▸ f2)) (fun z => hl (z ▸ f3)) (fun z => hl (z ▸ f4)) hlt
  · intro l hl
    unfold foot at hl ⊢
    rw [List.map_append, ← List.append_assoc] at hl
    rcases List.mem_append.mp hl with hl | hl
    · exact Or.inl hl
    · have hl : l = List.length μ := by simpa using hl
      exact Or.inr (Nat.le_of_eq hl.symm)
end
end LB

set_option Elab.async false
set_option linter.all false
set_option maxRecDepth 100000
set_option maxHeartbeats 4000000
/-! LB8: a live box's settle, offer, lend. -/
namespace LB
open PySem (Str NestedKey PyData)
open LD
def SettleOk (r : List D → Store → Out D) : Prop := ∀ (N : Nat) (μ : Store) (a : LL) (name : Str) (k : Kd) (nb : D) (es : List E) (s t : P) (n : Int) (pu : Nat), LiveAt μ a name k nb es → Sep a E.lu es → Wf name es → Few N es → N + 1 < LINE → GP s → GP t → GK k → ((∃ e ∈ es, e.ca = caOf k s t ∧ e.num = n) ∨ ((∀ e ∈ es, e.ca ≠ caOf k s t) ∧ (∀ e ∈ es, e.num ≠ n) ∧ 0 ≤ n)) → (∀ e ∈ es, e.pu ≠ pu) →
  ∃ d μ', r [.loc a.o, dr s, dr t, .int n] μ = .ok d μ' ∧ LiveAt μ' a name k nb ((ensure es (caOf k s t) n pu μ.length).map (upd (caOf k s t) t)) ∧ Sep a E.lu ((ensure es (caOf k s t) n pu μ.length).map (upd (caOf k s t) t)) ∧ Stp (foot a E.lu es) (foot a E.lu ((ensure es (caOf k s t) n pu μ.length).map (upd (caOf k s t) t))) μ μ' ∧ ((∀ e ∈ es, e.ca ≠ caOf k s t) → μ'.length = μ.length + 1)
theorem settle_ok {G : GT} {fuel : Nat} (hco : CaseOfOk (G.call "LiveBox.case_of")) : SettleOk (runF G fuel f_LiveBox_settle) := by
  intro N μ a name k nb es s t n pu h S W F hN hs ht hk hor hpu
  have o : μ[a.o]? = some (.obj "LiveBox" (fds name k nb a)) := h.ob
  have oi := h.inn
  have f1 := f_inners name k nb a
  obtain ⟨c, hcc⟩ : ∃ c, caOf k s t = c := ⟨_, rfl⟩
  rw [hcc] at hor ⊢
  have hh : hasD (es.map fun e => (D.int e.num, dr e.ca.src)) (Sum.inl n) = es.any fun e => decide (e.num = n) := hasI E.num (fun e => dr e.ca.src) es n
  rcases hor with ⟨e, he, hec, hen⟩ | ⟨hnew, hfr, hpos⟩
  · subst hen
    rw [any_mem (f := E.num) he] at hh
    have q0 : exS G fuel (.asg (.name 4) (.din true (.var 3) (.attr (.var 0) "own_inners" ["LiveBox"]))) [.val (.loc a.o), .val (dr s), .val (dr t), .val (.int e.num), .no, .no, .no] μ = .nx [.val (.loc a.o), .val (dr s), .val (dr t), .val (.int e.num), .val (.bl false), .no, .no] μ := by
      generalize (es.map fun e => (D.int e.num, dr e.ca.src)) = X1 at *
      generalize fds name k nb a = X2 at *
      simp [exS, ev, Fl.of, Fl.opt, Out.bind, opt, Env.get, Env.put, bindT, o, f1, oi, keyD, hh]
    have q1 : exS G fuel (.ite (.var 4) setA .nil) [.val (.loc a.o), .val (dr s), .val (dr t), .val (.int e.num), .val (.bl false), .no, .no] μ = .nx [.val (.loc a.o), .val (dr s), .val (dr t), .val (.int e.num), .val (.bl false), .no, .no] μ := by
      simp [exS, exSs, ev, Fl.of, opt, Out.bind, Env.get, testOf, truthy]
    obtain ⟨d, μ', e1, e2, e3, e4⟩ := setB_ok (G := G) (fuel := fuel) (s := s) (t := t) h S W F he hec false
    rw [ensure_old he hec]
    exact ⟨d, μ', runF_ret rfl ((exSs_nx q0).trans ((exSs_nx q1).trans e1)), e2, S.upd (upd_lu c t), e3, fun z => absurd hec (z e he)⟩
  · rw [any_none (f := E.num) hfr] at hh
    have q0 : exS G fuel (.asg (.name 4) (.din true (.var 3) (.attr (.var 0) "own_inners" ["LiveBox"]))) [.val (.loc a.o), .val (dr s), .val (dr t), .val (.int n), .no, .no, .no] μ = .nx [.val (.loc a.o), .val (dr s), .val (dr t), .val (.int n), .val (.bl true), .no, .no] μ := by
      generalize (es.map fun e => (D.int e.num, dr e.ca.src)) = X1 at *
      generalize fds name k nb a = X2 at *
      simp [exS, ev, Fl.of, Fl.opt, Out.bind, opt, Env.get, Env.put, bindT, o, f1, oi, keyD, hh]
    have q1 : exS G fuel (.ite (.var 4) setA .nil) [.val (.loc a.o), .val (dr s), .val (dr t), .val (.int n), .val (.bl true), .no, .no] μ = exSs G fuel setA [.val (.loc a.o), .val (dr s), .val (dr t), .val (.int n), .val (.bl true), .no, .no] μ := by
      simp [exS, ev, Fl.of, opt, Out.bind, Env.get, testOf, truthy]
    obtain ⟨μ1, a1, a2, a3, a4⟩ := setA_ok (G := G) (fuel := fuel) hco h S F hk hcc hnew hfr pu (.val (.bl true)) .no .no
    have hlu : ∀ e ∈ es, e.lu ≠ μ.length := fun e he => Nat.ne_of_lt (h.lt _ (mem_foot he))
    have hsrc : c.src = s := by rw [← hcc, src_caOf]
    have W' : Wf name (es ++ [⟨c, n, [], pu, μ.length⟩]) := W.app hnew hfr hlu hpu hpos (by rw [hsrc]; exact hs) fun p hp => absurd hp List.not_mem_nil
    have S' : Sep a E.lu (es ++ [⟨c, n, [], pu, μ.length⟩]) := S.app fun z => Nat.lt_irrefl _ (h.lt _ (List.mem_append_left _ z))
    obtain ⟨d, μ', e1, e2, e3, e4⟩ := setB_ok (G := G) (fuel := fuel) (s := s) (t := t) a2 S' W' (F.app rfl hN) (List.mem_append_right _ (List.mem_singleton.mpr rfl)) rfl true
    rw [ensure_new hnew]
    exact ⟨d, μ', runF_ret rfl ((exSs_nx q0).trans ((exSs_nx (q1.trans a1)).trans e1)), e2, S'.upd (upd_lu c t), a3.trans e3, fun _ => by rw [e4, a4]⟩
def OfferOk (r : List D → Store → Out D) : Prop := ∀ (N : Nat) (μ : Store) (a : LL) (name : Str) (k : Kd) (es : List E) (s t : P), LiveAt μ a name k .non es → Good name N es → GK k → r [.loc a.o, dr s, dr t] μ = .ok (.int (dueOf es (caOf k s t))) μ
theorem offer_ok {G : GT} {fuel : Nat} (hco : CaseOfOk (G.call "LiveBox.case_of")) (hi : IntOk (G.call "is_integer")) : OfferOk (runF G fuel f_LiveBox_offer) := by
  intro N μ a name k es s t h g hk
  have o : μ[a.o]? = some (.obj "LiveBox" (fds name k .non a)) := h.ob
  have oc := h.ca
  have oi := h.inn
  have orr := h.ord
  have p1 := f_cases name k .non a
  have p2 := f_inners name k .non a
  have p3 := f_order name k .non a
  have p4 := f_numbers name k .non a
  have p6 := m_case_of name k .non a
  have hcall := hco μ a name k .non s t h.ob hk
  obtain ⟨c, hcc⟩ : ∃ c, caOf k s t = c := ⟨_, rfl⟩
  rw [hcc] at hcall ⊢
  have hh : hasN (es.map fun e => (kC.d e.ca, D.int e.num)) (nkC c) = es.any fun e => decide (e.ca = c) := has_map kC E.ca (fun e => D.int e.num) es c
  have hlk : lookN (es.map fun e => (kC.d e.ca, D.int e.num)) (caD c) = (es.find? fun e => decide (e.ca = c)).map fun e => D.int e.num := look_map kC E.ca (fun e => D.int e.num) es c
  have hk1 := nkT_ca c
  have q0 : exS G fuel (.asg (.name 3) (.mcall "LiveBox" "case_of" "LiveBox.case_of" (.var 0) (.cons (.var 1) (.cons (.var 2) .nil)))) [.val (.loc a.o), .val (dr s), .val (dr t), .no, .no, .no, .no] μ = .nx [.val (.loc a.o), .val (dr s), .val (dr t), .val (caD c), .no, .no, .no] μ := by
    generalize fds name k .non a = X2 at *
    simp [exS, ev, evs, Fl.of, Fl.opt, Out.bind, opt, Env.get, Env.put, bindT, o, p6, objFs, hcall]
  rcases old_or_new es c with ⟨e, he, hec⟩ | hnew
  · rw [show (es.any fun e => decide (e.ca = c)) = true by rw [← hec]; exact any_mem he] at hh
    rw [show (es.find? fun e => decide (e.ca = c)) = some e by rw [← hec]; exact find_inj g.W.ca he] at hlk
    simp only [Option.map_some] at hlk
    rw [due_old g.W he hec]
    have q1 : exS G fuel (.ite (.din false (.var 3) (.attr (.var 0) "own_cases" ["LiveBox"])) (.cons (.ret (.dget (.attr (.var 0) "own_cases" ["LiveBox"]) (.var 3))) .nil) (.nil)) [.val (.loc a.o), .val (dr s), .val (dr t), .val (caD c), .no, .no, .no] μ = .ret (.int e.num) μ := by
      generalize (es.map fun e => (kC.d e.ca, D.int e.num)) = X1 at *
      generalize fds name k .non a = X2 at *
      simp [exS, exSs, ev, Fl.of, Fl.next, Out.bind, opt, Env.get, testOf, truthy, o, p1, oc, hk1, hh, hlk]
    exact runF_ret rfl ((exSs_nx q0).trans (exSs_ret q1))
  · rw [any_none hnew] at hh
    rw [due_new hnew]
    obtain ⟨n, hn⟩ : ∃ n : Int, n = (es.length : Int) + 1 := ⟨_, rfl⟩
    have hi2 : hasD (es.map fun e => (D.int e.num, dr e.ca.src)) (Sum.inl n) = false := by
      rw [hasI E.num (fun e => dr e.ca.src) es n, hn]
      exact any_none (f := E.num) g.U.ne
    have hlr2 : (es.map fun e => dr (name, e.num)).length = es.length := List.length_map _
    have ci : cmpop .is_ .non .non = some true := rfl
    have cl : cmpop .lt (.int n) (.int 0) = some false := by
      show some (decide (n < 0)) = _
      rw [decide_eq_false (by omega)]
    have hii := hi n μ
    rw [← hn]
    generalize (es.map fun e => (kC.d e.ca, D.int e.num)) = X1 at *
    generalize (es.map fun e => (D.int e.num, dr e.ca.src)) = X3 at *
    generalize (es.map fun e => dr (name, e.num)) = X4 at *
    generalize fds name k .non a = X2 at *
    have q1 : exS G fuel (.ite (.din false (.var 3) (.attr (.var 0) "own_cases" ["LiveBox"])) (.cons (.ret (.dget (.attr (.var 0) "own_cases" ["LiveBox"]) (.var 3))) .nil) (.nil)) [.val (.loc a.o), .val (dr s), .val (dr t), .val (caD c), .no, .no, .no] μ = .nx [.val (.loc a.o), .val (dr s), .val (dr t), .val (caD c), .no, .no, .no] μ := by
      simp [exS, exSs, ev, Fl.of, Fl.next, Out.bind, opt, Env.get, testOf, truthy, o, p1, oc, hk1, hh]
    have q2 : exS G fuel (.asg (.name 4) (.llen (.attr (.var 0) "own_order" ["LiveBox"]))) [.val (.loc a.o), .val (dr s), .val (dr t), .val (caD c), .no, .no, .no] μ = .nx [.val (.loc a.o), .val (dr s), .val (dr t), .val (caD c), .val (.int es.length), .no, .no] μ := by
      simp [exS, ev, Fl.of, Fl.opt, Out.bind, opt, Env.get, Env.put, bindT, o, p3, orr, hlr2]
    have q3 : exS G fuel (.asg (.name 5) (.attr (.var 0) "own_numbers" ["LiveBox"])) [.val (.loc a.o), .val (dr s), .val (dr t), .val (caD c), .val (.int es.length), .no, .no] μ = .nx [.val (.loc a.o), .val (dr s), .val (dr t), .val (caD c), .val (.int es.length), .val .non, .no] μ := by
      simp [exS, ev, Fl.of, Fl.opt, Out.bind, opt, Env.get, Env.put, bindT, o, p4]
    have q4 : exS G fuel (.asg (.name 6) (.ite (.cmp .is_ (.var 5) (.con .non)) (.bin .add (.var 4) (.con (.int 1))) (.never))) [.val (.loc a.o), .val (dr s), .val (dr t), .val (caD c), .val (.int es.length), .val .non, .no] μ = .nx [.val (.loc a.o), .val (dr s), .val (dr t), .val (caD c), .val (.int es.length), .val .non, .val (.int n)] μ := by
      simp [exS, ev, Fl.of, Fl.opt, Out.bind, opt, Env.get, Env.put, bindT, ci, truthy, binop, ← hn]
    have q5 : exS G fuel (.ite (.or_ (.not_ (.call "is_integer" (.cons (.var 6) .nil))) (.or_ (.cmp .lt (.var 6) (.con (.int 0))) (.din false (.var 6) (.attr (.var 0) "own_inners" ["LiveBox"])))) (.cons (.raise_ "" .nil) .nil) (.nil)) [.val (.loc a.o), .val (dr s), .val (dr t), .val (caD c), .val (.int es.length), .val .non, .val (.int n)] μ = .nx [.val (.loc a.o), .val (dr s), .val (dr t), .val (caD c), .val (.int es.length), .val .non, .val (.int n)] μ := by
      simp [exS, exSs, ev, evs, Fl.of, Fl.next, Out.bind, opt, Env.get, testOf, truthy, hii, cl, o, p2, oi, keyD, hi2]
    have q6 : exS G fuel (.ret (.var 6)) [.val (.loc a.o), .val (dr s), .val (dr t), .val (caD c), .val (.int es.length), .val .non, .val (.int n)] μ = .ret (.int n) μ := by
      simp [exS, ev, Fl.of, opt, Env.get]
    exact runF_ret rfl ((exSs_nx q0).trans ((exSs_nx q1).trans ((exSs_nx q2).trans ((exSs_nx q3).trans ((exSs_nx q4).trans ((exSs_nx q5).trans (exSs_ret q6)))))))
def LendOk (r : List D → Store → Out D) : Prop := ∀ (N : Nat) (μ : Store) (a : LL) (name : Str) (k : Kd) (es : List E) (s t : P) (pu : Nat), LiveAt μ a name k .non es → Sep a E.lu es → Good name N es → N + 1 < LINE → GP s → GP t → GK k → (∀ e ∈ es, e.pu ≠ pu) →
  ∃ μ', r [.loc a.o, dr s, dr t] μ = .ok (dr (name, dueOf es (caOf k s t))) μ' ∧ LiveAt μ' a name k .non (stepE es (caOf k s t) t pu μ.length) ∧ Sep a E.lu (stepE es (caOf k s t) t pu μ.length) ∧ Stp (foot a E.lu es) (foot a E.lu (stepE es (caOf k s t) t pu μ.length)) μ μ' ∧ ((∀ e ∈ es, e.ca ≠ caOf k s t) → μ'.length = μ.length + 1)
theorem lend_ok {G : GT} {fuel : Nat} (hr : ReqDoorOk (G.call "require_door")) (ho : OfferOk (G.call "LiveBox.offer")) (hse : SettleOk (G.call "LiveBox.settle")) : LendOk (runF G fuel f_LiveBox_lend) := by
  intro N μ a name k es s t pu h S g hN hs ht hk hpu
  have r1 := hr s μ hs
  have r2 := hr t μ ht
  have r3 := ho N μ a name k es s t h g hk
  have hst : stepE es (caOf k s t) t pu μ.length = (ensure es (caOf k s t) (dueOf es (caOf k s t)) pu μ.length).map (upd (caOf k s t) t) := by
    unfold stepE
    rcases old_or_new es (caOf k s t) with ⟨e, he, hec⟩ | hnew
    · rw [ensure_old he hec, ensure_old he hec]
    · rw [due_new hnew]
  have hor : (∃ e ∈ es, e.ca = caOf k s t ∧ e.num = dueOf es (caOf k s t)) ∨ ((∀ e ∈ es, e.ca ≠ caOf k s t) ∧ (∀ e ∈ es, e.num ≠ dueOf es (caOf k s t)) ∧ 0 ≤ dueOf es (caOf k s t)) := by
    rcases old_or_new es (caOf k s t) with ⟨e, he, hec⟩ | hnew
    · exact Or.inl ⟨e, he, hec, (due_old g.W he hec).symm⟩
    · refine Or.inr ⟨hnew, ?_⟩
      rw [due_new hnew]
      exact ⟨g.U.ne, by omega⟩
  obtain ⟨d, μ', e1, e2, e3, e4, e5⟩ := hse N μ a name k .non es s t _ pu h S g.W g.F hN hs ht hk hor hpu
  rw [hst]
  refine ⟨μ', ?_, e2, e3, e4, e5⟩
  have o : μ[a.o]? = some (.obj "LiveBox" (fds name k .non a)) := h.ob
  have o' : μ'[a.o]? = some (.obj "LiveBox" (fds name k .non a)) := e2.ob
  have p1 := f_name name k .non a
  have p5 := m_offer name k .non a
  have p6 := m_settle name k .non a
  generalize fds name k .non a = X2 at *
  generalize dueOf es (caOf k s t) = n at *
  have q0 : exS G fuel (.expr (.call "require_door" (.cons (.var 1) .nil))) [.val (.loc a.o), .val (dr s), .val (dr t), .no] μ = .nx [.val (.loc a.o), .val (dr s), .val (dr t), .no] μ := by
    simp [exS, ev, evs, Fl.of, Out.bind, opt, Env.get, r1]
  have q1 : exS G fuel (.expr (.call "require_door" (.cons (.var 2) .nil))) [.val (.loc a.o), .val (dr s), .val (dr t), .no] μ = .nx [.val (.loc a.o), .val (dr s), .val (dr t), .no] μ := by
    simp [exS, ev, evs, Fl.of, Out.bind, opt, Env.get, r2]
  have q2 : exS G fuel (.asg (.name 3) (.mcall "LiveBox" "offer" "LiveBox.offer" (.var 0) (.cons (.var 1) (.cons (.var 2) .nil)))) [.val (.loc a.o), .val (dr s), .val (dr t), .no] μ = .nx [.val (.loc a.o), .val (dr s), .val (dr t), .val (.int n)] μ := by
    simp [exS, ev, evs, Fl.of, Fl.opt, Out.bind, opt, Env.get, Env.put, bindT, o, p5, objFs, r3]
  have q3 : exS G fuel (.expr (.mcall "LiveBox" "settle" "LiveBox.settle" (.var 0) (.cons (.var 1) (.cons (.var 2) (.cons (.var 3) .nil))))) [.val (.loc a.o), .val (dr s), .val (dr t), .val (.int n)] μ = .nx [.val (.loc a.o), .val (dr s), .val (dr t), .val (.int n)] μ' := by
    simp [exS, ev, evs, Fl.of, Out.bind, opt, Env.get, o, p6, objFs, e1]
  have q4 : exS G fuel (.ret (.tup (.cons (.attr (.var 0) "own_name" ["LiveBox"]) (.cons (.var 3) .nil)))) [.val (.loc a.o), .val (dr s), .val (dr t), .val (.int n)] μ' = .ret (dr (name, n)) μ' := by
    simp [exS, ev, evs, Fl.of, Out.bind, opt, Env.get, LINE, o', p1, dr]
  exact runF_ret rfl ((exSs_nx q0).trans ((exSs_nx q1).trans ((exSs_nx q2).trans ((exSs_nx q3).trans (exSs_ret q4)))))
end LB

set_option Elab.async false
set_option linter.all false
set_option maxRecDepth 100000
set_option maxHeartbeats 4000000
/-! LB9: what live boxes tell. -/
namespace LB
open PySem (Str NestedKey PyData)
open LD
theorem eq_str {x y : Str} (hx : PyData.strOk x = true) (hy : PyData.strOk y = true) : cmpop .eq (.str x) (.str y) = some (decide (x = y)) := by
  show eqX (.str x) (.str y) = _
  have e : eqD (.str x) (.str y) = some (decide (x = y)) := by
    have s : ∀ {z : Str}, PyData.strOk z = true → PySem.SeqAt.shaped (.str z) = true := fun {z} h => by
      show (PyData.strOk z && decide (0 ≤ 64)) = true
      rw [h]
      rfl
    have e : PyData.eqv (.str x) (.str y) = decide (x = y) := by
      show (x == y) = _
      by_cases h : x = y <;> simp [h]
    show (if (PySem.SeqAt.shaped (.str x) && PySem.SeqAt.shaped (.str y)) = true then some (PyData.eqv (.str x) (.str y)) else none) = _
    rw [s hx, s hy, e]
    rfl
  unfold eqX
  rw [e]
theorem ne_int (i j : Int) : cmpop .ne (.int i) (.int j) = some (!decide (i = j)) := by
  show neD (.int i) (.int j) = _
  have e : eqD (.int i) (.int j) = some (decide (i = j)) := by
    show some (i == j) = _
    by_cases h : i = j <;> simp [h]
  unfold neD
  rw [e]
theorem A_ok : (∀ x ∈ A1, PyData.strOk x = true) ∧ (∀ x ∈ A2, PyData.strOk x = true) ∧ ∀ x ∈ A3, PyData.strOk x = true := by
  refine ⟨?_, ?_, ?_⟩ <;> decide +kernel
theorem ne_kd {k : Kd} (h : GK k) : cmpop .ne (kd k) (kd k) = some false := by
  obtain ⟨a, b, c⟩ := k
  obtain ⟨h1, h2, h3⟩ := A_ok
  have ha := h1 a h.1
  have hb := h2 b h.2.1
  have hc := h3 c h.2.2
  show neD _ _ = _
  have e : eqD (kd ⟨a, b, c⟩) (kd ⟨a, b, c⟩) = some true := by
    show (if (PySem.SeqAt.shaped (.tuple [.str a, .str b, .str c]) && PySem.SeqAt.shaped (.tuple [.str a, .str b, .str c])) = true then some (PyData.eqv (.tuple [.str a, .str b, .str c]) (.tuple [.str a, .str b, .str c])) else none) = _
    have s : PySem.SeqAt.shaped (.tuple [.str a, .str b, .str c]) = true := by
      show ((PyData.strOk a && (PyData.strOk b && (PyData.strOk c && true))) && decide (1 ≤ 64)) = true
      rw [ha, hb, hc]
      rfl
    rw [s]
    show some ((a == a) && ((b == b) && ((c == c) && true))) = _
    simp
  unfold neD
  rw [e]
  rfl
/-! ### texts -/
def boxS (name : Str) (n : Nat) : Str := Str.empty ++ ("box " : Str) ++ name ++ (" with " : Str) ++ (toString (n : Int) : Str) ++ (" doors" : Str)
theorem str_len (a b : Str) : (a ++ b).length = a.length + b.length := by
  show (a.cps ++ b.cps).size = _
  rw [Array.size_append]
  rfl
theorem str_ok {a b : Str} (ha : PyData.strOk a = true) (hb : PyData.strOk b = true) : PyData.strOk (a ++ b) = true := by
  unfold PyData.strOk at *
  show (a.cps ++ b.cps).all _ = true
  rw [Array.all_append, ha, hb]
  rfl
theorem num_ok : ∀ n : Nat, n ≤ 1000 → (toString (n : Int) : Str).length ≤ 10 ∧ PyData.strOk (toString (n : Int) : Str) = true := by
  have k : ∀ n : Fin 1001, (toString ((n : Nat) : Int) : Str).length ≤ 10 ∧ PyData.strOk (toString ((n : Nat) : Int) : Str) = true := by decide +kernel
  exact fun n h => k ⟨n, by omega⟩
theorem box_join {name : Str} {n : Nat} (hn : GN name) (h : n ≤ 1000) : joinF Str.empty [.str "box ", .str name, .str " with ", .int n, .str " doors"] = some (boxS name n) := by
  obtain ⟨h1, _⟩ := num_ok n h
  have l1 : ("box " : Str).length = 4 := by decide +kernel
  have l2 : (" with " : Str).length = 6 := by decide +kernel
  have l3 : (" doors" : Str).length = 6 := by decide +kernel
  have l0 : Str.empty.length = 0 := rfl
  have hnl := hn.2.1
  have f : fmtD (.int n) = some (toString (n : Int) : Str) := by
    show (if (n : Int).natAbs.log2 < 1920 then _ else _) = _
    rw [if_pos]
    show n.log2 < 1920
    rcases Nat.eq_zero_or_pos n with rfl | hp
    · decide
    · exact Nat.lt_of_le_of_lt (Nat.log2_lt (by omega) |>.mpr (show n < 2 ^ 10 by omega) |> Nat.le_of_lt) (by decide)
  have L : LINE = 16777216 := rfl
  unfold joinF
  simp only [show fmtD (.str "box ") = some ("box " : Str) from rfl]
  rw [if_pos (by rw [str_len]; omega)]
  unfold joinF
  simp only [show fmtD (.str name) = some name from rfl]
  rw [if_pos (by rw [str_len, str_len]; omega)]
  unfold joinF
  simp only [show fmtD (.str " with ") = some (" with " : Str) from rfl]
  rw [if_pos (by rw [str_len, str_len, str_len]; omega)]
  unfold joinF
  simp only [f]
  rw [if_pos (by rw [str_len, str_len, str_len, str_len]; omega)]
  unfold joinF
  simp only [show fmtD (.str " doors") = some (" doors" : Str) from rfl]
  rw [if_pos (by rw [str_len, str_len, str_len, str_len, str_len]; omega)]
  rfl
theorem box_ok {name : Str} {n : Nat} (hn : GN name) (h : n ≤ 1000) : PyData.strOk (boxS name n) = true := by
  unfold boxS
  exact str_ok (str_ok (str_ok (str_ok (str_ok (by decide +kernel) (by decide +kernel)) hn.ok) (by decide +kernel)) (num_ok n h).2) (by decide +kernel)
/-! ### what a live box tells -/
def LenOk (r : List D → Store → Out D) : Prop := ∀ (μ : Store) (a : LL) (name : Str) (k : Kd) (nb : D) (es : List E), LiveAt μ a name k nb es → r [.loc a.o] μ = .ok (.int es.length) μ
theorem len_ok {G : GT} {fuel : Nat} : LenOk (runF G fuel f_LiveBox___len__) := fun μ a name k nb es h => by
  have o : μ[a.o]? = some (.obj "LiveBox" (fds name k nb a)) := h.ob
  have orr := h.ord
  have p := f_order name k nb a
  have hl : (es.map fun e => dr (name, e.num)).length = es.length := List.length_map _
  generalize (es.map fun e => dr (name, e.num)) = X1 at *
  generalize fds name k nb a = X2 at *
  simp [runF, f_LiveBox___len__, exSs, exS, ev, evs, Fl.of, Fl.next, Out.bind, opt, Env.get, o, p, orr, hl]
def StrMOk (r : List D → Store → Out D) : Prop := ∀ (μ : Store) (a : LL) (name : Str) (k : Kd) (nb : D) (es : List E), LiveAt μ a name k nb es → GN name → es.length ≤ 1000 → r [.loc a.o] μ = .ok (.str (boxS name es.length)) μ
theorem strm_ok {G : GT} {fuel : Nat} : StrMOk (runF G fuel f_LiveBox___str__) := fun μ a name k nb es h hn hl => by
  have o : μ[a.o]? = some (.obj "LiveBox" (fds name k nb a)) := h.ob
  have orr := h.ord
  have p := f_order name k nb a
  have p1 := f_name name k nb a
  have hll : (es.map fun e => dr (name, e.num)).length = es.length := List.length_map _
  have hj := box_join hn hl
  generalize (es.map fun e => dr (name, e.num)) = X1 at *
  generalize fds name k nb a = X2 at *
  generalize boxS name es.length = z at *
  simp [runF, f_LiveBox___str__, exSs, exS, ev, evs, noX, Fl.of, Fl.next, Out.bind, opt, Env.get, o, p, p1, orr, hll, hj]
def DoorsMOk (r : List D → Store → Out D) : Prop := ∀ (μ : Store) (a : LL) (name : Str) (k : Kd) (nb : D) (es : List E) (ys : List D), LiveAt μ a name k nb es → sortT (es.map fun e => dr (name, e.num)) = some ys → r [.loc a.o] μ = .ok (.tup ys) μ
theorem doorsm_ok {G : GT} {fuel : Nat} : DoorsMOk (runF G fuel f_LiveBox_doors) := fun μ a name k nb es ys h hs => by
  have o : μ[a.o]? = some (.obj "LiveBox" (fds name k nb a)) := h.ob
  have orr := h.ord
  have p := f_order name k nb a
  generalize (es.map fun e => dr (name, e.num)) = X1 at *
  generalize fds name k nb a = X2 at *
  simp [runF, f_LiveBox_doors, exSs, exS, ev, evs, Fl.of, Fl.next, Out.bind, opt, Env.get, o, p, orr, hs, blt]
def hasP (name : Str) (es : List E) (p : P) : Bool := decide (p.1 = name) && es.any fun e => decide (e.num = p.2)
def ContainsOk (r : List D → Store → Out D) : Prop := ∀ (μ : Store) (a : LL) (name : Str) (k : Kd) (nb : D) (es : List E) (p : P), LiveAt μ a name k nb es → GN name → GP p → r [.loc a.o, dr p] μ = .ok (.bl (hasP name es p)) μ
theorem contains_ok {G : GT} {fuel : Nat} (hd : DoorOk (G.call "is_door")) : ContainsOk (runF G fuel f_LiveBox___contains__) := fun μ a name k nb es p h hn hp => by
  have o : μ[a.o]? = some (.obj "LiveBox" (fds name k nb a)) := h.ob
  have oi := h.inn
  have p1 := f_name name k nb a
  have p2 := f_inners name k nb a
  have hdd := hd p μ hp
  have i0 := dr_0 p
  have i1 := dr_1 p
  have he := eq_str hp.1.ok hn.ok
  have hh : hasD (es.map fun e => (D.int e.num, dr e.ca.src)) (Sum.inl p.2) = es.any fun e => decide (e.num = p.2) := hasI E.num (fun e => dr e.ca.src) es p.2
  unfold hasP
  generalize (es.any fun e => decide (e.num = p.2)) = bb at *
  generalize (es.map fun e => (D.int e.num, dr e.ca.src)) = X1 at *
  generalize fds name k nb a = X2 at *
  by_cases hq : p.1 = name
  · simp only [hq, decide_true] at he i0
    simp [runF, f_LiveBox___contains__, exSs, exS, ev, evs, Fl.of, Fl.next, Out.bind, opt, Env.get, truthy, hdd, i0, i1, o, p1, p2, he, oi, keyD, hh, hq]
  · simp only [hq, decide_false] at he
    simp [runF, f_LiveBox___contains__, exSs, exS, ev, evs, Fl.of, Fl.next, Out.bind, opt, Env.get, truthy, hdd, i0, i1, o, p1, p2, he, oi, keyD, hh, hq]
theorem has_mem {name : Str} {es : List E} {e : E} (he : e ∈ es) : hasP name es (name, e.num) = true := by
  unfold hasP
  rw [any_mem (f := E.num) he]
  simp
def ReqLentOk (r : List D → Store → Out D) : Prop := ∀ (μ : Store) (a : LL) (name : Str) (k : Kd) (nb : D) (es : List E) (e : E), LiveAt μ a name k nb es → GN name → Wf name es → e ∈ es → r [.loc a.o, dr (name, e.num)] μ = .ok .non μ
theorem req_lent_ok {G : GT} {fuel : Nat} (hc : ContainsOk (G.call "LiveBox.__contains__")) : ReqLentOk (runF G fuel f_LiveBox_require_lent) := fun μ a name k nb es e h hn W he => by
  have o : μ[a.o]? = some (.obj "LiveBox" (fds name k nb a)) := h.ob
  have hcc := hc μ a name k nb es (name, e.num) h hn ⟨hn, W.pos e he⟩
  rw [has_mem he] at hcc
  generalize fds name k nb a = X2 at *
  simp [runF, f_LiveBox_require_lent, exSs, exS, ev, evs, Fl.of, Fl.next, Out.bind, opt, Env.get, testOf, truthy, isObj, inB, o, hcc]
def InnerOk (r : List D → Store → Out D) : Prop := ∀ (μ : Store) (a : LL) (name : Str) (k : Kd) (nb : D) (es : List E) (e : E), LiveAt μ a name k nb es → GN name → Wf name es → e ∈ es → r [.loc a.o, dr (name, e.num)] μ = .ok (dr e.ca.src) μ
theorem inner_ok {G : GT} {fuel : Nat} (hr : ReqLentOk (G.call "LiveBox.require_lent")) : InnerOk (runF G fuel f_LiveBox_inner) := fun μ a name k nb es e h hn W he => by
  have o : μ[a.o]? = some (.obj "LiveBox" (fds name k nb a)) := h.ob
  have oi := h.inn
  have p2 := f_inners name k nb a
  have p5 := m_require_lent name k nb a
  have hrr := hr μ a name k nb es e h hn W he
  have i1 := dr_1 (name, e.num)
  have hl : lookD (es.map fun e => (D.int e.num, dr e.ca.src)) (.int e.num) = some (dr e.ca.src) := by
    have q := lookI E.num (fun e => dr e.ca.src) es e.num
    rw [find_inj W.num he] at q
    exact q
  generalize (es.map fun e => (D.int e.num, dr e.ca.src)) = X1 at *
  generalize fds name k nb a = X2 at *
  simp [runF, f_LiveBox_inner, exSs, exS, ev, evs, Fl.of, Fl.next, Out.bind, opt, Env.get, o, p2, p5, objFs, hrr, i1, oi, hl]
def UsedOk (r : List D → Store → Out D) : Prop := ∀ (μ : Store) (a : LL) (name : Str) (k : Kd) (nb : D) (es : List E) (e : E) (ys : List D), LiveAt μ a name k nb es → GN name → Wf name es → e ∈ es → sortT (e.uses.map dr) = some ys → r [.loc a.o, dr (name, e.num)] μ = .ok (.tup ys) μ
theorem used_ok {G : GT} {fuel : Nat} (hr : ReqLentOk (G.call "LiveBox.require_lent")) : UsedOk (runF G fuel f_LiveBox_used) := fun μ a name k nb es e ys h hn W he hs => by
  have o : μ[a.o]? = some (.obj "LiveBox" (fds name k nb a)) := h.ob
  have ou := h.us
  have ul := h.ul e he
  have p2 := f_uses name k nb a
  have p5 := m_require_lent name k nb a
  have hrr := hr μ a name k nb es e h hn W he
  have i1 := dr_1 (name, e.num)
  have hl : lookD (es.map fun e => (D.int e.num, D.loc e.lu)) (.int e.num) = some (.loc e.lu) := by
    have q := lookI E.num (fun e => D.loc e.lu) es e.num
    rw [find_inj W.num he] at q
    exact q
  have hm : (e.uses.map fun p => (kP.d p, D.bl true)).map (·.1) = e.uses.map dr := by
    rw [List.map_map]
    rfl
  have hs' : sortT ((e.uses.map fun p => (kP.d p, D.bl true)).map (·.1)) = some ys := by rw [hm]; exact hs
  generalize (es.map fun e => (D.int e.num, D.loc e.lu)) = X1 at *
  generalize (e.uses.map fun p => (kP.d p, D.bl true)) = X3 at *
  generalize fds name k nb a = X2 at *
  simp [runF, f_LiveBox_used, exSs, exS, ev, evs, Fl.of, Fl.next, Out.bind, opt, Env.get, o, p2, p5, objFs, hrr, i1, ou, hl, ul, hs', blt]
end LB

set_option Elab.async false
set_option linter.all false
set_option maxRecDepth 100000
set_option maxHeartbeats 4000000
/-! LB10: a live box is as a plain one. -/
namespace LB
open PySem (Str NestedKey PyData)
open LD
/-- both at once -/
structure Both (μ : Store) (a b : LL) (name : Str) (k : Kd) (nb : D) (es : List E) : Prop where
  L : LiveAt μ a name k nb es
  Q : PlainAt μ b name k es
section
variable {G : GT} {fuel : Nat} {μ : Store} {a b : LL} {name : Str} {k : Kd} {nb : D} {es : List E}
theorem turn_ok (hin : InnerOk (G.call "LiveBox.inner")) (hus : UsedOk (G.call "LiveBox.used")) (B : Both μ a b name k nb es) (hn : GN name) (W : Wf name es) {e : E} (he : e ∈ es) (s3 s4 : Slot) :
    exSs G fuel f__law_is_box_as_l0 [.val (.loc a.o), .val (.loc b.o), .val (dr (name, e.num)), s3, s4] μ = .nx [.val (.loc a.o), .val (.loc b.o), .val (dr (name, e.num)), s3, s4] μ := by
  have o : μ[a.o]? = some (.obj "LiveBox" (fds name k nb a)) := B.L.ob
  have po := B.Q.ob
  have pi := B.Q.inn
  have pu := B.Q.us
  have ul := B.Q.ul e he
  have m1 := m_inner name k nb a
  have m2 := m_used name k nb a
  have p1 := p_inner name k b
  have p2 := p_uses name k b
  obtain ⟨ys, hys, hym⟩ := sort_dr e.uses
  have h1 := hin μ a name k nb es e B.L hn W he
  have h2 := hus μ a name k nb es e (ys.map dr) B.L hn W he hys
  have gsrc := (W.src e he).1
  have n1 := ne_dr gsrc gsrc
  have gys : ∀ p ∈ ys, GN p.1 := fun p hp => (W.us e he p (hym p hp)).1
  have n2 := ne_drs gys gys
  simp only [decide_true, Bool.not_true] at n1 n2
  have l1 : lookN (es.map fun e => (kP.d (name, e.num), dr e.ca.src)) (dr (name, e.num)) = some (dr e.ca.src) := by
    have q := look_map kP (fun e : E => (name, e.num)) (fun e => dr e.ca.src) es (name, e.num)
    rw [find_inj (f := fun e : E => (name, e.num)) (fun x hx y hy z => W.num x hx y hy (congrArg Prod.snd z)) he] at q
    exact q
  have l2 : lookN (es.map fun e => (kP.d (name, e.num), D.loc e.pu)) (dr (name, e.num)) = some (.loc e.pu) := by
    have q := look_map kP (fun e : E => (name, e.num)) (fun e => D.loc e.pu) es (name, e.num)
    rw [find_inj (f := fun e : E => (name, e.num)) (fun x hx y hy z => W.num x hx y hy (congrArg Prod.snd z)) he] at q
    exact q
  generalize (es.map fun e => (kP.d (name, e.num), dr e.ca.src)) = X1 at *
  generalize (es.map fun e => (kP.d (name, e.num), D.loc e.pu)) = X2 at *
  generalize fds name k nb a = X3 at *
  generalize pbox name k b = X4 at *
  generalize e.uses.map dr = X5 at *
  generalize ys.map dr = X6 at *
  simp [f__law_is_box_as_l0, exSs, exS, ev, evs, Fl.of, Fl.next, Out.bind, opt, Env.get, testOf, truthy, o, objFs, m1, m2, h1, h2, po, p1, p2, pi, l1, pu, l2, n1, ul, hys, blt, n2]
theorem turns_ok (hin : InnerOk (G.call "LiveBox.inner")) (hus : UsedOk (G.call "LiveBox.used")) (B : Both μ a b name k nb es) (hn : GN name) (W : Wf name es) (s3 s4 : Slot) : ∀ (m i n : Nat) (s2 : Slot), i + m = es.length → m < n → ∃ s2', forLoopL (.name 2) (exSs G fuel f__law_is_box_as_l0) b.r n i [.val (.loc a.o), .val (.loc b.o), s2, s3, s4] μ = .nx [.val (.loc a.o), .val (.loc b.o), s2', s3, s4] μ
  | 0, i, n + 1, s2, h1, h2 => by
    refine ⟨s2, ?_⟩
    unfold forLoopL
    rw [B.Q.ord]
    have hi : (es.map fun e => dr (name, e.num))[i]? = none := List.getElem?_eq_none (by rw [List.length_map]; omega)
    simp only [hi]
  | m + 1, i, n + 1, s2, h1, h2 => by
    have hlt : i < es.length := by omega
    obtain ⟨s2', ih⟩ := turns_ok hin hus B hn W s3 s4 m (i + 1) n (.val (dr (name, es[i].num))) (by omega) (by omega)
    refine ⟨s2', ?_⟩
    unfold forLoopL
    rw [B.Q.ord]
    have hi : (es.map fun e => dr (name, e.num))[i]? = some (dr (name, es[i].num)) := by
      rw [List.getElem?_map, List.getElem?_eq_getElem hlt]
      rfl
    simp only [hi]
    have hb : bindT [.val (.loc a.o), .val (.loc b.o), s2, s3, s4] (.name 2) (dr (name, es[i].num)) = some [.val (.loc a.o), .val (.loc b.o), .val (dr (name, es[i].num)), s3, s4] := rfl
    simp only [hb]
    rw [turn_ok hin hus B hn W (List.getElem_mem hlt) s3 s4]
    exact ih
end
def IsBoxOk (r : List D → Store → Out D) (fuel : Nat) : Prop := ∀ (μ : Store) (a b : LL) (name : Str) (k : Kd) (nb : D) (es : List E), Both μ a b name k nb es → GN name → GK k → Wf name es → es.length ≤ 1000 → es.length < fuel → r [.loc a.o, .loc b.o] μ = .ok (.bl true) μ
theorem is_box_ok {G : GT} {fuel : Nat} (had : AttrOk (G.call "LiveBox.address") fun n _ => .str n) (hkp : AttrOk (G.call "LiveBox.kind") fun _ k => kd k) (hle : LenOk (G.call "LiveBox.__len__")) (hst : StrMOk (G.call "LiveBox.__str__")) (hdo : DoorsMOk (G.call "LiveBox.doors")) (hin : InnerOk (G.call "LiveBox.inner")) (hus : UsedOk (G.call "LiveBox.used")) : IsBoxOk (runF G fuel f__law_is_box_as) fuel := by
  intro μ a b name k nb es B hn hk W hl hf
  have o : μ[a.o]? = some (.obj "LiveBox" (fds name k nb a)) := B.L.ob
  have po := B.Q.ob
  have pr := B.Q.ord
  have p1 := p_name name k b
  have p2 := p_kind name k b
  have p3 := p_order name k b
  have m1 := m_doors name k nb a
  have e1 : G.call "LiveBox.address" [.loc a.o] μ = .ok (.str name) μ := had μ a name k nb B.L.ob
  have e2 : G.call "LiveBox.kind" [.loc a.o] μ = .ok (kd k) μ := hkp μ a name k nb B.L.ob
  have e3 := hle μ a name k nb es B.L
  have e4 := hst μ a name k nb es B.L hn hl
  obtain ⟨ys, hys, hym⟩ := sort_dr (es.map fun e => ((name, e.num) : P))
  have hys' : sortT (es.map fun e => dr (name, e.num)) = some (ys.map dr) := by
    rw [← hys, List.map_map]
    rfl
  have gys : ∀ p ∈ ys, GN p.1 := fun p hp => by
    obtain ⟨e, _, rfl⟩ := List.mem_map.mp (hym p hp)
    exact hn
  have e5 := hdo μ a name k nb es (ys.map dr) B.L hys'
  have n1 := ne_str hn.ok hn.ok
  have n2 := ne_kd hk
  have n3 := ne_int (es.length : Int) es.length
  have n4 := ne_drs gys gys
  have n5 := ne_str (box_ok (n := es.length) hn hl) (box_ok (n := es.length) hn hl)
  have hj := box_join (n := es.length) hn hl
  simp only [decide_true, Bool.not_true] at n1 n3 n4 n5
  have hll : (es.map fun e => dr (name, e.num)).length = es.length := List.length_map _
  obtain ⟨s2', hfl⟩ := turns_ok (fuel := fuel) hin hus B hn W (.val (.int es.length)) (.val (.str name)) es.length 0 fuel .no (by omega) hf
  have lenI1 : lenI (.ok (.int (es.length : Int)) μ) = .ok (.int (es.length : Int)) μ := by
    unfold lenI
    simp only []
    exact if_pos ⟨by omega, by omega⟩
  generalize (es.map fun e => dr (name, e.num)) = X1 at *
  generalize fds name k nb a = X2 at *
  generalize pbox name k b = X3 at *
  generalize boxS name es.length = z at *
  generalize ys.map dr = X4 at *
  generalize kd k = kk at *
  have q0 : exS G fuel (.par [(3, false), (4, false)] (.cons (.llen (.dget (.var 1) (.con (.str "order")))) (.cons (.dget (.var 1) (.con (.str "name"))) .nil))) [.val (.loc a.o), .val (.loc b.o), .no, .no, .no] μ = .nx [.val (.loc a.o), .val (.loc b.o), .no, .val (.int es.length), .val (.str name)] μ := by
    simp [exS, ev, evs, Fl.of, Fl.opt, Out.bind, opt, Env.get, Env.put, putMix, po, p1, p3, pr, hll]
  have q1 : exS G fuel (.ite (.or_ (.cmp .ne (.prop "LiveBox" "address" "LiveBox.address" (.var 0)) (.var 4)) (.or_ (.cmp .ne (.prop "LiveBox" "kind" "LiveBox.kind" (.var 0)) (.dget (.var 1) (.con (.str "kind")))) (.cmp .ne (.olen "LiveBox" "LiveBox.__len__" (.var 0)) (.var 3)))) (.cons (.ret (.con (.bl false))) .nil) (.nil)) [.val (.loc a.o), .val (.loc b.o), .no, .val (.int es.length), .val (.str name)] μ = .nx [.val (.loc a.o), .val (.loc b.o), .no, .val (.int es.length), .val (.str name)] μ := by
    simp [exS, exSs, ev, evs, Fl.of, Fl.opt, Out.bind, opt, Env.get, testOf, truthy, isObj, noX, o, po, e1, e2, e3, lenI1, p2, n1, n2, n3]
  have q2 : exS G fuel (.ite (.or_ (.cmp .ne (.mcall "LiveBox" "doors" "LiveBox.doors" (.var 0) (.nil)) (.blt .tuple1 (.cons (.lsort (.dget (.var 1) (.con (.str "order")))) .nil))) (.cmp .ne (.ostr "LiveBox" "LiveBox.__str__" (.var 0)) (.fstr (.cons (.con (.str "box ")) (.cons (.var 4) (.cons (.con (.str " with ")) (.cons (.var 3) (.cons (.con (.str " doors")) .nil)))))))) (.cons (.ret (.con (.bl false))) .nil) (.nil)) [.val (.loc a.o), .val (.loc b.o), .no, .val (.int es.length), .val (.str name)] μ = .nx [.val (.loc a.o), .val (.loc b.o), .no, .val (.int es.length), .val (.str name)] μ := by
    simp [exS, exSs, ev, evs, Fl.of, Fl.opt, Out.bind, opt, Env.get, testOf, truthy, isObj, objFs, noX, strO, o, po, m1, e5, e4, p3, pr, hys', blt, n4, n5, hj]
  have q3 : exS G fuel (.forl (.name 2) (.dget (.var 1) (.con (.str "order"))) f__law_is_box_as_l0) [.val (.loc a.o), .val (.loc b.o), .no, .val (.int es.length), .val (.str name)] μ = .nx [.val (.loc a.o), .val (.loc b.o), s2', .val (.int es.length), .val (.str name)] μ := by
    have : exS G fuel (.forl (.name 2) (.dget (.var 1) (.con (.str "order"))) f__law_is_box_as_l0) [.val (.loc a.o), .val (.loc b.o), .no, .val (.int es.length), .val (.str name)] μ = forLoopL (.name 2) (exSs G fuel f__law_is_box_as_l0) b.r fuel 0 [.val (.loc a.o), .val (.loc b.o), .no, .val (.int es.length), .val (.str name)] μ := by
      simp [exS, ev, Fl.of, Out.bind, opt, Env.get, po, p3]
    exact this.trans hfl
  have q4 : exS G fuel (.ret (.con (.bl true))) [.val (.loc a.o), .val (.loc b.o), s2', .val (.int es.length), .val (.str name)] μ = .ret (.bl true) μ := by
    simp [exS, ev, Fl.of]
  exact runF_ret rfl ((exSs_nx q0).trans ((exSs_nx q1).trans ((exSs_nx q2).trans ((exSs_nx q3).trans (exSs_ret q4)))))
end LB

set_option Elab.async false
set_option linter.all false
set_option maxRecDepth 100000
set_option maxHeartbeats 4000000
/-! LB11: boxes made. -/
namespace LB
open PySem (Str NestedKey PyData)
open LD
theorem setf_st {G : GT} {fuel : Nat} {ρ : Env} {μ ν ν' : Store} {x : Nat} {fs fs' : List (Str × D)} {e : Ex} {d : D} {f : Str} (hx : x < μ.length) (h0 : ρ.get 0 = some (.loc x)) (he : ev G e ρ (List.set μ x (.obj "LiveBox" fs) ++ ν) = .ok d (List.set μ x (.obj "LiveBox" fs) ++ ν')) (hl : fs.length < 900) (hp : putFd f d fs = fs') :
    exS G fuel (.setf (.var 0) f ["LiveBox"] e) ρ (List.set μ x (.obj "LiveBox" fs) ++ ν) = .nx ρ (List.set μ x (.obj "LiveBox" fs') ++ ν') := by
  have hx1 : x < (List.set μ x (.obj "LiveBox" fs)).length := by rw [List.length_set]; exact hx
  have hg : (List.set μ x (SO.obj "LiveBox" fs) ++ ν')[x]? = some (.obj "LiveBox" fs) := by
    rw [List.getElem?_append_left hx1]
    exact List.getElem?_set_self hx
  have hs : List.set (List.set μ x (SO.obj "LiveBox" fs) ++ ν') x (.obj "LiveBox" fs') = List.set μ x (.obj "LiveBox" fs') ++ ν' := by
    rw [List.set_append_left _ _ hx1, List.set_set]
  subst hp
  rw [exS, he]
  show Fl.of ρ (ev G (.var 0) ρ (List.set μ x (SO.obj "LiveBox" fs) ++ ν')) _ = _
  rw [ev, h0]
  show (match (List.set μ x (SO.obj "LiveBox" fs) ++ ν')[x]? with
    | some (.obj c fs) => if c ∈ (["LiveBox"] : List Str) ∧ fs.length < 900 then Fl.nx ρ (List.set (List.set μ x (SO.obj "LiveBox" _) ++ ν') x (.obj c (putFd f d fs))) else .bad
    | _ => .bad) = _
  rw [hg]
  show (if ("LiveBox" : Str) ∈ (["LiveBox"] : List Str) ∧ fs.length < 900 then Fl.nx ρ (List.set (List.set μ x (SO.obj "LiveBox" fs) ++ ν') x (.obj "LiveBox" (putFd f d fs))) else .bad) = _
  rw [if_pos ⟨List.mem_singleton.mpr rfl, hl⟩, hs]
section
variable (a b c d e f g : D)
theorem pf1 : putFd ("own_name" : Str) a ([] : List (Str × D)) = ([(("own_name" : Str), a)] : List (Str × D)) := by kernel_rfl
theorem pf2 : putFd ("own_kind" : Str) b ([(("own_name" : Str), a)] : List (Str × D)) = ([(("own_name" : Str), a), (("own_kind" : Str), b)] : List (Str × D)) := by kernel_rfl
theorem pf3 : putFd ("own_numbers" : Str) c ([(("own_name" : Str), a), (("own_kind" : Str), b)] : List (Str × D)) = ([(("own_name" : Str), a), (("own_kind" : Str), b), (("own_numbers" : Str), c)] : List (Str × D)) := by kernel_rfl
theorem pf4 : putFd ("own_cases" : Str) d ([(("own_name" : Str), a), (("own_kind" : Str), b), (("own_numbers" : Str), c)] : List (Str × D)) = ([(("own_name" : Str), a), (("own_kind" : Str), b), (("own_numbers" : Str), c), (("own_cases" : Str), d)] : List (Str × D)) := by kernel_rfl
theorem pf5 : putFd ("own_inners" : Str) e ([(("own_name" : Str), a), (("own_kind" : Str), b), (("own_numbers" : Str), c), (("own_cases" : Str), d)] : List (Str × D)) = ([(("own_name" : Str), a), (("own_kind" : Str), b), (("own_numbers" : Str), c), (("own_cases" : Str), d), (("own_inners" : Str), e)] : List (Str × D)) := by kernel_rfl
theorem pf6 : putFd ("own_uses" : Str) f ([(("own_name" : Str), a), (("own_kind" : Str), b), (("own_numbers" : Str), c), (("own_cases" : Str), d), (("own_inners" : Str), e)] : List (Str × D)) = ([(("own_name" : Str), a), (("own_kind" : Str), b), (("own_numbers" : Str), c), (("own_cases" : Str), d), (("own_inners" : Str), e), (("own_uses" : Str), f)] : List (Str × D)) := by kernel_rfl
theorem pf7 : putFd ("own_order" : Str) g ([(("own_name" : Str), a), (("own_kind" : Str), b), (("own_numbers" : Str), c), (("own_cases" : Str), d), (("own_inners" : Str), e), (("own_uses" : Str), f)] : List (Str × D)) = ([(("own_name" : Str), a), (("own_kind" : Str), b), (("own_numbers" : Str), c), (("own_cases" : Str), d), (("own_inners" : Str), e), (("own_uses" : Str), f), (("own_order" : Str), g)] : List (Str × D)) := by kernel_rfl
end
theorem runF_nx {G : GT} {fuel : Nat} {f : Fn} {ds : List D} {μ μ' : Store} {ρ' : Env} (hl : ds.length = f.ps) (h : exSs G fuel f.body (ds.map Slot.val ++ List.replicate (f.n - f.ps) Slot.no) μ = .nx ρ' μ') : runF G fuel f ds μ = .ok .non μ' := by
  unfold runF
  rw [if_pos hl, h]
/-- what a new box leaves: itself, nothing else changed -/
structure New (μ μ' : Store) (a : LL) : Prop where
  nd : (hdl a).Nodup
  ge : ∀ l ∈ hdl a, μ.length ≤ l
  len : μ.length ≤ μ'.length
  keep : ∀ l, l < μ.length → μ'[l]? = μ[l]?
def InitOk (r : List D → Store → Out D) : Prop := ∀ (μ : Store) (name : Str) (k : Kd) (nb : D), GN name → GK k → ∃ (a : LL) (μ' : Store), a.o = μ.length ∧ r [.loc μ.length, .str name, kd k, nb] (μ ++ [.obj "LiveBox" []]) = .ok .non μ' ∧ LiveAt μ' a name k nb [] ∧ New μ μ' a
theorem dict0 : dictD [] = some [] := by kernel_rfl
theorem init_ok {G : GT} {fuel : Nat} (hn : NameOk (G.call "is_name")) (hk : IsKindOk (G.call "is_kind")) : InitOk (runF G fuel f_LiveBox___init__) := by
  intro μ name k nb gn gk
  obtain ⟨μ0, h0⟩ : ∃ μ0, μ0 = μ ++ [SO.obj "LiveBox" []] := ⟨_, rfl⟩
  obtain ⟨x, hx⟩ : ∃ x, x = List.length μ := ⟨_, rfl⟩
  have hL : List.length μ0 = x + 1 := by rw [h0, hx, List.length_append]; rfl
  have hlt : x < List.length μ0 := by omega
  have e0 : μ0 = List.set μ0 x (.obj "LiveBox" []) ++ [] := by
    rw [List.append_nil, h0, hx, List.set_append_right _ _ (Nat.le_refl _)]
    simp
  rw [← hx, ← h0]
  let a : LL := ⟨x, x + 1, x + 2, x + 3, x + 4⟩
  let ρ : Env := [.val (.loc x), .val (.str name), .val (kd k), .val nb]
  have r0 : ρ.get 0 = some (.loc x) := rfl
  have s0 : exS G fuel (.ite (.or_ (.not_ (.call "is_name" (.cons (.var 1) .nil))) (.not_ (.call "is_kind" (.cons (.var 2) .nil)))) (.cons (.raise_ "" .nil) .nil) (.nil)) ρ μ0 = .nx ρ μ0 := by
    have h1 := hn name μ0 gn
    have h2 := hk k μ0 gk
    simp [ρ, exS, exSs, ev, evs, Fl.of, Out.bind, opt, Env.get, testOf, truthy, h1, h2]
  have LS : ∀ o : SO, (List.set μ0 x o).length = x + 1 := fun o => by rw [List.length_set, hL]
  have s1 := setf_st (G := G) (fuel := fuel) (ρ := ρ) (ν := []) (ν' := []) (e := .var 1) hlt r0 (d := .str name) (by simp [ρ, ev, opt, Env.get]) (by simp) (pf1 (.str name))
  have s2 := setf_st (G := G) (fuel := fuel) (ρ := ρ) (ν := []) (ν' := []) (e := .var 2) hlt r0 (d := kd k) (by simp [ρ, ev, opt, Env.get]) (by simp) (pf2 (.str name) (kd k))
  have s3 := setf_st (G := G) (fuel := fuel) (ρ := ρ) (ν := []) (ν' := []) (e := .var 3) hlt r0 (d := nb) (by simp [ρ, ev, opt, Env.get]) (by simp) (pf3 (.str name) (kd k) nb)
  have s4 := setf_st (G := G) (fuel := fuel) (ρ := ρ) (ν := []) (ν' := [.dcn []]) (e := .newn) hlt r0 (d := .loc (x + 1)) (by simp [ev, LS]) (by simp) (pf4 (.str name) (kd k) nb (.loc (x + 1)))
  have s5 := setf_st (G := G) (fuel := fuel) (ρ := ρ) (ν := [.dcn []]) (ν' := [.dcn [], .dct []]) (e := .newd .nil) hlt r0 (d := .loc (x + 2)) (by simp [ev, evs, Out.bind, dict0, LS]) (by simp) (pf5 (.str name) (kd k) nb (.loc (x + 1)) (.loc (x + 2)))
  have s6 := setf_st (G := G) (fuel := fuel) (ρ := ρ) (ν := [.dcn [], .dct []]) (ν' := [.dcn [], .dct [], .dct []]) (e := .newd .nil) hlt r0 (d := .loc (x + 3)) (by simp [ev, evs, Out.bind, dict0, LS]) (by simp) (pf6 (.str name) (kd k) nb (.loc (x + 1)) (.loc (x + 2)) (.loc (x + 3)))
  have s7 := setf_st (G := G) (fuel := fuel) (ρ := ρ) (ν := [.dcn [], .dct [], .dct []]) (ν' := [.dcn [], .dct [], .dct [], .lst []]) (e := .newl .nil) hlt r0 (d := .loc (x + 4)) (by simp [ev, evs, Out.bind, LINE, LS]) (by simp) (pf7 (.str name) (kd k) nb (.loc (x + 1)) (.loc (x + 2)) (.loc (x + 3)) (.loc (x + 4)))
  refine ⟨a, List.set μ0 x (.obj "LiveBox" (fds name k nb a)) ++ [.dcn [], .dct [], .dct [], .lst []], rfl, ?_, ⟨?_, ?_, ?_, ?_, ?_, fun e he => absurd he List.not_mem_nil⟩, ⟨?_, ?_, ?_, ?_⟩⟩
  · have z : exSs G fuel f_LiveBox___init__.body ρ μ0 = .nx ρ (List.set μ0 x (.obj "LiveBox" (fds name k nb a)) ++ [.dcn [], .dct [], .dct [], .lst []]) := by
      refine (exSs_nx s0).trans ?_
      refine (congrArg (fun μ => exSs G fuel _ ρ μ) e0).trans ?_
      refine (exSs_nx s1).trans ((exSs_nx s2).trans ((exSs_nx s3).trans ((exSs_nx s4).trans ((exSs_nx s5).trans ((exSs_nx s6).trans ((exSs_nx s7).trans ?_))))))
      rfl
    exact runF_nx rfl z
  · show (List.set μ0 x (SO.obj "LiveBox" (fds name k nb a)) ++ [.dcn [], .dct [], .dct [], .lst []])[x]? = _
    rw [List.getElem?_append_left (by rw [LS]; omega)]
    exact List.getElem?_set_self hlt
  · show (List.set μ0 x (SO.obj "LiveBox" (fds name k nb a)) ++ [.dcn [], .dct [], .dct [], .lst []])[x + 1]? = _
    rw [List.getElem?_append_right (by rw [LS]; omega), LS]
    simp
  · show (List.set μ0 x (SO.obj "LiveBox" (fds name k nb a)) ++ [.dcn [], .dct [], .dct [], .lst []])[x + 2]? = _
    rw [List.getElem?_append_right (by rw [LS]; omega), LS, show x + 2 - (x + 1) = 1 by omega]
    simp
  · show (List.set μ0 x (SO.obj "LiveBox" (fds name k nb a)) ++ [.dcn [], .dct [], .dct [], .lst []])[x + 3]? = _
    rw [List.getElem?_append_right (by rw [LS]; omega), LS, show x + 3 - (x + 1) = 2 by omega]
    simp
  · show (List.set μ0 x (SO.obj "LiveBox" (fds name k nb a)) ++ [.dcn [], .dct [], .dct [], .lst []])[x + 4]? = _
    rw [List.getElem?_append_right (by rw [LS]; omega), LS, show x + 4 - (x + 1) = 3 by omega]
    simp
  · show [x, x + 1, x + 2, x + 3, x + 4].Nodup
    simp
  · intro l hl
    have hl : l ∈ [x, x + 1, x + 2, x + 3, x + 4] := hl
    simp only [List.mem_cons, List.not_mem_nil, or_false] at hl
    omega
  · rw [List.length_append, LS]
    omega
  · intro l hl
    rw [List.getElem?_append_left (by rw [LS]; omega), List.getElem?_set_ne (by omega), h0, List.getElem?_append_left hl]
def BoxOk (r : List D → Store → Out D) : Prop := ∀ (μ : Store) (name : Str) (k : Kd), ∃ (b : LL) (μ' : Store), r [.str name, kd k] μ = .ok (.loc b.o) μ' ∧ PlainAt μ' b name k [] ∧ New μ μ' b
theorem box_dict (name : Str) (k : D) (a b c d : Nat) : dictD [.str "name", .str name, .str "kind", k, .str "cases", .loc a, .str "inner", .loc b, .str "uses", .loc c, .str "order", .loc d] = some [(.str "name", .str name), (.str "kind", k), (.str "cases", .loc a), (.str "inner", .loc b), (.str "uses", .loc c), (.str "order", .loc d)] := by kernel_rfl
theorem law_box_ok {G : GT} {fuel : Nat} : BoxOk (runF G fuel f__law_box) := by
  intro μ name k
  obtain ⟨x, hx⟩ : ∃ x, x = List.length μ := ⟨_, rfl⟩
  let b : LL := ⟨x + 4, x, x + 1, x + 2, x + 3⟩
  have hd := box_dict name (kd k) x (x + 1) (x + 2) (x + 3)
  refine ⟨b, μ ++ [.dcn [], .dcn [], .dcn [], .lst [], .dct (pbox name k b)], ?_, ⟨?_, ?_, ?_, ?_, ?_, fun e he => absurd he List.not_mem_nil⟩, ⟨?_, ?_, ?_, ?_⟩⟩
  · show _ = Out.ok (D.loc (x + 4)) (μ ++ [.dcn [], .dcn [], .dcn [], .lst [], .dct [(.str "name", .str name), (.str "kind", kd k), (.str "cases", .loc x), (.str "inner", .loc (x + 1)), (.str "uses", .loc (x + 2)), (.str "order", .loc (x + 3))]])
    generalize kd k = kk at *
    simp [runF, f__law_box, exSs, exS, ev, evs, Fl.of, Fl.next, Out.bind, opt, Env.get, LINE, ← hx, hd]
  · show (μ ++ [.dcn [], .dcn [], .dcn [], .lst [], .dct (pbox name k b)])[x + 4]? = _
    rw [List.getElem?_append_right (by omega), ← hx, show x + 4 - x = 4 by omega]
    rfl
  · show (μ ++ [.dcn [], .dcn [], .dcn [], .lst [], .dct (pbox name k b)])[x]? = _
    rw [List.getElem?_append_right (by omega), ← hx, show x - x = 0 by omega]
    rfl
  · show (μ ++ [.dcn [], .dcn [], .dcn [], .lst [], .dct (pbox name k b)])[x + 1]? = _
    rw [List.getElem?_append_right (by omega), ← hx, show x + 1 - x = 1 by omega]
    rfl
  · show (μ ++ [.dcn [], .dcn [], .dcn [], .lst [], .dct (pbox name k b)])[x + 2]? = _
    rw [List.getElem?_append_right (by omega), ← hx, show x + 2 - x = 2 by omega]
    rfl
  · show (μ ++ [.dcn [], .dcn [], .dcn [], .lst [], .dct (pbox name k b)])[x + 3]? = _
    rw [List.getElem?_append_right (by omega), ← hx, show x + 3 - x = 3 by omega]
    rfl
  · show [x + 4, x, x + 1, x + 2, x + 3].Nodup
    simp
  · intro l hl
    have hl : l ∈ [x + 4, x, x + 1, x + 2, x + 3] := hl
    simp only [List.mem_cons, List.not_mem_nil, or_false] at hl
    omega
  · rw [List.length_append]
    omega
  · intro l hl
    exact List.getElem?_append_left hl
end LB

set_option Elab.async false
set_option linter.all false
set_option maxRecDepth 100000
set_option maxHeartbeats 4000000
/-! LB12: both boxes, one message. -/
namespace LB
open PySem (Str NestedKey PyData)
open LD
structure Inv (l : Nat) (a b : LL) (name : Str) (k : Kd) (N : Nat) (es : List E) (μ : Store) : Prop where
  d : Dice l μ
  B : Both μ a b name k .non es
  SL : Sep a E.lu es
  SP : Sep b E.pu es
  g : Good name N es
  dl : l ∉ foot a E.lu es
  dp : l ∉ foot b E.pu es
  dj : ∀ x ∈ foot a E.lu es, x ∉ foot b E.pu es
theorem Inv.chg {l : Nat} {a b : LL} {name : Str} {k : Kd} {N : Nat} {es : List E} {μ μ' : Store} (h : Inv l a b name k N es μ) (hd : Dice l μ') (hc : Chg l μ μ') : Inv l a b name k N es μ' :=
  ⟨hd, ⟨h.B.L.keep fun x hx => Chg.get hc fun q => h.dl (q ▸ hx), h.B.Q.keep fun x hx => Chg.get hc fun q => h.dp (q ▸ hx)⟩, h.SL, h.SP, h.g, h.dl, h.dp, h.dj⟩
theorem stepE_lu {es : List E} {c : Ca} {t : P} {pu lu lu' : Nat} (h : (∀ e ∈ es, e.ca ≠ c) → lu = lu') : stepE es c t pu lu = stepE es c t pu lu' := by
  unfold stepE
  rcases old_or_new es c with ⟨e, he, hc⟩ | hn
  · rw [ensure_old he hc, ensure_old he hc]
  · rw [h hn]
theorem Inv.step {rl rv : List D → Store → Out D} (hl : LawLendOk rl) (hv : LendOk rv) {l : Nat} {a b : LL} {name : Str} {k : Kd} {N : Nat} {es : List E} {μ : Store} {s t : P} (h : Inv l a b name k N es μ) (hN : N + 1 < LINE) (hs : GP s) (ht : GP t) (hk : GK k) (gn : GN name) :
    ∃ (p : P) (μ1 μ2 : Store) (es' : List E), GN p.1 ∧ rl [.loc b.o, dr s, dr t, .non] μ = .ok (dr p) μ1 ∧ ObjAt μ1 a name k .non ∧ rv [.loc a.o, dr s, dr t] μ1 = .ok (dr p) μ2 ∧ Inv l a b name k (N + 1) es' μ2 := by
  have hlu : ∀ e ∈ es, e.lu ≠ μ.length + 1 := fun e he => Nat.ne_of_lt (Nat.lt_succ_of_lt (h.B.L.lt _ (mem_foot he)))
  have hpu : ∀ e ∈ es, e.pu ≠ μ.length := fun e he => Nat.ne_of_lt (h.B.Q.lt _ (mem_foot he))
  obtain ⟨μ1, e1, p1, s1, st1, len1⟩ := hl N μ b name k es s t (μ.length + 1) h.B.Q h.SP h.g hN hs ht hk hlu
  have L1 : LiveAt μ1 a name k .non es := h.B.L.keep fun x hx => st1.keep x (h.dj x hx) (h.B.L.lt x hx)
  obtain ⟨μ2, e2, p2, s2, st2, _⟩ := hv N μ1 a name k es s t μ.length L1 h.SL h.g hN hs ht hk hpu
  have heq : stepE es (caOf k s t) t μ.length μ1.length = stepE es (caOf k s t) t μ.length (μ.length + 1) := stepE_lu len1
  rw [heq] at p2 s2 st2
  have g' := h.g.step (t := t) (c := caOf k s t) hN (by rw [src_caOf]; exact hs) ht hpu hlu
  generalize stepE es (caOf k s t) t μ.length (μ.length + 1) = es' at *
  have P2 : PlainAt μ2 b name k es' := p1.keep fun x hx => st2.keep x (fun q => by
    rcases st1.fr x hx with z | z
    · exact h.dj x q z
    · have := h.B.L.lt x q
      omega) (p1.lt x hx)
  have hlt := dice_lt h.d
  have d1 : μ1[l]? = μ[l]? := st1.keep l h.dp hlt
  have d2 : μ2[l]? = μ1[l]? := st2.keep l h.dl (Nat.lt_of_lt_of_le hlt st1.len)
  have dd : Dice l μ2 := by
    obtain ⟨x, y, z, q⟩ := h.d
    exact ⟨x, y, z, by rw [d2, d1, q]⟩
  refine ⟨(name, dueOf es (caOf k s t)), μ1, μ2, es', gn, e1, L1.ob, e2, dd, ⟨p2, P2⟩, s2, s1, g', ?_, ?_, ?_⟩
  · intro q
    rcases st2.fr l q with z | z
    · exact h.dl z
    · have := st1.len
      omega
  · intro q
    rcases st1.fr l q with z | z
    · exact h.dp z
    · omega
  · intro x hx hx'
    rcases st2.fr x hx with z | z
    · rcases st1.fr x hx' with z' | z'
      · exact h.dj x z z'
      · have := h.B.L.lt x z
        omega
    · have := p1.lt x hx'
      omega
theorem stepE_pu {es : List E} {c : Ca} {t : P} {pu pu' lu : Nat} (h : (∀ e ∈ es, e.ca ≠ c) → pu = pu') : stepE es c t pu lu = stepE es c t pu' lu := by
  unfold stepE
  rcases old_or_new es c with ⟨e, he, hc⟩ | hn
  · rw [ensure_old he hc, ensure_old he hc]
  · rw [h hn]
/-- .. the live one first -/
theorem Inv.step2 {rl rv : List D → Store → Out D} (hl : LawLendOk rl) (hv : LendOk rv) {l : Nat} {a b : LL} {name : Str} {k : Kd} {N : Nat} {es : List E} {μ : Store} {s t : P} (h : Inv l a b name k N es μ) (hN : N + 1 < LINE) (hs : GP s) (ht : GP t) (hk : GK k) (gn : GN name) :
    ∃ (p : P) (μ1 μ2 : Store) (es' : List E), GN p.1 ∧ ObjAt μ a name k .non ∧ rv [.loc a.o, dr s, dr t] μ = .ok (dr p) μ1 ∧ rl [.loc b.o, dr s, dr t, .non] μ1 = .ok (dr p) μ2 ∧ Inv l a b name k (N + 1) es' μ2 := by
  have hpu : ∀ e ∈ es, e.pu ≠ μ.length + 1 := fun e he => Nat.ne_of_lt (Nat.lt_succ_of_lt (h.B.Q.lt _ (mem_foot he)))
  have hlu : ∀ e ∈ es, e.lu ≠ μ.length := fun e he => Nat.ne_of_lt (h.B.L.lt _ (mem_foot he))
  obtain ⟨μ1, e1, p1, s1, st1, len1⟩ := hv N μ a name k es s t (μ.length + 1) h.B.L h.SL h.g hN hs ht hk hpu
  have Q1 : PlainAt μ1 b name k es := h.B.Q.keep fun x hx => st1.keep x (fun q => h.dj x q hx) (h.B.Q.lt x hx)
  obtain ⟨μ2, e2, p2, s2, st2, _⟩ := hl N μ1 b name k es s t μ.length Q1 h.SP h.g hN hs ht hk hlu
  have heq : stepE es (caOf k s t) t μ1.length μ.length = stepE es (caOf k s t) t (μ.length + 1) μ.length := stepE_pu len1
  rw [heq] at p2 s2 st2
  have g' := h.g.step (t := t) (c := caOf k s t) hN (by rw [src_caOf]; exact hs) ht hpu hlu
  generalize stepE es (caOf k s t) t (μ.length + 1) μ.length = es' at *
  have L2 : LiveAt μ2 a name k .non es' := p1.keep fun x hx => st2.keep x (fun q => by
    rcases st1.fr x hx with z | z
    · exact h.dj x z q
    · have := h.B.Q.lt x q
      omega) (p1.lt x hx)
  have hlt := dice_lt h.d
  have d1 : μ1[l]? = μ[l]? := st1.keep l h.dl hlt
  have d2 : μ2[l]? = μ1[l]? := st2.keep l h.dp (Nat.lt_of_lt_of_le hlt st1.len)
  have dd : Dice l μ2 := by
    obtain ⟨x, y, z, q⟩ := h.d
    exact ⟨x, y, z, by rw [d2, d1, q]⟩
  refine ⟨(name, dueOf es (caOf k s t)), μ1, μ2, es', gn, h.B.L.ob, e1, e2, dd, ⟨L2, p2⟩, s1, s2, g', ?_, ?_, ?_⟩
  · intro q
    rcases st1.fr l q with z | z
    · exact h.dl z
    · omega
  · intro q
    rcases st2.fr l q with z | z
    · exact h.dp z
    · have := st1.len
      omega
  · intro x hx hx'
    rcases st2.fr x hx' with z | z
    · rcases st1.fr x hx with z' | z'
      · exact h.dj x z' z
      · have := h.B.Q.lt x z
        omega
    · have := p1.lt x hx
      omega
end LB

set_option Elab.async false
set_option linter.all false
set_option maxRecDepth 100000
set_option maxHeartbeats 4000000
/-! LB13: messages let in. -/
namespace LB
open PySem (Str NestedKey PyData)
open LD
def f__law_opens : Fn := ⟨3, 6,
    (.cons (.par [(3, false), (4, false)] (.cons (.idx (.dget (.var 0) (.con (.str "kind"))) (.con (.int 1))) (.cons (.dget (.dget (.var 0) (.con (.str "uses"))) (.var 1)) .nil)))
    (.cons (.ite (.cmp .eq (.var 3) (.con (.str "any")))
      (.cons (.ret (.con (.bl true))) .nil)
      (.nil))
    (.cons (.ret (.ite (.cmp .eq (.var 3) (.con (.str "door"))) (.lin false (.var 2) (.var 4)) (.cmp .in_ (.idx (.var 2) (.con (.int 0))) (.comps (.idx (.var 5) (.con (.int 0))) (.name 5) (.var 4) none)))) .nil)))⟩
def f_LiveBox_lets_in : Fn := ⟨3, 5,
    (.cons (.expr (.mcall "LiveBox" "require_lent" "LiveBox.require_lent" (.var 0) (.cons (.var 1) .nil)))
    (.cons (.expr (.call "require_door" (.cons (.var 2) .nil)))
    (.cons (.asg (.name 3) (.dget (.attr (.var 0) "own_uses" ["LiveBox"]) (.idx (.var 1) (.con (.int 1)))))
    (.cons (.ite (.cmp .eq (.idx (.attr (.var 0) "own_kind" ["LiveBox"]) (.con (.int 1))) (.con (.str "any")))
      (.cons (.ret (.con (.bl true))) .nil)
      (.nil))
    (.cons (.ite (.cmp .eq (.idx (.attr (.var 0) "own_kind" ["LiveBox"]) (.con (.int 1))) (.con (.str "door")))
      (.cons (.ret (.din false (.var 2) (.var 3))) .nil)
      (.nil))
    (.cons (.ret (.blt .any1 (.cons (.comps (.cmp .eq (.idx (.var 4) (.con (.int 0))) (.idx (.var 2) (.con (.int 0)))) (.name 4) (.var 3) none) .nil))) .nil))))))⟩
def opens (k : Kd) (us : List P) (p : P) : Bool := if k.b = "any" then true else if k.b = "door" then decide (p ∈ us) else decide (p.1 ∈ us.map Prod.fst)
theorem eqA2 : cmpop .eq (.str "any") (.str "any") = some true ∧ cmpop .eq (.str "address") (.str "any") = some false ∧ cmpop .eq (.str "door") (.str "any") = some false ∧ cmpop .eq (.str "door") (.str "door") = some true ∧ cmpop .eq (.str "address") (.str "door") = some false := by
  refine ⟨?_, ?_, ?_, ?_, ?_⟩ <;> kernel_rfl
theorem neA2 : ¬ ("address" : Str) = "any" ∧ ¬ ("door" : Str) = "any" ∧ ¬ ("address" : Str) = "door" := by decide +kernel
theorem kd_1 (k : Kd) (μ : Store) : idxD (kd k) (.int 1) μ = some (.str k.b) := rfl
def LawOpensOk (r : List D → Store → Out D) : Prop := ∀ (μ : Store) (a : LL) (name : Str) (k : Kd) (es : List E) (e : E) (p : P), PlainAt μ a name k es → GK k → Wf name es → e ∈ es → GP p → r [.loc a.o, dr (name, e.num), dr p] μ = .ok (.bl (opens k e.uses p)) μ
theorem law_opens_ok {G : GT} {fuel : Nat} : LawOpensOk (runF G fuel f__law_opens) := by
  intro μ a name k es e p h hk W he hp
  have o := h.ob
  have ou := h.us
  have ul := h.ul e he
  have p1 := p_kind name k a
  have p2 := p_uses name k a
  have l2 : lookN (es.map fun e => (kP.d (name, e.num), D.loc e.pu)) (dr (name, e.num)) = some (.loc e.pu) := by
    have q := look_map kP (fun e : E => (name, e.num)) (fun e => D.loc e.pu) es (name, e.num)
    rw [find_inj (f := fun e : E => (name, e.num)) (fun x hx y hy z => W.num x hx y hy (congrArg Prod.snd z)) he] at q
    exact q
  have i1 := in_dr hp.1 (fun q hq => (W.us e he q hq).1)
  have i2 : cmpop .in_ (.str p.1) (.lst ((e.uses.map Prod.fst).map D.str)) = some (decide (p.1 ∈ e.uses.map Prod.fst)) := in_strs p.1 _
  have j0 := dr_0 p
  have k1 := kd_1 k
  obtain ⟨q1, q2, q3, q4, q5⟩ := eqA2
  obtain ⟨n1, n2, n3⟩ := neA2
  have hb := hk.2.1
  have it : itemsS μ (.loc e.pu) = some (e.uses.map dr) := by
    show (match μ[e.pu]? with
      | some (SO.lst xs) => some xs
      | some (SO.dcn kvs) => some (kvs.map fun x : D × D => x.1)
      | _ => none) = _
    rw [ul]
  have s0 : exS G fuel (.par [(3, false), (4, false)] (.cons (.idx (.dget (.var 0) (.con (.str "kind"))) (.con (.int 1))) (.cons (.dget (.dget (.var 0) (.con (.str "uses"))) (.var 1)) .nil))) [.val (.loc a.o), .val (dr (name, e.num)), .val (dr p), .no, .no, .no] μ = .nx [.val (.loc a.o), .val (dr (name, e.num)), .val (dr p), .val (.str k.b), .val (.loc e.pu), .no] μ := by
    generalize (es.map fun e => (kP.d (name, e.num), D.loc e.pu)) = X1 at *
    generalize pbox name k a = X2 at *
    generalize kd k = kk at *
    simp [exS, ev, evs, Fl.of, Fl.opt, Out.bind, opt, Env.get, Env.put, putMix, o, p1, p2, k1, ou, l2]
  have hcm : ev G (.comps (.idx (.var 5) (.con (.int 0))) (.name 5) (.var 4) none) [.val (.loc a.o), .val (dr (name, e.num)), .val (dr p), .val (.str k.b), .val (.loc e.pu), .no] μ = .ok (.lst ((e.uses.map Prod.fst).map D.str)) μ := by
    have hv : ev G (.var 4) [.val (.loc a.o), .val (dr (name, e.num)), .val (dr p), .val (.str k.b), .val (.loc e.pu), .no] μ = .ok (.loc e.pu) μ := by
      simp [ev, opt, Env.get]
    rw [ev, hv]
    show (match itemsS μ (.loc e.pu) with
      | some xs => _
      | none => Out.bad) = _
    rw [it]
    show (compLoop _ (e.uses.map dr) [] []).bind _ = _
    rw [compLoop_map (g := dr) (h := fun t : P => D.str t.1)]
    · show Out.ok (D.lst ([] ++ e.uses.map fun t : P => D.str t.1)) μ = _
      rw [List.map_map]
      rfl
    · intro x _
      have jx := dr_0 x []
      simp [wipeE, Tg.slots, bindT, Env.put, Env.get, opt, Out.bind, ev, jx]
  unfold opens
  simp only [A2, List.mem_cons, List.not_mem_nil, or_false] at hb
  have s2 : ∀ ce, ev G ce [.val (.loc a.o), .val (dr (name, e.num)), .val (dr p), .val (.str k.b), .val (.loc e.pu), .no] μ = .ok (.lst ((e.uses.map Prod.fst).map D.str)) μ → exSs G fuel (.cons (.ite (.cmp .eq (.var 3) (.con (.str "any"))) (.cons (.ret (.con (.bl true))) .nil) (.nil)) (.cons (.ret (.ite (.cmp .eq (.var 3) (.con (.str "door"))) (.lin false (.var 2) (.var 4)) (.cmp .in_ (.idx (.var 2) (.con (.int 0))) ce))) .nil)) [.val (.loc a.o), .val (dr (name, e.num)), .val (dr p), .val (.str k.b), .val (.loc e.pu), .no] μ = .ret (.bl (if k.b = "any" then true else if k.b = "door" then decide (p ∈ e.uses) else decide (p.1 ∈ e.uses.map Prod.fst))) μ := by
    intro ce hcm
    generalize (e.uses.map Prod.fst).map D.str = X3 at *
    generalize hd1 : decide (p.1 ∈ e.uses.map Prod.fst) = b1 at *
    generalize hd2 : decide (p ∈ e.uses) = b2 at *
    generalize e.uses.map dr = X4 at *
    rcases hb with e1 | e1 | e1 <;> rw [e1] at hcm ⊢ <;> simp only [n1, n2, n3, if_true, if_false] <;>
      simp [exSs, exS, ev, evs, Fl.of, Fl.next, Out.bind, opt, Env.get, testOf, truthy, q1, q2, q3, q4, q5, j0, ul, i1, hcm, i2]
  exact runF_ret rfl ((exSs_nx s0).trans (s2 _ hcm))
theorem bools_any : ∀ l : List Bool, bools (l.map D.bl) = some l
  | [] => rfl
  | b :: l => by simp [bools, bools_any l]
def LetsInOk (r : List D → Store → Out D) : Prop := ∀ (μ : Store) (a : LL) (name : Str) (k : Kd) (nb : D) (es : List E) (e : E) (p : P), LiveAt μ a name k nb es → GN name → GK k → Wf name es → e ∈ es → GP p → r [.loc a.o, dr (name, e.num), dr p] μ = .ok (.bl (opens k e.uses p)) μ
theorem lets_in_ok {G : GT} {fuel : Nat} (hrl : ReqLentOk (G.call "LiveBox.require_lent")) (hrd : ReqDoorOk (G.call "require_door")) : LetsInOk (runF G fuel f_LiveBox_lets_in) := by
  intro μ a name k nb es e p h gn hk W he hp
  have o : μ[a.o]? = some (.obj "LiveBox" (fds name k nb a)) := h.ob
  have ou := h.us
  have ul := h.ul e he
  have p1 := f_kind name k nb a
  have p2 := f_uses name k nb a
  have p5 := m_require_lent name k nb a
  have r1 := hrl μ a name k nb es e h gn W he
  have r2 := hrd p μ hp
  have i1 := dr_1 (name, e.num)
  have k1 := kd_1 k
  have l2 : lookD (es.map fun e => (D.int e.num, D.loc e.lu)) (.int e.num) = some (.loc e.lu) := by
    have q := lookI E.num (fun e => D.loc e.lu) es e.num
    rw [find_inj W.num he] at q
    exact q
  have hh : hasN (e.uses.map fun p => (kP.d p, D.bl true)) (nkP p) = decide (p ∈ e.uses) := by
    have z := has_map kP (id : P → P) (fun _ => D.bl true) e.uses p
    refine z.trans ?_
    by_cases hm : p ∈ e.uses
    · rw [decide_eq_true hm]
      exact List.any_eq_true.mpr ⟨p, hm, decide_eq_true rfl⟩
    · rw [decide_eq_false hm]
      refine List.any_eq_false.mpr fun x hx => ?_
      simp only [decide_eq_true_eq, id]
      exact fun z => hm (z ▸ hx)
  have hk1 := nkT_dr p
  obtain ⟨q1, q2, q3, q4, q5⟩ := eqA2
  obtain ⟨n1, n2, n3⟩ := neA2
  have hb := hk.2.1
  have it : itemsS μ (.loc e.lu) = some (e.uses.map dr) := by
    show (match μ[e.lu]? with
      | some (SO.lst xs) => some xs
      | some (SO.dcn kvs) => some (kvs.map fun x : D × D => x.1)
      | _ => none) = _
    rw [ul]
    simp only [List.map_map]
    rfl
  let ρ : Env := [.val (.loc a.o), .val (dr (name, e.num)), .val (dr p), .val (.loc e.lu), .no]
  have hcm : ev G (.comps (.cmp .eq (.idx (.var 4) (.con (.int 0))) (.idx (.var 2) (.con (.int 0)))) (.name 4) (.var 3) none) ρ μ = .ok (.lst ((e.uses.map fun t => decide (t.1 = p.1)).map D.bl)) μ := by
    have hv : ev G (.var 3) ρ μ = .ok (.loc e.lu) μ := by
      simp [ρ, ev, opt, Env.get]
    rw [ev, hv]
    show (match itemsS μ (.loc e.lu) with
      | some xs => _
      | none => Out.bad) = _
    rw [it]
    show (compLoop _ (e.uses.map dr) [] []).bind _ = _
    rw [compLoop_map (g := dr) (h := fun t : P => D.bl (decide (t.1 = p.1)))]
    · show Out.ok (D.lst ([] ++ e.uses.map fun t : P => D.bl (decide (t.1 = p.1)))) μ = _
      rw [List.map_map]
      rfl
    · intro x hx
      have jx := dr_0 x []
      have jp := dr_0 p []
      have eq := eq_str (W.us e he x hx).1.ok hp.1.ok
      simp [ρ, wipeE, Tg.slots, bindT, Env.put, Env.get, opt, Out.bind, ev, jx, jp, eq]
  have hany : blt .any1 [.lst ((e.uses.map fun t => decide (t.1 = p.1)).map D.bl)] = some (.bl (decide (p.1 ∈ e.uses.map Prod.fst))) := by
    show (bools ((e.uses.map fun t => decide (t.1 = p.1)).map D.bl)).map (fun bs => D.bl (bs.any id)) = _
    rw [bools_any]
    show some (D.bl ((e.uses.map fun t => decide (t.1 = p.1)).any id)) = _
    congr 2
    rw [List.any_map]
    by_cases hm : p.1 ∈ e.uses.map Prod.fst
    · rw [decide_eq_true hm]
      obtain ⟨x, hx, hxp⟩ := List.mem_map.mp hm
      exact List.any_eq_true.mpr ⟨x, hx, decide_eq_true hxp⟩
    · rw [decide_eq_false hm]
      refine List.any_eq_false.mpr fun x hx => ?_
      simp only [Function.comp, id, decide_eq_true_eq]
      exact fun z => hm (List.mem_map.mpr ⟨x, hx, z⟩)
  have hfin : ev G (.blt .any1 (.cons (.comps (.cmp .eq (.idx (.var 4) (.con (.int 0))) (.idx (.var 2) (.con (.int 0)))) (.name 4) (.var 3) none) .nil)) ρ μ = .ok (.bl (decide (p.1 ∈ e.uses.map Prod.fst))) μ := by
    rw [ev, evs, hcm]
    show opt (blt .any1 [.lst ((e.uses.map fun t => decide (t.1 = p.1)).map D.bl)]) μ = _
    rw [hany]
    rfl
  have s0 : exS G fuel (.expr (.mcall "LiveBox" "require_lent" "LiveBox.require_lent" (.var 0) (.cons (.var 1) .nil))) [.val (.loc a.o), .val (dr (name, e.num)), .val (dr p), .no, .no] μ = .nx [.val (.loc a.o), .val (dr (name, e.num)), .val (dr p), .no, .no] μ := by
    generalize fds name k nb a = X2 at *
    simp [exS, ev, evs, Fl.of, Out.bind, opt, Env.get, o, p5, objFs, r1]
  have s1 : exS G fuel (.expr (.call "require_door" (.cons (.var 2) .nil))) [.val (.loc a.o), .val (dr (name, e.num)), .val (dr p), .no, .no] μ = .nx [.val (.loc a.o), .val (dr (name, e.num)), .val (dr p), .no, .no] μ := by
    simp [exS, ev, evs, Fl.of, Out.bind, opt, Env.get, r2]
  have s2 : exS G fuel (.asg (.name 3) (.dget (.attr (.var 0) "own_uses" ["LiveBox"]) (.idx (.var 1) (.con (.int 1))))) [.val (.loc a.o), .val (dr (name, e.num)), .val (dr p), .no, .no] μ = .nx ρ μ := by
    generalize fds name k nb a = X2 at *
    generalize (es.map fun e => (D.int e.num, D.loc e.lu)) = X1 at *
    simp [ρ, exS, ev, evs, Fl.of, Fl.opt, Out.bind, opt, Env.get, Env.put, bindT, o, p2, i1, ou, l2]
  have s3 : ∀ ce, ev G ce ρ μ = .ok (.bl (decide (p.1 ∈ e.uses.map Prod.fst))) μ → exSs G fuel (.cons (.ite (.cmp .eq (.idx (.attr (.var 0) "own_kind" ["LiveBox"]) (.con (.int 1))) (.con (.str "any"))) (.cons (.ret (.con (.bl true))) .nil) (.nil)) (.cons (.ite (.cmp .eq (.idx (.attr (.var 0) "own_kind" ["LiveBox"]) (.con (.int 1))) (.con (.str "door"))) (.cons (.ret (.din false (.var 2) (.var 3))) .nil) (.nil)) (.cons (.ret ce) .nil))) ρ μ = .ret (.bl (opens k e.uses p)) μ := by
    intro ce hce
    unfold opens
    simp only [A2, List.mem_cons, List.not_mem_nil, or_false] at hb
    generalize fds name k nb a = X2 at *
    generalize kd k = kk at *
    generalize decide (p.1 ∈ e.uses.map Prod.fst) = b1 at *
    generalize decide (p ∈ e.uses) = b2 at *
    generalize (e.uses.map fun p => (kP.d p, D.bl true)) = X4 at *
    simp only [ρ] at hce ⊢
    rcases hb with e1 | e1 | e1 <;> rw [e1] at k1 <;> simp only [e1, n1, n2, n3, if_true, if_false] <;>
      simp [exSs, exS, ev, evs, Fl.of, Fl.next, Out.bind, opt, Env.get, testOf, truthy, o, p1, k1, q1, q2, q3, q4, q5, ul, hk1, hh, hce]
  exact runF_ret rfl ((exSs_nx s0).trans ((exSs_nx s1).trans ((exSs_nx s2).trans (s3 _ hfin))))
/-- both boxes, new -/
theorem Inv.start {ri rb : List D → Store → Out D} (hin : InitOk ri) (hbx : BoxOk rb) {l : Nat} {μ : Store} {name : Str} {k : Kd} (hd : Dice l μ) (gn : GN name) (gk : GK k) :
    ∃ (a b : LL) (μ1 μ2 : Store), a.o = μ.length ∧ ri [.loc μ.length, .str name, kd k, .non] (μ ++ [.obj "LiveBox" []]) = .ok .non μ1 ∧ rb [.str name, kd k] μ1 = .ok (.loc b.o) μ2 ∧ Inv l a b name k 0 [] μ2 := by
  obtain ⟨a, μ4, ao, e4, L4, N4⟩ := hin μ name k .non gn gk
  obtain ⟨b, μ5, e5, P5, N5⟩ := hbx μ4 name k
  have d4 : Dice l μ4 := by
    obtain ⟨x, y, z, q⟩ := hd
    exact ⟨x, y, z, by rw [N4.keep l (lt_of_get q), q]⟩
  have d5 : Dice l μ5 := by
    obtain ⟨x, y, z, q⟩ := d4
    exact ⟨x, y, z, by rw [N5.keep l (lt_of_get q), q]⟩
  have fa : foot a E.lu [] = hdl a := List.append_nil _
  have fb : foot b E.pu [] = hdl b := List.append_nil _
  have la := L4.lt
  rw [fa] at la
  refine ⟨a, b, μ4, μ5, ao, e4, e5, ?_⟩
  refine ⟨d5, ⟨L4.keep fun x hx => N5.keep x (L4.lt x hx), P5⟩, ⟨N4.nd, fun e he => absurd he List.not_mem_nil⟩, ⟨N5.nd, fun e he => absurd he List.not_mem_nil⟩, ⟨⟨?_, ?_, ?_, ?_, ?_, ?_, ?_⟩, ⟨Nat.le_refl _, ?_, by decide⟩, ?_⟩, ?_, ?_, ?_⟩
  all_goals first
    | exact fun e he => absurd he List.not_mem_nil
    | skip
  · rw [fa]
    exact fun q => Nat.lt_irrefl _ (Nat.lt_of_lt_of_le (dice_lt hd) (N4.ge l q))
  · rw [fb]
    exact fun q => Nat.lt_irrefl _ (Nat.lt_of_lt_of_le (dice_lt d4) (N5.ge l q))
  · rw [fa, fb]
    exact fun x hx hx' => Nat.lt_irrefl _ (Nat.lt_of_lt_of_le (la x hx) (N5.ge x hx'))
end LB

set_option Elab.async false
set_option linter.all false
set_option maxRecDepth 100000
set_option maxHeartbeats 4000000
namespace Lk12
open PySem (Str NestedKey PyData)
open LD LB
theorem pick_dr {r : List D → Store → Out D} (hp : PickOk r) {l : Nat} {μ : Store} (us : List P) (hd : Dice l μ) (h1 : 1 ≤ us.length) (h2 : us.length < 1073741824) : ∃ (z : P) (μ' : Store), z ∈ us ∧ r [.loc l, .lst (us.map dr)] μ = .ok (dr z) μ' ∧ Dice l μ' ∧ Chg l μ μ' := by
  obtain ⟨x, μ', m, e, d, g⟩ := hp l μ (us.map dr) hd (by simpa using h1) (by simpa using h2)
  obtain ⟨z, hz, rfl⟩ := List.mem_map.mp m
  exact ⟨z, μ', hz, e, d, g⟩
theorem cut4 : ∀ ps : List P, ps.length = 8 → cutD (ps.map dr) none (some 4) = (ps.take 4).map dr
  | [_, _, _, _, _, _, _, _], _ => rfl
theorem ne_bl (b : Bool) : cmpop .ne (.bl b) (.bl b) = some false := by cases b <;> decide +kernel
section
variable {G : GT} {fuel : Nat} {l : Nat} {a b : LL} {name : Str} {k : Kd} {es : List E} {μ : Store}
theorem ones_ok (hli : LetsInOk (G.call "LiveBox.lets_in")) (hlo : LawOpensOk (G.call "_law_opens")) (B : Both μ a b name k .non es) (gn : GN name) (hk : GK k) (W : Wf name es) {e : E} (he : e ∈ es) (s0 s1 s2 s3 s4 s7 s8 : Slot) : ∀ (qs : List P), (∀ q ∈ qs, GP q) → ∀ s10 s11 : Slot, ∃ s10' s11', forLoop (.name 10) (exSs G fuel f__law_right_l0) (qs.map dr) [s0, s1, s2, s3, s4, .val (.loc a.o), .val (.loc b.o), s7, s8, .val (dr (name, e.num)), s10, s11] μ = .nx [s0, s1, s2, s3, s4, .val (.loc a.o), .val (.loc b.o), s7, s8, .val (dr (name, e.num)), s10', s11'] μ
  | [], _, s10, s11 => ⟨s10, s11, rfl⟩
  | q :: qs, h, s10, s11 => by
    have hq := h q (List.mem_cons_self ..)
    have e1 := hli μ a name k .non es e q B.L gn hk W he hq
    have e2 := hlo μ b name k es e q B.Q hk W he hq
    have n1 := ne_bl (opens k e.uses q)
    have o : μ[a.o]? = some (.obj "LiveBox" (fds name k .non a)) := B.L.ob
    have m1 := m_lets_in name k .non a
    obtain ⟨s10', s11', ih⟩ := ones_ok hli hlo B gn hk W he s0 s1 s2 s3 s4 s7 s8 qs (fun x hx => h x (List.mem_cons_of_mem _ hx)) (.val (dr q)) (.val (.bl (opens k e.uses q)))
    refine ⟨s10', s11', ?_⟩
    rw [List.map_cons]
    unfold forLoop
    have hb : bindT [s0, s1, s2, s3, s4, .val (.loc a.o), .val (.loc b.o), s7, s8, .val (dr (name, e.num)), s10, s11] (.name 10) (dr q) = some [s0, s1, s2, s3, s4, .val (.loc a.o), .val (.loc b.o), s7, s8, .val (dr (name, e.num)), .val (dr q), s11] := rfl
    have ht : exSs G fuel f__law_right_l0 [s0, s1, s2, s3, s4, .val (.loc a.o), .val (.loc b.o), s7, s8, .val (dr (name, e.num)), .val (dr q), s11] μ = .nx [s0, s1, s2, s3, s4, .val (.loc a.o), .val (.loc b.o), s7, s8, .val (dr (name, e.num)), .val (dr q), .val (.bl (opens k e.uses q))] μ := by
      generalize opens k e.uses q = bb at *
      generalize fds name k .non a = X1 at *
      simp [f__law_right_l0, exSs, exS, ev, evs, Fl.of, Fl.next, Fl.opt, Out.bind, opt, Env.get, Env.put, bindT, testOf, truthy, o, objFs, m1, e1, e2, blt, tyN, isB, n1]
    simp only [hb, ht]
    exact ih
theorem add1 (ps : List P) (p : P) (h : ps.length = 8) : binop .add (.lst (ps.map dr)) (.lst [dr p]) = some (.lst ((ps ++ [p]).map dr)) := by
  show (if (ps.map dr).length + [dr p].length ≤ LINE then some (D.lst (ps.map dr ++ [dr p])) else none) = _
  rw [if_pos (by rw [List.length_map, h]; show 8 + 1 ≤ LINE; decide), List.map_append]
  rfl
theorem doors_ok2 (hli : LetsInOk (G.call "LiveBox.lets_in")) (hlo : LawOpensOk (G.call "_law_opens")) (B : Both μ a b name k .non es) (gn : GN name) (hk : GK k) (W : Wf name es) {ps : List P} (hps : ps.length = 8) (hgp : ∀ p ∈ ps, GP p) (s0 s2 s3 s4 s7 s8 : Slot) : ∀ (m i n : Nat) (s9 s10 s11 : Slot), i + m = es.length → m < n → ∃ s9' s10' s11', forLoopL (.name 9) (exSs G fuel f__law_right_l1) b.r n i [s0, .val (.lst (ps.map dr)), s2, s3, s4, .val (.loc a.o), .val (.loc b.o), s7, s8, s9, s10, s11] μ = .nx [s0, .val (.lst (ps.map dr)), s2, s3, s4, .val (.loc a.o), .val (.loc b.o), s7, s8, s9', s10', s11'] μ
  | 0, i, n + 1, s9, s10, s11, h1, h2 => by
    refine ⟨s9, s10, s11, ?_⟩
    unfold forLoopL
    rw [B.Q.ord]
    have hi : (es.map fun e => dr (name, e.num))[i]? = none := List.getElem?_eq_none (by rw [List.length_map]; omega)
    simp only [hi]
  | m + 1, i, n + 1, s9, s10, s11, h1, h2 => by
    have hlt : i < es.length := by omega
    have he : es[i] ∈ es := List.getElem_mem hlt
    have hone : ∀ q ∈ ps ++ [(name, es[i].num)], GP q := fun q hq => by
      rcases List.mem_append.mp hq with hq | hq
      · exact hgp q hq
      · rw [List.mem_singleton] at hq
        subst hq
        exact ⟨gn, W.pos _ he⟩
    obtain ⟨t10, t11, e1⟩ := ones_ok (fuel := fuel) hli hlo B gn hk W he s0 (.val (.lst (ps.map dr))) s2 s3 s4 s7 s8 _ hone s10 s11
    obtain ⟨u9, u10, u11, ih⟩ := doors_ok2 hli hlo B gn hk W hps hgp s0 s2 s3 s4 s7 s8 m (i + 1) n (.val (dr (name, es[i].num))) t10 t11 (by omega) (by omega)
    refine ⟨u9, u10, u11, ?_⟩
    unfold forLoopL
    rw [B.Q.ord]
    have hi : (es.map fun e => dr (name, e.num))[i]? = some (dr (name, es[i].num)) := by
      rw [List.getElem?_map, List.getElem?_eq_getElem hlt]
      rfl
    simp only [hi]
    have hb : bindT [s0, .val (.lst (ps.map dr)), s2, s3, s4, .val (.loc a.o), .val (.loc b.o), s7, s8, s9, s10, s11] (.name 9) (dr (name, es[i].num)) = some [s0, .val (.lst (ps.map dr)), s2, s3, s4, .val (.loc a.o), .val (.loc b.o), s7, s8, .val (dr (name, es[i].num)), s10, s11] := rfl
    simp only [hb]
    have ha := add1 ps (name, es[i].num) hps
    have ht : exSs G fuel f__law_right_l1 [s0, .val (.lst (ps.map dr)), s2, s3, s4, .val (.loc a.o), .val (.loc b.o), s7, s8, .val (dr (name, es[i].num)), s10, s11] μ = .nx [s0, .val (.lst (ps.map dr)), s2, s3, s4, .val (.loc a.o), .val (.loc b.o), s7, s8, .val (dr (name, es[i].num)), t10, t11] μ := by
      have z : exS G fuel (.for_ (.name 10) .val (.cons (.bin .add (.var 1) (.lst (.cons (.var 9) .nil))) .nil) f__law_right_l0) [s0, .val (.lst (ps.map dr)), s2, s3, s4, .val (.loc a.o), .val (.loc b.o), s7, s8, .val (dr (name, es[i].num)), s10, s11] μ = forLoop (.name 10) (exSs G fuel f__law_right_l0) ((ps ++ [(name, es[i].num)]).map dr) [s0, .val (.lst (ps.map dr)), s2, s3, s4, .val (.loc a.o), .val (.loc b.o), s7, s8, .val (dr (name, es[i].num)), s10, s11] μ := by
        generalize (ps ++ [(name, es[i].num)]).map dr = X1 at *
        generalize ps.map dr = X2 at *
        simp [exS, ev, evs, Fl.of, Out.bind, opt, Env.get, LINE, ha, iterD]
      refine (exSs_nx (z.trans e1)).trans ?_
      rfl
    rw [ht]
    exact ih
theorem turn_ok (hp : PickOk (G.call "_law_pick")) (hll : LawLendOk (G.call "_law_lend")) (hlv : LendOk (G.call "LiveBox.lend")) (hli : LetsInOk (G.call "LiveBox.lets_in")) (hlo : LawOpensOk (G.call "_law_opens")) {N : Nat} {ps : List P} (h : Inv l a b name k N es μ) (hN : N + 1 ≤ 100) (hps : ps.length = 8) (hgp : ∀ p ∈ ps, GP p) (hk : GK k) (gn : GN name) (s2 s3 s4 s7 s8 s9 s10 s11 : Slot) :
    ∃ (s7' s8' s9' s10' s11' : Slot) (es' : List E) (μ' : Store), exSs G 200 f__law_right_l2 [.val (.loc l), .val (.lst (ps.map dr)), s2, s3, s4, .val (.loc a.o), .val (.loc b.o), s7, s8, s9, s10, s11] μ = .nx [.val (.loc l), .val (.lst (ps.map dr)), s2, s3, s4, .val (.loc a.o), .val (.loc b.o), s7', s8', s9', s10', s11'] μ' ∧ Inv l a b name k (N + 1) es' μ' := by
  have hL : LINE = 16777216 := rfl
  obtain ⟨s, μ1, ms, e1, d1, g1⟩ := pick_dr hp (ps.take 4) h.d (by rw [List.length_take]; omega) (by rw [List.length_take]; omega)
  obtain ⟨t, μ2, mt, e2, d2, g2⟩ := pick_dr hp ps d1 (by omega) (by omega)
  have hs := hgp s (List.mem_of_mem_take ms)
  have ht := hgp t mt
  have I2 := (h.chg d1 g1).chg d2 g2
  obtain ⟨p, μ3, μ4, es', gp, ob, e3, e4, I4⟩ := I2.step2 hll hlv (by omega) hs ht hk gn
  have ob : μ2[a.o]? = some (.obj "LiveBox" (fds name k .non a)) := ob
  have m1 := m_lend name k .non a
  have hc := cut4 ps hps
  have hlen := I4.g.F.len
  obtain ⟨u9, u10, u11, e5⟩ := doors_ok2 (fuel := 200) hli hlo I4.B gn hk I4.g.W hps hgp (.val (.loc l)) s2 s3 s4 (.val (dr s)) (.val (dr t)) es'.length 0 200 s9 s10 s11 (by omega) (by omega)
  have po := I4.B.Q.ob
  have p3 := p_order name k b
  refine ⟨.val (dr s), .val (dr t), u9, u10, u11, es', μ4, ?_, I4⟩
  generalize (ps.take 4).map dr = X1 at *
  generalize ps.map dr = X2 at *
  generalize fds name k .non a = X3 at *
  generalize pbox name k b = X4 at *
  have q0 : exS G 200 (.asg (.name 7) (.call "_law_pick" (.cons (.var 0) (.cons (.slice .hi (.var 1) (.cons (.con (.int 4)) .nil)) .nil)))) [.val (.loc l), .val (.lst X2), s2, s3, s4, .val (.loc a.o), .val (.loc b.o), s7, s8, s9, s10, s11] μ = .nx [.val (.loc l), .val (.lst X2), s2, s3, s4, .val (.loc a.o), .val (.loc b.o), .val (dr s), s8, s9, s10, s11] μ1 := by
    simp [exS, ev, evs, Fl.of, Fl.opt, Out.bind, opt, Env.get, Env.put, bindT, part, sliceD, hc, e1]
  have q1 : exS G 200 (.asg (.name 8) (.call "_law_pick" (.cons (.var 0) (.cons (.var 1) .nil)))) [.val (.loc l), .val (.lst X2), s2, s3, s4, .val (.loc a.o), .val (.loc b.o), .val (dr s), s8, s9, s10, s11] μ1 = .nx [.val (.loc l), .val (.lst X2), s2, s3, s4, .val (.loc a.o), .val (.loc b.o), .val (dr s), .val (dr t), s9, s10, s11] μ2 := by
    simp [exS, ev, evs, Fl.of, Fl.opt, Out.bind, opt, Env.get, Env.put, bindT, e2]
  have q2 : exS G 200 (.expr (.mcall "LiveBox" "lend" "LiveBox.lend" (.var 5) (.cons (.var 7) (.cons (.var 8) .nil)))) [.val (.loc l), .val (.lst X2), s2, s3, s4, .val (.loc a.o), .val (.loc b.o), .val (dr s), .val (dr t), s9, s10, s11] μ2 = .nx [.val (.loc l), .val (.lst X2), s2, s3, s4, .val (.loc a.o), .val (.loc b.o), .val (dr s), .val (dr t), s9, s10, s11] μ3 := by
    simp [exS, ev, evs, Fl.of, Out.bind, opt, Env.get, ob, objFs, m1, e3]
  have q3 : exS G 200 (.expr (.call "_law_lend" (.cons (.var 6) (.cons (.var 7) (.cons (.var 8) (.cons (.con .non) .nil)))))) [.val (.loc l), .val (.lst X2), s2, s3, s4, .val (.loc a.o), .val (.loc b.o), .val (dr s), .val (dr t), s9, s10, s11] μ3 = .nx [.val (.loc l), .val (.lst X2), s2, s3, s4, .val (.loc a.o), .val (.loc b.o), .val (dr s), .val (dr t), s9, s10, s11] μ4 := by
    simp [exS, ev, evs, Fl.of, Out.bind, opt, Env.get, e4]
  have q4 : exS G 200 (.forl (.name 9) (.dget (.var 6) (.con (.str "order"))) f__law_right_l1) [.val (.loc l), .val (.lst X2), s2, s3, s4, .val (.loc a.o), .val (.loc b.o), .val (dr s), .val (dr t), s9, s10, s11] μ4 = .nx [.val (.loc l), .val (.lst X2), s2, s3, s4, .val (.loc a.o), .val (.loc b.o), .val (dr s), .val (dr t), u9, u10, u11] μ4 := by
    have z : exS G 200 (.forl (.name 9) (.dget (.var 6) (.con (.str "order"))) f__law_right_l1) [.val (.loc l), .val (.lst X2), s2, s3, s4, .val (.loc a.o), .val (.loc b.o), .val (dr s), .val (dr t), s9, s10, s11] μ4 = forLoopL (.name 9) (exSs G 200 f__law_right_l1) b.r 200 0 [.val (.loc l), .val (.lst X2), s2, s3, s4, .val (.loc a.o), .val (.loc b.o), .val (dr s), .val (dr t), s9, s10, s11] μ4 := by
      simp [exS, ev, Fl.of, Out.bind, opt, Env.get, po, p3]
    exact z.trans e5
  refine (exSs_nx q0).trans ((exSs_nx q1).trans ((exSs_nx q2).trans ((exSs_nx q3).trans ((exSs_nx q4).trans ?_))))
  rfl
end
section
variable {G : GT} {l : Nat} {a b : LL} {name : Str} {k : Kd}
theorem turns_ok (hp : PickOk (G.call "_law_pick")) (hll : LawLendOk (G.call "_law_lend")) (hlv : LendOk (G.call "LiveBox.lend")) (hli : LetsInOk (G.call "LiveBox.lets_in")) (hlo : LawOpensOk (G.call "_law_opens")) {ps : List P} (hps : ps.length = 8) (hgp : ∀ p ∈ ps, GP p) (hk : GK k) (gn : GN name) (s3 s4 : Slot) : ∀ (xs : List D) (N : Nat) (es : List E) (μ : Store) (s2 s7 s8 s9 s10 s11 : Slot), N + xs.length ≤ 100 → Inv l a b name k N es μ →
    ∃ (s2' s7' s8' s9' s10' s11' : Slot) (N' : Nat) (es' : List E) (μ' : Store), N' ≤ 100 ∧ forLoop (.name 2) (exSs G 200 f__law_right_l2) xs [.val (.loc l), .val (.lst (ps.map dr)), s2, s3, s4, .val (.loc a.o), .val (.loc b.o), s7, s8, s9, s10, s11] μ = .nx [.val (.loc l), .val (.lst (ps.map dr)), s2', s3, s4, .val (.loc a.o), .val (.loc b.o), s7', s8', s9', s10', s11'] μ' ∧ Inv l a b name k N' es' μ'
  | [], N, es, μ, s2, s7, s8, s9, s10, s11, hN, h => ⟨s2, s7, s8, s9, s10, s11, N, es, μ, by simpa using hN, rfl, h⟩
  | x :: xs, N, es, μ, s2, s7, s8, s9, s10, s11, hN, h => by
    obtain ⟨t7, t8, t9, t10, t11, es1, μ1, e1, I1⟩ := turn_ok hp hll hlv hli hlo h (by simp at hN; omega) hps hgp hk gn (.val x) s3 s4 s7 s8 s9 s10 s11
    obtain ⟨u2, u7, u8, u9, u10, u11, N', es', μ', hN', e2, I2⟩ := turns_ok hp hll hlv hli hlo hps hgp hk gn s3 s4 xs (N + 1) es1 μ1 (.val x) t7 t8 t9 t10 t11 (by simp at hN ⊢; omega) I1
    refine ⟨u2, u7, u8, u9, u10, u11, N', es', μ', hN', ?_, I2⟩
    unfold forLoop
    have hb : bindT [.val (.loc l), .val (.lst (ps.map dr)), s2, s3, s4, .val (.loc a.o), .val (.loc b.o), s7, s8, s9, s10, s11] (.name 2) x = some [.val (.loc l), .val (.lst (ps.map dr)), .val x, s3, s4, .val (.loc a.o), .val (.loc b.o), s7, s8, s9, s10, s11] := rfl
    simp only [hb, e1]
    exact e2
theorem right_ok (hr : RollOk (G.call "_law_roll")) (hp : PickOk (G.call "_law_pick")) (hw : WordOk (G.call "_law_word")) (hkd : KindOk (G.call "_law_kind")) (hdo : DoorsOk (G.call "_law_doors")) (hin : InitOk (G.call "LiveBox.__init__")) (hbx : BoxOk (G.call "_law_box")) (hll : LawLendOk (G.call "_law_lend")) (hlv : LendOk (G.call "LiveBox.lend")) (hli : LetsInOk (G.call "LiveBox.lets_in")) (hlo : LawOpensOk (G.call "_law_opens")) (hib : IsBoxOk (G.call "_law_is_box_as") 200) (l : Nat) (μ : Store) (hd : Dice l μ) : ∃ μ', runF G 200 f__law_right [.loc l] μ = .ok (.bl true) μ' := by
  obtain ⟨name, μ1, gn, e1, d1, _⟩ := hw l μ hd
  obtain ⟨k, μ2, gk, e2, d2, _⟩ := hkd l μ1 d1
  obtain ⟨ps, μ3, hps, hgp, e3, d3⟩ := hdo l μ2 d2
  obtain ⟨a, b, μ4, μ5, ao, e4, e5, I5⟩ := Inv.start hin hbx d3 gn gk
  obtain ⟨n, μ6, hn, e6, d6, g6⟩ := hr l μ5 15 I5.d (by decide) (by decide)
  have I6 := I5.chg d6 g6
  obtain ⟨j, hj⟩ : ∃ j : Int, j = 2 + (n : Int) := ⟨_, rfl⟩
  have hL : (100 : Int) < (LINE : Int) := by decide
  have hit := rng1_it j (by omega) (by omega)
  obtain ⟨s2, s7, s8, s9, s10, s11, N', es', μ7, hN', e7, I7⟩ := turns_ok hp hll hlv hli hlo hps hgp gk gn (.val (.str name)) (.val (kd k)) (rangeL 0 j) 0 [] μ6 .no .no .no .no .no .no (by rw [rangeL_len]; omega) I6
  refine ⟨μ7, ?_⟩
  have hib' := hib μ7 a b name k .non es' I7.B gn gk I7.g.W (Nat.le_trans I7.g.F.len (by omega)) (Nat.lt_of_le_of_lt I7.g.F.len (by omega))
  have q0 : exS G 200 (.par [(3, false), (4, false)] (.cons (.call "_law_word" (.cons (.var 0) .nil)) (.cons (.call "_law_kind" (.cons (.var 0) .nil)) .nil))) [.val (.loc l), .no, .no, .no, .no, .no, .no, .no, .no, .no, .no, .no] μ = .nx [.val (.loc l), .no, .no, .val (.str name), .val (kd k), .no, .no, .no, .no, .no, .no, .no] μ2 := by
    simp [exS, ev, evs, Fl.of, Fl.opt, Out.bind, opt, Env.get, Env.put, putMix, e1, e2]
  have q1 : exS G 200 (.asg (.name 1) (.call "_law_doors" (.cons (.var 0) .nil))) [.val (.loc l), .no, .no, .val (.str name), .val (kd k), .no, .no, .no, .no, .no, .no, .no] μ2 = .nx [.val (.loc l), .val (.lst (ps.map dr)), .no, .val (.str name), .val (kd k), .no, .no, .no, .no, .no, .no, .no] μ3 := by
    simp [exS, ev, evs, Fl.of, Fl.opt, Out.bind, opt, Env.get, Env.put, bindT, e3]
  have q2 : exS G 200 (.par [(5, false), (6, false)] (.cons (.new "LiveBox" "LiveBox.__init__" (.cons (.var 3) (.cons (.var 4) .nil)) [.non]) (.cons (.call "_law_box" (.cons (.var 3) (.cons (.var 4) .nil))) .nil))) [.val (.loc l), .val (.lst (ps.map dr)), .no, .val (.str name), .val (kd k), .no, .no, .no, .no, .no, .no, .no] μ3 = .nx [.val (.loc l), .val (.lst (ps.map dr)), .no, .val (.str name), .val (kd k), .val (.loc a.o), .val (.loc b.o), .no, .no, .no, .no, .no] μ5 := by
    rw [ao]
    simp [exS, ev, evs, Fl.of, Fl.opt, Out.bind, opt, Env.get, Env.put, putMix, Dfl.d, isNon, LINE, e4, e5]
  have q3 : exS G 200 (.for_ (.name 2) .rng1 (.cons (.bin .add (.con (.int 2)) (.call "_law_roll" (.cons (.var 0) (.cons (.con (.int 15)) .nil)))) .nil) f__law_right_l2) [.val (.loc l), .val (.lst (ps.map dr)), .no, .val (.str name), .val (kd k), .val (.loc a.o), .val (.loc b.o), .no, .no, .no, .no, .no] μ5 = .nx [.val (.loc l), .val (.lst (ps.map dr)), s2, .val (.str name), .val (kd k), .val (.loc a.o), .val (.loc b.o), s7, s8, s9, s10, s11] μ7 := by
    have z : exS G 200 (.for_ (.name 2) .rng1 (.cons (.bin .add (.con (.int 2)) (.call "_law_roll" (.cons (.var 0) (.cons (.con (.int 15)) .nil)))) .nil) f__law_right_l2) [.val (.loc l), .val (.lst (ps.map dr)), .no, .val (.str name), .val (kd k), .val (.loc a.o), .val (.loc b.o), .no, .no, .no, .no, .no] μ5 = forLoop (.name 2) (exSs G 200 f__law_right_l2) (rangeL 0 j) [.val (.loc l), .val (.lst (ps.map dr)), .no, .val (.str name), .val (kd k), .val (.loc a.o), .val (.loc b.o), .no, .no, .no, .no, .no] μ6 := by
      simp [exS, ev, evs, Fl.of, Out.bind, opt, Env.get, e6, binop, ← hj, hit]
    exact z.trans e7
  have q4 : exS G 200 (.ret (.call "_law_is_box_as" (.cons (.var 5) (.cons (.var 6) .nil)))) [.val (.loc l), .val (.lst (ps.map dr)), s2, .val (.str name), .val (kd k), .val (.loc a.o), .val (.loc b.o), s7, s8, s9, s10, s11] μ7 = .ret (.bl true) μ7 := by
    simp [exS, ev, evs, Fl.of, Out.bind, opt, Env.get, hib']
  exact runF_ret rfl ((exSs_nx q0).trans ((exSs_nx q1).trans ((exSs_nx q2).trans ((exSs_nx q3).trans (exSs_ret q4)))))
end
end Lk12

set_option Elab.async false
set_option linter.all false
set_option maxRecDepth 100000
set_option maxHeartbeats 4000000
namespace Lk12
open PySem (Str)
open LD LB
def fuel : Nat := 200
abbrev cal (d : Nat) : Str → List D → Store → Out D := callD (tabC cs) (tabF es) 200 d
theorem at_ {f : Str} {b : Fn} (h : tabF es f = some b) (d : Nat) : cal (d + 1) f = runF ⟨tabC cs, cal d⟩ 200 b := by
  funext ds μ
  exact callD_succ h ds μ
theorem g_dice (d : Nat) : DiceOk (cal (d + 1) "_law_dice") := by rw [at_ (b := f__law_dice) (by kernel_rfl)]; exact diceA_ok
theorem g_roll (d : Nat) : RollOk (cal (d + 1) "_law_roll") := by rw [at_ (b := f__law_roll) (by kernel_rfl)]; exact rollA_ok
theorem g_pick (d : Nat) : PickOk (cal (d + 2) "_law_pick") := by rw [at_ (b := f__law_pick) (by kernel_rfl)]; exact pick_ok (g_roll d)
theorem g_letters (d : Nat) : LettersOk (cal (d + 1) "_law_letters") := by rw [at_ (b := LB.f__law_letters) (by kernel_rfl)]; exact letters_ok
theorem g_word (d : Nat) : WordOk (cal (d + 3) "_law_word") := by rw [at_ (b := LB.f__law_word) (by kernel_rfl)]; exact word_ok (g_roll (d + 1)) (g_pick d) (g_letters (d + 1))
theorem g_fresh (d : Nat) : FreshOk (cal (d + 4) "_law_fresh") := by rw [at_ (b := LB.f__law_fresh) (by kernel_rfl)]; exact fresh_ok (g_word d) (g_letters (d + 2))
theorem g_words (d : Nat) : WordsOk (cal (d + 1) "_law_words") := by rw [at_ (b := LB.f__law_words) (by kernel_rfl)]; exact words_ok
theorem g_kind (d : Nat) : KindOk (cal (d + 3) "_law_kind") := by rw [at_ (b := LB.f__law_kind) (by kernel_rfl)]; exact kind_ok (g_pick d) (g_words (d + 1))
theorem g_doors (d : Nat) : DoorsOk (cal (d + 5) "_law_doors") := by rw [at_ (b := LB.f__law_doors) (by kernel_rfl)]; exact doors_ok (g_roll (d + 3)) (g_word (d + 1)) (g_fresh d)
theorem c_letters : tabC cs "LETTERS" = some (.str letters) := by kernel_rfl
theorem c_1 : tabC cs "LENDINGS" = some (.tup (A1.map D.str)) := by kernel_rfl
theorem c_2 : tabC cs "LETTINGS" = some (.tup (A2.map D.str)) := by kernel_rfl
theorem c_3 : tabC cs "TURNINGS" = some (.tup (A3.map D.str)) := by kernel_rfl
theorem g_is_name (d : Nat) : NameOk (cal (d + 1) "is_name") := by rw [at_ (b := LB.f_is_name) (by kernel_rfl)]; exact name_ok c_letters
theorem g_is_integer (d : Nat) : IntOk (cal (d + 1) "is_integer") := by rw [at_ (b := LB.f_is_integer) (by kernel_rfl)]; exact int_ok
theorem g_is_door (d : Nat) : DoorOk (cal (d + 2) "is_door") := by rw [at_ (b := LB.f_is_door) (by kernel_rfl)]; exact door_ok (g_is_name d) (g_is_integer d)
theorem g_req_door (d : Nat) : ReqDoorOk (cal (d + 3) "require_door") := by rw [at_ (b := LB.f_require_door) (by kernel_rfl)]; exact req_door_ok (g_is_door d)
theorem g_is_kind (d : Nat) : IsKindOk (cal (d + 1) "is_kind") := by rw [at_ (b := LB.f_is_kind) (by kernel_rfl)]; exact is_kind_ok c_1 c_2 c_3
theorem g_init (d : Nat) : InitOk (cal (d + 2) "LiveBox.__init__") := by rw [at_ (b := LB.f_LiveBox___init__) (by kernel_rfl)]; exact init_ok (g_is_name d) (g_is_kind d)
theorem g_box (d : Nat) : BoxOk (cal (d + 1) "_law_box") := by rw [at_ (b := LB.f__law_box) (by kernel_rfl)]; exact law_box_ok
theorem g_lcase (d : Nat) : LawCaseOk (cal (d + 1) "_law_case") := by rw [at_ (b := LB.f__law_case) (by kernel_rfl)]; exact law_case_ok
theorem g_llend (d : Nat) : LawLendOk (cal (d + 2) "_law_lend") := by rw [at_ (b := LB.f__law_lend) (by kernel_rfl)]; exact law_lend_ok (g_lcase d)
theorem g_case (d : Nat) : CaseOfOk (cal (d + 1) "LiveBox.case_of") := by rw [at_ (b := LB.f_LiveBox_case_of) (by kernel_rfl)]; exact case_of_ok
theorem g_offer (d : Nat) : OfferOk (cal (d + 2) "LiveBox.offer") := by rw [at_ (b := LB.f_LiveBox_offer) (by kernel_rfl)]; exact offer_ok (g_case d) (g_is_integer d)
theorem g_settle (d : Nat) : SettleOk (cal (d + 2) "LiveBox.settle") := by rw [at_ (b := LB.f_LiveBox_settle) (by kernel_rfl)]; exact settle_ok (g_case d)
theorem g_lend (d : Nat) : LendOk (cal (d + 4) "LiveBox.lend") := by rw [at_ (b := LB.f_LiveBox_lend) (by kernel_rfl)]; exact lend_ok (g_req_door d) (g_offer (d + 1)) (g_settle (d + 1))
theorem g_address (d : Nat) : AttrOk (cal (d + 1) "LiveBox.address") fun n _ => .str n := by rw [at_ (b := LB.f_LiveBox_address) (by kernel_rfl)]; exact address_ok
theorem g_kindp (d : Nat) : AttrOk (cal (d + 1) "LiveBox.kind") fun _ k => kd k := by rw [at_ (b := LB.f_LiveBox_kind) (by kernel_rfl)]; exact kindp_ok
theorem g_len (d : Nat) : LenOk (cal (d + 1) "LiveBox.__len__") := by rw [at_ (b := LB.f_LiveBox___len__) (by kernel_rfl)]; exact len_ok
theorem g_str (d : Nat) : StrMOk (cal (d + 1) "LiveBox.__str__") := by rw [at_ (b := LB.f_LiveBox___str__) (by kernel_rfl)]; exact strm_ok
theorem g_doorsm (d : Nat) : DoorsMOk (cal (d + 1) "LiveBox.doors") := by rw [at_ (b := LB.f_LiveBox_doors) (by kernel_rfl)]; exact doorsm_ok
theorem g_contains (d : Nat) : ContainsOk (cal (d + 3) "LiveBox.__contains__") := by rw [at_ (b := LB.f_LiveBox___contains__) (by kernel_rfl)]; exact contains_ok (g_is_door d)
theorem g_req_lent (d : Nat) : ReqLentOk (cal (d + 4) "LiveBox.require_lent") := by rw [at_ (b := LB.f_LiveBox_require_lent) (by kernel_rfl)]; exact req_lent_ok (g_contains d)
theorem g_inner (d : Nat) : InnerOk (cal (d + 5) "LiveBox.inner") := by rw [at_ (b := LB.f_LiveBox_inner) (by kernel_rfl)]; exact inner_ok (g_req_lent d)
theorem g_used (d : Nat) : UsedOk (cal (d + 5) "LiveBox.used") := by rw [at_ (b := LB.f_LiveBox_used) (by kernel_rfl)]; exact used_ok (g_req_lent d)
theorem g_isbox (d : Nat) : IsBoxOk (cal (d + 6) "_law_is_box_as") 200 := by rw [at_ (b := LB.f__law_is_box_as) (by kernel_rfl)]; exact is_box_ok (g_address (d + 4)) (g_kindp (d + 4)) (g_len (d + 4)) (g_str (d + 4)) (g_doorsm (d + 4)) (g_inner d) (g_used d)
theorem g_opens (d : Nat) : LawOpensOk (cal (d + 1) "_law_opens") := by rw [at_ (b := LB.f__law_opens) (by kernel_rfl)]; exact law_opens_ok
theorem g_lets_in (d : Nat) : LetsInOk (cal (d + 5) "LiveBox.lets_in") := by rw [at_ (b := LB.f_LiveBox_lets_in) (by kernel_rfl)]; exact lets_in_ok (g_req_lent d) (g_req_door (d + 1))
theorem g_right (d : Nat) (l : Nat) (μ : Store) (hd : Dice l μ) : ∃ μ', cal (d + 7) "_law_right" [.loc l] μ = .ok (.bl true) μ' := by
  rw [at_ (b := f__law_right) (by kernel_rfl)]
  exact right_ok (G := ⟨tabC cs, cal (d + 6)⟩) (g_roll (d + 5)) (g_pick (d + 4)) (g_word (d + 3)) (g_kind (d + 3)) (g_doors (d + 1)) (g_init (d + 4)) (g_box (d + 5)) (g_llend (d + 4)) (g_lend (d + 2)) (g_lets_in (d + 1)) (g_opens (d + 5)) (g_isbox d) l μ hd
theorem plain (ns : List Int) : ∃ μ', callD (tabC cs) (tabF es) fuel 20 "law" [.scr ns] [] = .ok (.bl true) μ' := by
  show ∃ μ', cal (19 + 1) "law" [.scr ns] [] = .ok (.bl true) μ'
  rw [at_ (b := f_law) (by kernel_rfl)]
  obtain ⟨μ', e⟩ := law_tail (G := ⟨tabC cs, cal 19⟩) (fuel := 200) (ns := ns) (lo := 1) (hi := 6) (by decide) (by decide) (by decide) (by decide) (g_dice 18) (g_right 12) []
  exact ⟨μ', runF_ret rfl e⟩
end Lk12

set_option Elab.async false
set_option linter.all false
set_option maxRecDepth 100000
set_option maxHeartbeats 4000000
open PySem PySem.W PySem.Calls PyProof.Rows
theorem PySem.Challenge.cw_lentdoors_k12_messages_let_in_holds : PySem.Challenge.rw_lentdoors_k12_messages_let_in.Holds := by
  w_on; o_law
  refine HandSHeadRun.head_any (r := OpenLaw.row PySem.Challenge.rw_lentdoors_k12_messages_let_in) (q := view (OpenLaw.row PySem.Challenge.rw_lentdoors_k12_messages_let_in).prog [34]) (H := Lk12.hk) (ob := Lk12.ob) (M := 20000) (loose := Lk12.loose) (d := HandSHeadRun.topDef (OpenLaw.row PySem.Challenge.rw_lentdoors_k12_messages_let_in).prog 34) (kwd := []) Lk12.ob_eq
    (by kernel_rfl) (fun s => by kernel_rfl) Lk12.run (by kernel_rfl) (by kernel_rfl) (by kernel_rfl) (by rfl) (by first | assumption | decide +kernel) (by decide +kernel) ⟨rfl, rfl, rfl, rfl, rfl, by decide +kernel⟩ ?hw ?hc
  case hw => w_witness2
  case hc =>
    refine LD.walk_ofL (l := PySem.Challenge.rw_lentdoors_k12_messages_let_in) (n := 63) (k := 62) (x := "_law_script") (CX := fun w => L2.CX PySem.Challenge.rw_lentdoors_k12_messages_let_in.prog w) rfl (by decide) (by kernel_rfl) ⟨rfl, by decide, by decide⟩ ?F (fun w H s e s' z => by
      obtain ⟨_, _, _, _, _, _, _, _, _, _, _, _, z⟩ := z
      exact z)
    intro w mg fa h Y G hmg0
    obtain ⟨K, KX, c⟩ := Y
    have hmg : mg ("law" : PySem.Str) = some (.ref fa) := by
      have e : (HandSHeadRun.topDef (OpenLaw.row PySem.Challenge.rw_lentdoors_k12_messages_let_in).prog 34).name = ("law" : PySem.Str) := by kernel_rfl
      rw [← e]
      exact hmg0
    obtain ⟨fd, hb, hF⟩ := LD.law_facts (fuel := Lk12.fuel) (d := 19) (e := Lk12.e_law) (x := "_law_script") (P := (PySem.Challenge.rw_lentdoors_k12_messages_let_in).prog) (w := w) Lk12.es_nd Lk12.es_ok Lk12.es_binds Lk12.es_glo Lk12.es_ps Lk12.ys_ok Lk12.ys_binds Lk12.cl_ok (by simp [Lk12.es]) rfl rfl KX G hmg c
    refine ⟨K, fd, _, KX, hb, fun H a ns hl _ hS => ?_, hF⟩
    obtain ⟨μ', hc⟩ := Lk12.plain ns
    exact LD.law_sp (Nat.le_trans hl (by decide)) hS hc fun _ => rfl

