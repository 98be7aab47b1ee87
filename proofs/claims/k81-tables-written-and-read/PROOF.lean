import PyProof.Rows.All
import Wide.All
import OpenK.AllK
import Wide.FinOn
import KE.SortData
import KE.KDictKeyed
import HandS.ForMost
import HandS.ForExc
import HandS.Deep
import HandS.TupAny
import HandS.Lambda
import HandS.HeadHook4
import HandS.List
import HandS.Text
import HandS.TupMul
import HandS.IsInst
import HandS.TupLe
import KE.LtData
import HandS.Conv
import HandS.Strs
import HandS.Dict
import HandS.Style
import HandS.Exc
import HandS.Comp
import HandS.Iter
import HandS.Zip
import HandS.HotCalls
import HandS.ExcIs
import HandS.Property
import HandS.ClsMeth
import HandS.Star
import HandS.ExcCtx
import HandS.Defaults
import KE.KDictSum
import HandS.TupSets
import HandS.ExcOwn
import PyProof.DictRoadsH
import HandS.SuiteRaise
import HandS.WordsExc
import HandS.Head0
import HandS.Head1
import HandS.Head2
import HandS.HeadEnd
import HandS.HeadHook1
import HandS.HeadHook2
import HandS.HeadWalk
import HandS.NestedK
import HandS.EndBits
import KE.KStateDown
import HandS.HeadNt
import PySem.Challenge.RW_passahead_k81_whole_tables_written_and_r
set_option Elab.async false
set_option linter.all false
set_option maxRecDepth 100000
section
set_option maxHeartbeats 200000
/-! Ev: values, programs as small terms, and what they evaluate to: plain Lean, no heap. -/
namespace Pah
open PySem

/-- a value; ref: an object that is changed in place, by its number -/
inductive D where
  | non | bl (b : Bool) | int (i : Int) | str (s : Str) | tup (ds : List D) | lst (ds : List D) | dic (ks vs : List D) | ref (i : Nat) | fn (x : Str)
  /-- the exception that is handled, of the class c, at a -/
  | exc (c : Str) (a : Nat)
  /-- a dict with texts as keys, that stays as it is -/
  | sd (ks : List Str) (vs : List D)
  deriving Inhabited

mutual
def D.py : D → PyData
  | .non => .none
  | .bl b => .bool b
  | .int i => .int i
  | .str s => .str s
  | .tup ds => .tuple (pys ds)
  | .lst ds => .list (pys ds)
  | .dic _ _ => .dict []
  | .ref _ => .dict []
  | .fn _ => .dict []
  | .exc _ _ => .dict []
  | .sd _ _ => .dict []
def pys : List D → List PyData
  | [] => []
  | d :: ds => D.py d :: pys ds
end
theorem pys_eq : ∀ ds : List D, pys ds = ds.map D.py
  | [] => rfl
  | d :: ds => by rw [pys, pys_eq ds]; rfl

mutual
/-- data through and through, of so few storeys -/
def D.plainN : Nat → D → Bool
  | _, .non => true
  | _, .bl _ => true
  | _, .int _ => true
  | _, .str s => PyData.strOk s
  | 0, .tup _ => false
  | 0, .lst _ => false
  | n + 1, .tup ds => plainsN n ds
  | n + 1, .lst ds => plainsN n ds
  | _, .dic _ _ => false
  | _, .ref _ => false
  | _, .fn _ => false
  | _, .exc _ _ => false
  | _, .sd _ _ => false
def plainsN : Nat → List D → Bool
  | _, [] => true
  | n, d :: ds => D.plainN n d && plainsN n ds
end
def D.plain (d : D) : Bool := D.plainN 20 d
def plains (ds : List D) : Bool := plainsN 20 ds

def eqD (a b : D) : Bool := PyData.eqv a.py b.py

mutual
/-- as a key of a dict -/
def D.nk : D → NestedKey
  | .bl b => .num (if b = true then 1 else 0)
  | .int i => .num i
  | .str s => .text s
  | .tup ds => .tup (nks ds)
  | _ => .none
def nks : List D → List NestedKey
  | [] => []
  | d :: ds => D.nk d :: nks ds
end
mutual
/-- a key: of such items, of so few storeys -/
def D.keyN : Nat → D → Bool
  | _, .non => true
  | _, .bl _ => true
  | _, .int _ => true
  | _, .str _ => true
  | n + 1, .tup ds => keysN n ds
  | _, _ => false
def keysN : Nat → List D → Bool
  | _, [] => true
  | n, d :: ds => D.keyN n d && keysN n ds
end
mutual
/-- no bools within -/
def D.nb : D → Bool
  | .non => true
  | .int _ => true
  | .str _ => true
  | .tup ds => nbs ds
  | _ => false
def nbs : List D → Bool
  | [] => true
  | d :: ds => D.nb d && nbs ds
end
/-- a tuple that can be a key -/
def D.key : D → Bool
  | .tup ds => D.keyN 8 (.tup ds)
  | _ => false

def lim : Nat := 16777216

/-- what an expression gives: a value, or a new list or dict that nobody else has -/
inductive RV where
  | v (d : D) | l (ds : List D) | m (ks vs : List D)
  deriving Inhabited
def RV.d : RV → D
  | .v d => d
  | .l ds => .lst ds
  | .m ks vs => .dic ks vs
abbrev Sl := List (Option RV)
/-- the objects that are changed in place -/
inductive MO where
  | lst (ds : List D) | obj (c : Str) (fs : List (Str × D)) | gone
  deriving Inhabited
abbrev Mm := List MO
structure S where
  env : Sl
  mem : Mm

inductive Out (α : Type) where
  | ok (a : α) (s : S) | exn (c : Str) (p : D) (m : Mm) | stuck
def Out.bind {α β : Type} (x : Out α) (f : α → S → Out β) : Out β := match x with
  | .ok a s => f a s
  | .exn c p m => .exn c p m
  | .stuck => .stuck
@[simp] theorem bind_ok {α β : Type} (a : α) (s : S) (f : α → S → Out β) : (Out.ok a s).bind f = f a s := Eq.trans rfl rfl
@[simp] theorem bind_exn {α β : Type} (c : Str) (p : D) (m : Mm) (f : α → S → Out β) : (Out.exn c p m).bind f = .exn c p m := Eq.trans rfl rfl
@[simp] theorem bind_stuck {α β : Type} (f : α → S → Out β) : (Out.stuck : Out α).bind f = .stuck := Eq.trans rfl rfl
def Out.of {α : Type} (x : Option α) (s : S) : Out α := match x with
  | some a => .ok a s
  | none => .stuck
@[simp] theorem of_some {α : Type} (a : α) (s : S) : Out.of (some a) s = .ok a s := Eq.trans rfl rfl
@[simp] theorem of_none {α : Type} (s : S) : Out.of (none : Option α) s = .stuck := Eq.trans rfl rfl

inductive BOp where
  | add | sub | mul | mod | fdiv | pow
  deriving DecidableEq, Inhabited
inductive COp where
  | eq | ne | lt | le | gt | ge | isin | notin
  deriving DecidableEq, Inhabited
inductive Ty where
  | int | bool | str | tuple | list
  deriving DecidableEq, Inhabited

def rep {α : Type} (n : Nat) (xs : List α) : List α := (List.replicate n xs).flatten

def binop : BOp → D → D → Option RV
  | .add, .int i, .int j => some (.v (.int (i + j)))
  | .add, .str x, .str y => if x.length + y.length ≤ lim then some (.v (.str (x ++ y))) else none
  | .add, .tup x, .tup y => if x.length + y.length ≤ lim then some (.v (.tup (x ++ y))) else none
  | .add, .lst x, .lst y => if x.length + y.length ≤ lim then some (.l (x ++ y)) else none
  | .sub, .int i, .int j => some (.v (.int (i - j)))
  | .mul, .int i, .int j => if (-(2 ^ 64) < i ∧ i < 2 ^ 64) ∨ (-(2 ^ 64) < j ∧ j < 2 ^ 64) then some (.v (.int (i * j))) else none
  | .mul, .tup x, .int j => if 0 ≤ j ∧ j ≤ 1000 ∧ x.length * j.toNat ≤ lim then some (.v (.tup (rep j.toNat x))) else none
  | .mul, .lst x, .int j => if 0 ≤ j ∧ j ≤ 1000 ∧ x.length * j.toNat ≤ lim then some (.l (rep j.toNat x)) else none
  | .mod, .int i, .int j => if 0 < j then some (.v (.int (i % j))) else none
  | .fdiv, .int i, .int j => if 0 < j ∧ j < 2 ^ 200 then some (.v (.int (i / j))) else none
  | .pow, .int i, .int j => if 0 ≤ j ∧ j ≤ 1000000 ∧ i.natAbs < 2 ^ 64 then some (.v (.int (i ^ j.toNat))) else none
  | _, _, _ => none

def hasKey (ks : List D) (k : D) : Bool := (ks.map D.nk).any fun z => decide (z = k.nk)
def lookKey : List D → List D → D → Option D
  | k :: ks, v :: vs, x => if k.nk = x.nk then some v else lookKey ks vs x
  | _, _, _ => none
def putKey : List D → List D → D → D → List D × List D
  | k :: ks, v :: vs, x, y => if k.nk = x.nk then (k :: ks, y :: vs) else let r := putKey ks vs x y; (k :: r.1, v :: r.2)
  | _, _, x, y => ([x], [y])

def isNonD : D → Bool
  | .non => true
  | _ => false
def ltD (a b : D) : Option Bool := if a.plain = true ∧ b.plain = true ∧ W.alike a.py b.py = true ∧ isNonD a = false then some (W.dataLt a.py b.py) else none
def isinD (x : D) : D → Option Bool
  | .tup ds => if x.plain = true ∧ plains ds = true then some (ds.any fun z => eqD z x) else none
  | .lst ds => if x.plain = true ∧ plains ds = true then some (ds.any fun z => eqD z x) else none
  | .str t => match x with
    | .str y => if y.length = 1 then some (decide (y.cps.getD 0 0 ∈ t.cps.toList)) else none
    | _ => none
  | .dic ks _ => if x.key = true then some (hasKey ks x) else none
  | _ => none
def cmpop : COp → D → D → Option Bool
  | .eq, a, b => if a.plain = true ∧ b.plain = true then some (eqD a b) else none
  | .ne, a, b => if a.plain = true ∧ b.plain = true then some (!eqD a b) else none
  | .lt, .int i, .int j => some (decide (i < j))
  | .lt, .tup x, .tup y => ltD (.tup x) (.tup y)
  | .le, .int i, .int j => some (decide (i ≤ j))
  | .gt, .int i, .int j => some (decide (j < i))
  | .ge, .int i, .int j => some (decide (j ≤ i))
  | .isin, a, b => isinD a b
  | .notin, a, b => (isinD a b).map (!·)
  | _, _, _ => none
def isTy : Ty → D → Option Bool
  | _, .ref _ => none
  | _, .fn _ => none
  | _, .exc _ _ => none
  | _, .sd _ _ => none
  | .int, .int _ => some true
  | .int, .bl _ => some true
  | .bool, .bl _ => some true
  | .str, .str _ => some true
  | .tuple, .tup _ => some true
  | .list, .lst _ => some true
  | _, _ => some false

/-- a place, counted from the end where it is below nought -/
abbrev place (n : Nat) (i : Int) : Option Nat := L2.ixN n i
abbrev getAt (ds : List D) (i : Int) : Option D := L2.atI ds i
def cutD {α : Type} (xs : List α) (lo hi : Option Int) : List α := (xs.drop (HT.sIx xs.length 0 lo)).take (HT.sIx xs.length xs.length hi - HT.sIx xs.length 0 lo)
/-- what is changed in place: as it is now -/
def deref (m : Mm) (d : D) : D := match d with
  | .ref j => match m[j]? with
    | some (.lst ds) => .lst ds
    | _ => d
  | _ => d
def idxD : D → D → Option D
  | .tup ds, .int i => getAt ds i
  | .lst ds, .int i => getAt ds i
  | .str t, .int i => if t.length ≤ lim then (L2.atI t.cps.toList i).map fun c => .str ⟨#[c]⟩ else none
  | .dic ks vs, k => if k.key = true then lookKey ks vs k else none
  | _, _ => none
def sliceD (a : D) (lo hi : Option Int) : Option RV := match a with
  | .tup ds => some (.v (.tup (cutD ds lo hi)))
  | .lst ds => some (.l (cutD ds lo hi))
  | .str t => if t.length ≤ lim then some (.v (.str ⟨(cutD t.cps.toList lo hi).toArray⟩)) else none
  | _ => none
def revD (a : D) : Option RV := match a with
  | .lst ds => some (.l ds.reverse)
  | _ => none

def boolsD : List D → Option (List Bool)
  | [] => some []
  | .bl b :: ds => (boolsD ds).map (b :: ·)
  | _ => none
def intsD : List D → Option (List Int)
  | [] => some []
  | .int i :: ds => (intsD ds).map (i :: ·)
  | _ => none
def strsD : List D → Option (List Str)
  | [] => some []
  | .str i :: ds => (strsD ds).map (i :: ·)
  | _ => none
def lenSum (l : List Str) : Nat := (l.map (·.length)).sum

def isTup1 : D → Bool
  | .tup (_ :: _) => true
  | _ => false
def isIntD : D → Bool
  | .int _ => true
  | _ => false
/-- lists that sorted takes: alike items, all tuples with an item at least, or all ints -/
def sortable (ds : List D) : Bool := decide (ds.length ≤ lim) && plains ds && (ds.all fun a => ds.all fun b => W.alike a.py b.py) && (ds.all isTup1 || ds.all isIntD)
def leD (a b : D) : Bool := !W.dataLt b.py a.py
def sortD (ds : List D) : Option (List D) := if sortable ds = true then some (ds.mergeSort leD) else none
/-- lists of which sets are made -/
def setOk (ds : List D) : Bool := decide (ds.length ≤ 300) && (ds.all D.key && ds.all D.nb || ds.all isIntD && decide (ds.length < 64))
def itemsS : D → Option (List D)
  | .tup ds => some ds
  | .lst ds => some ds
  | _ => none
/-- the items, each once -/
def dedupD : List D → List D
  | [] => []
  | d :: ds => if (ds.any fun z => decide (z.nk = d.nk)) = true then dedupD ds else d :: dedupD ds
def itemsD : D → Option (List D)
  | .tup ds => some ds
  | .lst ds => some ds
  | .dic ks _ => some ks
  | .str t => some (t.cps.toList.map fun c => D.str ⟨#[c]⟩)
  | _ => none
/-- .. of a tuple, a list, a dict -/
def itemsQ : D → Option (List D)
  | .tup ds => some ds
  | .lst ds => some ds
  | .dic ks _ => some ks
  | _ => none
/-- of what is not changed in place -/
def itemsV : RV → Option (List D)
  | .v (.tup ds) => some ds
  | .v (.lst ds) => some ds
  | .l ds => some ds
  | .v (.str t) => some (t.cps.toList.map fun c => D.str ⟨#[c]⟩)
  | _ => none
/-- of a list of one's own, or that is changed in place -/
def itemsL (m : Mm) : D → Option (List D)
  | .lst ds => some ds
  | .ref j => match m[j]? with
    | some (.lst ds) => some ds
    | _ => none
  | _ => none
inductive BI where
  | len | all | any | sum | list | tuple | sorted | sortedset | int | max | min | listrange | dict
  deriving DecidableEq, Inhabited
def allOk (d : D) : Bool := match d with
  | .int _ => true
  | .tup _ => true
  | _ => false
def lenD : D → Option Nat
  | .str t => if t.length ≤ lim then some t.length else none
  | .dic ks _ => some ks.length
  | d => (itemsD d).map (·.length)
/-- pairs of a text and a value -/
def pairsS : List D → Option (List Str × List D)
  | [] => some ([], [])
  | .tup [.str k, v] :: r => (pairsS r).map fun p => (k :: p.1, v :: p.2)
  | _ => none
def lookS : List Str → List D → Str → Option D
  | k :: ks, v :: vs, x => if k = x then some v else lookS ks vs x
  | _, _, _ => none
def biD : BI → List D → Option RV
  | .len, [d] => (lenD d).map fun (n : Nat) => .v (.int (n : Int))
  | .all, [.lst ds] => (boolsD ds).map fun l => .v (.bl (l.all id))
  | .any, [.lst ds] => (boolsD ds).map fun l => .v (.bl (l.any id))
  | .sum, [.lst ds] => (intsD ds).map fun l => .v (.int l.sum)
  | .list, [.lst ds] => some (.l ds)
  | .list, [.tup ds] => some (.l ds)
  | .tuple, [.lst ds] => some (.v (.tup ds))
  | .tuple, [.tup ds] => some (.v (.tup ds))
  | .sorted, [d] => (itemsQ d).bind fun l => (sortD l).map fun l => .l l
  | .sortedset, [d] => (itemsS d).bind fun l => if setOk l = true then (sortD (dedupD l)).map fun l => .l l else none
  | .int, [.int i] => some (.v (.int i))
  | .int, [.bl b] => some (.v (.int (if b = true then 1 else 0)))
  | .max, [.int i, .int j] => some (.v (.int (if j > i then j else i)))
  | .min, [.int i, .int j] => some (.v (.int (if j < i then j else i)))
  | .dict, [.lst ds] => (pairsS ds).bind fun p => if p.1.Nodup then some (.v (.sd p.1 p.2)) else none
  | .listrange, [.int j] => if 0 ≤ j ∧ j ≤ (lim : Nat) then some (.l ((List.range j.toNat).map fun i => D.int (i : Nat))) else none
  | _, _ => none
inductive Mth where
  | index | count | join | split
  deriving DecidableEq, Inhabited
def findIx : List D → D → Nat → Option Nat
  | [], _, _ => none
  | z :: zs, d, n => if eqD z d = true then some n else findIx zs d (n + 1)
def mthD : Mth → D → D → Option RV
  | .index, .tup ds, d => if plains ds = true ∧ d.plain = true then (findIx ds d 0).map fun n => .v (.int (n : Nat)) else none
  | .index, .lst ds, d => if plains ds = true ∧ d.plain = true then (findIx ds d 0).map fun n => .v (.int (n : Nat)) else none
  | .join, .str sep, .lst ds => (strsD ds).bind fun l => if lenSum l + l.length * sep.length ≤ lim then some (.v (.str (Str.join sep l))) else none
  | .split, .str a, .str b => if b.length ≠ 0 ∧ a.length + 2 ≤ lim then some (.l ((Txt.split a b).map .str)) else none
  | .count, .lst ds, d => if plains ds = true ∧ d.plain = true then some (.v (.int ((ds.filter fun z => eqD z d).length : Nat))) else none
  | _, _, _ => none

/-! ### terms -/
inductive Tg where
  | nm (i : Nat) | nil | cons (t : Tg) (r : Tg)
mutual
inductive Ex where
  | var (i : Nat) | int (i : Int) | str (s : Str) | bl (b : Bool) | non | gl (x : Str)
  | tup (es : Exs) | lst (es : Exs) | lstM (es : Exs) | dic0 | dic1 (k v : Ex)
  | bin (op : BOp) (a b : Ex) | neg (a : Ex)
  | cmp (op : COp) (a b : Ex) | cmp2 (o1 o2 : COp) (a b c : Ex)
  | isnon (neg : Bool) (a : Ex) | isbl (neg : Bool) (b : Bool) (a : Ex)
  | and (a b : Ex) | or (a b : Ex) | not (a : Ex) | ite (c a b : Ex)
  | isty (t : Ty) (a : Ex)
  | call (f : Str) (es : Exs) | callV (i : Nat) (es : Exs)
  | bi (f : BI) (es : Exs) | mth (f : Mth) (o a : Ex) | pop (i : Nat)
  | idx (a i : Ex) | slice (a lo hi : Ex) | no | rev (a : Ex)
  | isx (c : Str) (a : Ex) | refd (a : Ex)
  | upper (a : Ex) | get (i : Nat) (k : Ex)
  | fld (c : Str) (a : Ex) (f : Str) | prop (c : Str) (a : Ex) (f : Str) | cm (c m : Str) (a : Ex) | mkS (c : Str) (a : Ex) | mkV (c : Str) (i : Nat) (a : Ex)
  | comp (elt : Ex) (tg : Tg) (it : Itx) (cond : Ex)
  | comp2 (elt : Ex) (tg : Tg) (it : Itx) (tg2 : Tg) (it2 : Itx) (cond : Ex)
inductive Exs where
  | nil | cons (e : Ex) (es : Exs)
inductive Itx where
  | e (a : Ex) | el (a : Ex) | live (i : Nat) | range1 (a : Ex) | range2 (a b : Ex) | enum (a : Ex) | zip (a b : Ex)
end
mutual
inductive Sm where
  | expr (e : Ex) | asg (t : Tg) (e : Ex) | par (ts : Tg) (es : Exs) | set (i : Nat) (k v : Ex) | app (i : Nat) (e : Ex) | appAt (o e : Ex)
  | ite (c : Ex) (a b : Sms) | for (t : Tg) (it : Itx) (b : Sms) | while (c : Ex) (b : Sms)
  | ret (e : Ex) | retN | raise (c : Str) | pass
  | tryr (b : Sms) | setF (c : Str) (o : Ex) (f : Str) (e : Ex)
inductive Sms where
  | nil | cons (s : Sm) (r : Sms)
end

/-! ### evaluation -/
def wipe (vs : List Nat) (env : Sl) : Sl := vs.foldl (fun e i => e.set i none) env
/-- what a slot told that is everybody's -/
def keptR : Option RV → Option RV
  | some (.v d) => some (.v d)
  | _ => none
/-- the slots of vs as they were -/
def back (vs : List Nat) (old env : Sl) : Sl := vs.foldl (fun e i => e.set i (keptR (old.getD i none))) env
def Tg.vars : Tg → List Nat
  | .nm i => [i]
  | .nil => []
  | .cons t r => t.vars ++ r.vars
/-- into a target -/
def asgT : Tg → RV → Sl → Option Sl
  | .nm i, r, env => if i < env.length then some (env.set i (some r)) else none
  | .nil, .v (.tup []), env => some env
  | .cons t r, .v (.tup (d :: ds)), env => (asgT t (.v d) env).bind fun env => asgT r (.v (.tup ds)) env
  | _, _, _ => none
def asgN : Tg → List RV → Sl → Option Sl
  | .nil, [], env => some env
  | .cons (.nm i) r, x :: xs, env => if i < env.length then asgN r xs (env.set i (some x)) else none
  | _, _, _ => none

/-- what calls of defs give, and the module's constants -/
structure Phi where
  call : Str → List D → Mm → Out RV
  con : Str → Option D
/-- a name: what it holds is the reader's, too, from now on -/
def readV (i : Nat) (s : S) : Out RV := match s.env[i]? with
  | some (some (.v d)) => .ok (.v d) s
  | some (some r) => .ok (.v r.d) { s with env := s.env.set i (some (.v r.d)) }
  | _ => .stuck
/-- .. only looked at -/
def lookV (i : Nat) (s : S) : Out D := match s.env[i]? with
  | some (some r) => .ok r.d s
  | _ => .stuck

def asBool (d : RV) (s : S) : Out Bool := match d with
  | .v (.bl b) => .ok b s
  | _ => .stuck
def optInt : D → Option (Option Int)
  | .int i => some (some i)
  | _ => none
/-- a bound of a slice -/
def evO (e : Ex) (r : S → Out RV) (s : S) : Out (Option Int) := match e with
  | .no => .ok none s
  | _ => (r s).bind fun x s => Out.of (optInt x.d) s
def isNo : Ex → Bool
  | .no => true
  | _ => false
def rangeD (lo hi : Int) : Option (List D) := if -(2 ^ 62) ≤ lo ∧ lo < 2 ^ 62 ∧ -(2 ^ 62) ≤ hi ∧ hi < 2 ^ 62 then some ((List.range (hi - lo).toNat).map fun i => D.int (lo + (i : Nat))) else none
def enumD (n : Nat) : List D → List D
  | [] => []
  | d :: ds => .tup [.int (n : Nat), d] :: enumD (n + 1) ds
def zipD : List D → List D → List D
  | a :: as, b :: bs => .tup [a, b] :: zipD as bs
  | _, _ => []
def callOut (x : Out RV) (env : Sl) : Out RV := match x with
  | .ok d s => .ok d { env, mem := s.mem }
  | .exn c p m => .exn c p m
  | .stuck => .stuck
/-- within a comprehension nothing is raised -/
def noexn {α : Type} (x : Out α) : Out α := match x with
  | .exn _ _ _ => .stuck
  | y => y
/-- what a comprehension walks that is changed in place is out of reach within -/
def lockS (it : Itx) (s : S) : S := match it with
  | .live i => match s.env[i]? with
    | some (some (.v (.ref j))) => { s with mem := s.mem.set j .gone }
    | _ => { s with env := s.env.set i none }
  | _ => s
def unlockS (it : Itx) (s0 s : S) : S := match it with
  | .live i => match s0.env[i]? with
    | some (some (.v (.ref j))) => { s with mem := s.mem.set j (s0.mem.getD j .gone) }
    | some (some x) => { s with env := s.env.set i (some x) }
    | _ => s
  | _ => s
/-- one turn after another; vs: the comprehension's own names -/
def loopC (vs : List Nat) (tg : Tg) (cond : S → Out Bool) (elt : S → Out (List D)) : List D → S → Out (List D)
  | [], s => .ok [] s
  | d :: ds, s => match asgT tg (.v d) (wipe vs s.env) with
    | none => .stuck
    | some env => (noexn (cond { env, mem := s.mem })).bind fun b s => if b = true then (noexn (elt s)).bind fun xs s => (loopC vs tg cond elt ds s).bind fun ys s => if xs.length + ys.length ≤ lim then .ok (xs ++ ys) s else .stuck else loopC vs tg cond elt ds s

/-- the word of an error's class -/
def errW (c : Str) : Option Str := ([("InvalidNet", "net"), ("InvalidTable", "table"), ("InvalidRun", "run"), ("InvalidClaim", "claim"), ("InvalidOutcome", "outcome"), ("InvalidChain", "chain"), ("InvalidRow", "row"), ("InvalidPlace", "place"), ("InvalidIndex", "index"), ("InvalidMove", "move"), ("InvalidText", "text"), ("NothingToUndo", "undo")] : List (Str × Str)).lookup c
/-- whether an error of the class c is one of the class C -/
def exsub (c C : Str) : Bool := decide (c = C) || decide (C = "PassError") || decide (C = "ValueError")
/-- looked at alone -/
def asB (e : Ex) (r : S → Out RV) (s : S) : Out D := match e with
  | .var i => lookV i s
  | _ => (r s).bind fun x s => .ok x.d s
/-- two of them: a name is looked at behind both -/
def asB2 (a b : Ex) (ra rb : S → Out RV) (s : S) : Out (D × D) := match a with
  | .var i => (lookV i s).bind fun _ s => (asB b rb s).bind fun y s => (lookV i s).bind fun x s => .ok (x, y) s
  | _ => (ra s).bind fun x s => (asB b rb s).bind fun y s => .ok (x.d, y) s
def asS (a : Ex) (ra : S → Out RV) (rb rc : S → Out (Option Int)) (s : S) : Out (D × Option Int × Option Int) := match a with
  | .var i => (lookV i s).bind fun _ s => (rb s).bind fun y s => (rc s).bind fun z s => (lookV i s).bind fun x s => .ok (x, y, z) s
  | _ => (ra s).bind fun x s => (rb s).bind fun y s => (rc s).bind fun z s => .ok (x.d, y, z) s
/-- what kind of value -/
def kd : D → Nat
  | .non => 0
  | .bl _ => 1
  | .int _ => 2
  | .str _ => 3
  | .tup _ => 4
  | .lst _ => 5
  | .dic _ _ => 6
  | .ref _ => 7
  | .fn _ => 8
  | .exc _ _ => 9
  | .sd _ _ => 10
/-- methods that are served -/
def mok : Mth → D → Bool
  | .index, .lst _ => true
  | .index, .tup _ => true
  | .join, .str _ => true
  | .split, .str _ => true
  | _, _ => false
/-- a receiver and an argument -/
def asM (f : Mth) (a b : Ex) (ra rb : S → Out RV) (s : S) : Out (D × D) := match a with
  | .var i => (lookV i s).bind fun x0 s => if mok f x0 = true then (asB b rb s).bind fun y s => (lookV i s).bind fun x s => if kd x0 = kd x then .ok (x, y) s else .stuck else .stuck
  | _ => (ra s).bind fun x s => if mok f x.d = true then (asB b rb s).bind fun y s => .ok (x.d, y) s else .stuck
/-- the fields of what stands there -/
def fldsO (c : Str) (d : D) (m : Mm) : Option (List (Str × D)) := match d with
  | .ref j => match m[j]? with
    | some (.obj c' fs) => if c' = c then some fs else none
    | _ => none
  | _ => none
def putFd : List (Str × D) → Str → D → List (Str × D)
  | [], f, d => [(f, d)]
  | (g, x) :: r, f, d => if g = f then (g, d) :: r else (g, x) :: putFd r f d
/-- a new object of the class c, and its __init__ -/
def mkO (Φ : Phi) (c : Str) (ds : List D) (s : S) : Out RV := match Φ.call (c ++ ".__init__") (.ref s.mem.length :: ds) (s.mem ++ [.obj c []]) with
  | .ok (.v .non) s2 => .ok (.v (.ref s.mem.length)) ⟨s.env, s2.mem⟩
  | .exn c p m => .exn c p m
  | _ => .stuck
/-- what a star hands over -/
def starD : D → Option (List D)
  | .tup ds => some ds
  | .lst ds => some ds
  | _ => none
mutual
def evE (Φ : Phi) : Ex → S → Out RV
  | .var i, s => readV i s
  | .int i, s => .ok (.v (.int i)) s
  | .str x, s => .ok (.v (.str x)) s
  | .bl b, s => .ok (.v (.bl b)) s
  | .non, s => .ok (.v .non) s
  | .no, s => .ok (.v .non) s
  | .gl x, s => Out.of ((Φ.con x).map RV.v) s
  | .tup es, s => (evEs Φ es s).bind fun ds s => if ds.length ≤ lim then .ok (.v (.tup ds)) s else .stuck
  | .lst es, s => (evEs Φ es s).bind fun ds s => if ds.length ≤ lim then .ok (.l ds) s else .stuck
  | .lstM es, s => (evEs Φ es s).bind fun ds s => if ds.length ≤ lim then .ok (.v (.ref s.mem.length)) { s with mem := s.mem ++ [.lst ds] } else .stuck
  | .dic0, s => .ok (.m [] []) s
  | .dic1 k v, s => (evE Φ k s).bind fun x s => (evE Φ v s).bind fun y s => if x.d.key = true then .ok (.m [x.d] [y.d]) s else .stuck
  | .bin op a b, s => (asB2 a b (evE Φ a) (evE Φ b) s).bind fun xy s => Out.of (binop op xy.1 xy.2) s
  | .neg a, s => (evE Φ a s).bind fun x s => match x with
    | .v (.int i) => .ok (.v (.int (-i))) s
    | _ => .stuck
  | .cmp op a b, s => (asB2 a b (evE Φ a) (evE Φ b) s).bind fun xy s => Out.of ((cmpop op xy.1 xy.2).map fun b => .v (.bl b)) s
  | .cmp2 o1 o2 a b c, s => (evE Φ a s).bind fun x s => (evE Φ b s).bind fun y s => match x, y with
    | .v (.int i), .v (.int j) => (Out.of (cmpop o1 (.int i) (.int j)) s).bind fun t s => if t = true then (evE Φ c s).bind fun z s => match z with
        | .v (.int k) => Out.of ((cmpop o2 (.int j) (.int k)).map fun b => .v (.bl b)) s
        | _ => .stuck
      else .ok (.v (.bl false)) s
    | _, _ => .stuck
  | .isnon ng a, s => (asB a (evE Φ a) s).bind fun x s => match x with
    | .non => .ok (.v (.bl (!ng))) s
    | _ => .ok (.v (.bl ng)) s
  | .isbl ng b a, s => (asB a (evE Φ a) s).bind fun x s => match x with
    | .bl c => .ok (.v (.bl (ng != (b == c)))) s
    | .fn _ => .stuck
    | _ => .ok (.v (.bl ng)) s
  | .and a b, s => (evE Φ a s).bind fun x s => (asBool x s).bind fun t s => if t = true then evE Φ b s else .ok (.v (.bl false)) s
  | .or a b, s => (evE Φ a s).bind fun x s => (asBool x s).bind fun t s => if t = true then .ok (.v (.bl true)) s else evE Φ b s
  | .not a, s => (evE Φ a s).bind fun x s => (asBool x s).bind fun t s => .ok (.v (.bl (!t))) s
  | .ite c a b, s => (evE Φ c s).bind fun x s => (asBool x s).bind fun t s => if t = true then evE Φ a s else evE Φ b s
  | .isty t a, s => (asB a (evE Φ a) s).bind fun x s => Out.of ((isTy t x).map fun b => .v (.bl b)) s
  | .call f es, s => (evEs Φ es s).bind fun ds s => callOut (Φ.call f ds s.mem) s.env
  | .callV i es, s => (lookV i s).bind fun f s => match f with
    | .fn f => (evEs Φ es s).bind fun ds s => callOut (Φ.call f ds s.mem) s.env
    | _ => .stuck
  | .bi f es, s => (evBs Φ es s).bind fun ds s => Out.of (biD f (ds.map (deref s.mem))) s
  | .mth f o a, s => (asM f o a (evE Φ o) (evE Φ a) s).bind fun xy s => Out.of (mthD f xy.1 xy.2) s
  | .pop i, s => match s.env[i]? with
    | some (some (.l ds)) => match ds.getLast? with
      | some d => .ok (.v d) { s with env := s.env.set i (some (.l ds.dropLast)) }
      | none => .stuck
    | _ => .stuck
  | .idx a i, s => (asB2 a i (evE Φ a) (evE Φ i) s).bind fun xy s => Out.of ((idxD (deref s.mem xy.1) xy.2).map .v) s
  | .slice a lo hi, s => (asS a (evE Φ a) (evO lo (evE Φ lo)) (evO hi (evE Φ hi)) s).bind fun t s => Out.of (sliceD t.1 t.2.1 t.2.2) s
  | .rev a, s => (asB a (evE Φ a) s).bind fun x s => Out.of (revD x) s
  | .isx C a, s => (asB a (evE Φ a) s).bind fun x s => match x, Φ.con "%e" with
    | .exc c b, some (.exc c' b') => if c = c' ∧ b = b' then .ok (.v (.bl (exsub c C))) s else .stuck
    | _, _ => .stuck
  | .refd a, s => match evE Φ a s with
    | .ok _ s' => .ok (.v (.str "")) s'
    | .exn c .non m => match errW c with
      | some w => .ok (.v (.str w)) ⟨s.env.map keptR, m⟩
      | none => .stuck
    | _ => .stuck
  | .upper a, s => (evE Φ a s).bind fun x s => match x with
    | .v (.str t) => if t.length ≤ 5592405 then .ok (.v (.str (Txt.upper t))) s else .stuck
    | _ => .stuck
  | .get i k, s => (lookV i s).bind fun x s => match x with
    | .sd ks vs => (evE Φ k s).bind fun y s => match y with
      | .v (.str t) => .ok (.v ((lookS ks vs t).getD .non)) s
      | _ => .stuck
    | _ => .stuck
  | .fld c a f, s => (evE Φ a s).bind fun x s => Out.of ((fldsO c x.d s.mem).bind fun fs => (fs.lookup f).map RV.v) s
  | .prop c a f, s => (evE Φ a s).bind fun x s => match fldsO c x.d s.mem with
    | some _ => noexn (callOut (Φ.call (c ++ "." ++ f) [x.d] s.mem) s.env)
    | none => .stuck
  | .cm c m a, s => (evE Φ a s).bind fun x s => callOut (Φ.call (c ++ "." ++ m) [.fn c, x.d] s.mem) s.env
  | .mkS c a, s => (asB a (evE Φ a) s).bind fun x s => match starD x with
    | some ds => if ds.length ≤ lim then mkO Φ c [.tup ds] s else .stuck
    | none => .stuck
  | .mkV c i a, s => (lookV i s).bind fun c' s => match c' with
    | .fn c' => if c' = c then (asB a (evE Φ a) s).bind fun x s => match starD x with
      | some ds => if ds.length ≤ lim then mkO Φ c [.tup ds] s else .stuck
      | none => .stuck
      else .stuck
    | _ => .stuck
  | .comp elt tg it cond, s => (evIt Φ it s).bind fun ds s0 => (loopC tg.vars tg (fun s => (evE Φ cond s).bind asBool) (fun s => (evE Φ elt s).bind fun x s => .ok [x.d] s) ds (lockS it s0)).bind fun xs s => .ok (.l xs) (unlockS it s0 { s with env := back tg.vars s0.env s.env })
  | .comp2 elt tg it tg2 it2 cond, s => (evIt Φ it s).bind fun ds s0 => (loopC (tg.vars ++ tg2.vars) tg (fun s => .ok true s)
      (fun s => (evIt Φ it2 s).bind fun ds s => loopC tg2.vars tg2 (fun s => (evE Φ cond s).bind asBool) (fun s => (evE Φ elt s).bind fun x s => .ok [x.d] s) ds s) ds s0).bind fun xs s => .ok (.l xs) { s with env := back (tg.vars ++ tg2.vars) s0.env s.env }
def evEs (Φ : Phi) : Exs → S → Out (List D)
  | .nil, s => .ok [] s
  | .cons e es, s => (evE Φ e s).bind fun x s => (evEs Φ es s).bind fun xs s => .ok (x.d :: xs) s
def evBs (Φ : Phi) : Exs → S → Out (List D)
  | .nil, s => .ok [] s
  | .cons e .nil, s => (asB e (evE Φ e) s).bind fun x s => .ok [x] s
  | .cons e es, s => (evE Φ e s).bind fun x s => (evEs Φ es s).bind fun xs s => .ok (x.d :: xs) s
def evIt (Φ : Phi) : Itx → S → Out (List D)
  | .e a, s => (evE Φ a s).bind fun x s => Out.of (itemsV x) s
  | .el a, s => (evE Φ a s).bind fun x s => match x.d with
    | .lst ds => .ok ds s
    | _ => .stuck
  | .live i, s => (lookV i s).bind fun x s => Out.of (itemsL s.mem x) s
  | .range1 a, s => (evE Φ a s).bind fun x s => match x with
    | .v (.int j) => Out.of (rangeD 0 j) s
    | _ => .stuck
  | .range2 a b, s => (evE Φ a s).bind fun x s => (evE Φ b s).bind fun y s => match x, y with
    | .v (.int i), .v (.int j) => Out.of (rangeD i j) s
    | _, _ => .stuck
  | .enum a, s => (evE Φ a s).bind fun x s => match x.d with
    | .lst ds => .ok (enumD 0 ds) s
    | _ => .stuck
  | .zip a b, s => (evE Φ a s).bind fun x s => (evE Φ b s).bind fun y s => match x.d, y.d with
    | .tup xs, .tup ys => .ok (zipD xs ys) s
    | .lst xs, .lst ys => .ok (zipD xs ys) s
    | _, _ => .stuck
end

inductive Fl where
  | next | ret (r : RV)
def loopF (tg : Tg) (body : S → Out Fl) : List D → S → Out Fl
  | [], s => .ok .next s
  | d :: ds, s => match asgT tg (.v d) s.env with
    | none => .stuck
    | some env => (body { s with env := env }).bind fun f s => match f with
      | .next => loopF tg body ds s
      | .ret r => .ok (.ret r) s
def loopW (cond : S → Out Bool) (body : S → Out Fl) : Nat → S → Out Fl
  | 0, _ => .stuck
  | n + 1, s => (cond s).bind fun b s => if b = true then (body s).bind fun f s => match f with
      | .next => loopW cond body n s
      | .ret r => .ok (.ret r) s
    else .ok .next s
def wf : Nat := 1099511627776
/-- a name that is handed back goes with all that it holds -/
def retV (e : Ex) (r : S → Out RV) (s : S) : Out RV := match e with
  | .var i => match s.env[i]? with
    | some (some x) => .ok x s
    | _ => .stuck
  | _ => r s
def setAtD (i : Nat) (k v : D) (s : S) : Out Fl := match s.env[i]?, k with
  | some (some (.l ds)), .int j => match place ds.length j with
    | some p => .ok .next { s with env := s.env.set i (some (.l (ds.set p v))) }
    | none => .stuck
  | some (some (.v (.ref a))), .int j => match s.mem[a]? with
    | some (.lst ds) => match place ds.length j with
      | some p => .ok .next { s with mem := s.mem.set a (.lst (ds.set p v)) }
      | none => .stuck
    | _ => .stuck
  | some (some (.m ks vs)), k => if k.key = true ∧ ks.length < lim then let r := putKey ks vs k v; .ok .next { s with env := s.env.set i (some (.m r.1 r.2)) } else .stuck
  | _, _ => .stuck
def appM (o : D) (v : D) (s : S) : Out Fl := match o with
  | .ref a => match s.mem[a]? with
    | some (.lst ds) => if ds.length < lim then .ok .next { s with mem := s.mem.set a (.lst (ds ++ [v])) } else .stuck
    | _ => .stuck
  | _ => .stuck
def appD (i : Nat) (v : D) (s : S) : Out Fl := match s.env[i]? with
  | some (some (.l ds)) => if ds.length < lim then .ok .next { s with env := s.env.set i (some (.l (ds ++ [v]))) } else .stuck
  | some (some (.v o)) => appM o v s
  | _ => .stuck
/-- it is a list that can grow -/
def lookL (i : Nat) (s : S) : Out Unit := match s.env[i]? with
  | some (some (.l _)) => .ok () s
  | some (some (.v (.ref j))) => match s.mem[j]? with
    | some (.lst _) => .ok () s
    | _ => .stuck
  | _ => .stuck
def hasS (i : Nat) (s : S) : Out Unit := match s.env[i]? with
  | some (some _) => .ok () s
  | _ => .stuck
def evRs (Φ : Phi) : Exs → S → Out (List RV)
  | .nil, s => .ok [] s
  | .cons e es, s => (evE Φ e s).bind fun x s => (evRs Φ es s).bind fun xs s => .ok (x :: xs) s
mutual
def evS (Φ : Phi) : Sm → S → Out Fl
  | .expr e, s => (evE Φ e s).bind fun _ s => .ok .next s
  | .asg t e, s => (evE Φ e s).bind fun x s => match asgT t x s.env with
    | some env => .ok .next { s with env := env }
    | none => .stuck
  | .par t es, s => (evRs Φ es s).bind fun xs s => match asgN t xs s.env with
    | some env => .ok .next { s with env := env }
    | none => .stuck
  | .set i k v, s => (evE Φ v s).bind fun y s => (hasS i s).bind fun _ s => (evE Φ k s).bind fun x s => setAtD i x.d y.d s
  | .app i e, s => (lookL i s).bind fun _ s => (evE Φ e s).bind fun y s => appD i y.d s
  | .appAt o e, s => (evE Φ o s).bind fun x s => (evE Φ e s).bind fun y s => appM x.d y.d s
  | .ite c a b, s => (evE Φ c s).bind fun x s => (asBool x s).bind fun t s => if t = true then evSs Φ a s else evSs Φ b s
  | .for t it b, s => (evIt Φ it s).bind fun ds s => loopF t (evSs Φ b) ds s
  | .while c b, s => loopW (fun s => (evE Φ c s).bind asBool) (evSs Φ b) wf s
  | .ret e, s => (retV e (evE Φ e) s).bind fun x s => .ok (.ret x) s
  | .retN, s => .ok (.ret (.v .non)) s
  | .raise c, s => .exn c .non s.mem
  | .pass, s => .ok .next s
  | .tryr b, s => match evSs Φ b s with
    | .ok f s' => .ok f s'
    | .exn c .non m => match errW c with
      | some w => .ok (.ret (.v (.str w))) ⟨s.env.map keptR, m⟩
      | none => .stuck
    | _ => .stuck
  | .setF c o f e, s => (evE Φ e s).bind fun y s => (evE Φ o s).bind fun x s => match x.d with
    | .ref j => match s.mem[j]? with
      | some (.obj c' fs) => if c' = c ∧ fs.length < 900 then .ok .next { s with mem := s.mem.set j (.obj c (putFd fs f y.d)) } else .stuck
      | _ => .stuck
    | _ => .stuck
def evSs (Φ : Phi) : Sms → S → Out Fl
  | .nil, s => .ok .next s
  | .cons a r, s => (evS Φ a s).bind fun f s => match f with
    | .next => evSs Φ r s
    | .ret x => .ok (.ret x) s
end
/-- a def: its parameters, its names, its body -/
structure Fn where
  np : Nat
  ns : Nat
  body : Sms
def Fl.rv : Fl → RV
  | .next => .v .non
  | .ret r => r
def callF (G : Str → Option Fn) (C : Str → Option D) : Nat → Str → List D → Mm → Out RV
  | 0, _, _, _ => .stuck
  | n + 1, f, ds, m => match G f with
    | some F => if ds.length = F.np then (evSs ⟨callF G C n, C⟩ F.body ⟨ds.map (fun d => some (RV.v d)) ++ List.replicate (F.ns - F.np) none, m⟩).bind fun f s => .ok f.rv s else .stuck
    | none => .stuck
end Pah
end
section
set_option maxHeartbeats 200000
/-! Rel: how a value of Ev lies in the layer's heap; how a state does. -/
namespace Pah
open PySem L2

/-- what is known besides: the part of the heap that stays as it is from now on, and where the objects stand that are changed in place -/
structure Gh where
  I : Hp
  ρ : List Addr
structure Gh.Le (G G' : Gh) : Prop where
  I : ∀ a o, G.I a = some o → G'.I a = some o
  ρ : ∃ r, G'.ρ = G.ρ ++ r
theorem Gh.Le.rfl {G : Gh} : G.Le G := ⟨fun _ _ h => h, [], by simp⟩
theorem Gh.Le.trans {A B C : Gh} (x : A.Le B) (y : B.Le C) : A.Le C := ⟨fun a o h => y.I a o (x.I a o h), by
  obtain ⟨r, e⟩ := x.ρ
  obtain ⟨q, f⟩ := y.ρ
  exact ⟨r ++ q, by rw [f, e, List.append_assoc]⟩⟩
theorem Gh.Le.at {G G' : Gh} (l : G.Le G') {i : Nat} {a : Addr} (h : G.ρ[i]? = some a) : G'.ρ[i]? = some a := by
  obtain ⟨r, e⟩ := l.ρ
  rw [e, List.getElem?_append_left (List.getElem?_eq_some_iff.mp h).1]
  exact h

/-- a dict with tuple keys, by its entries -/
def DicO (P : Program) (w : World) (a : Addr) (xs : List (NestedKey × Addr × Value)) : HO := .ext fun h => (a == sysModules) = false ∧ xs.length ≤ sizeLine ∧
  ∃ o es ep, h.get? a = some o ∧ o.ExactDict ∧ o.data = .dict es ep ∧ es.toList = xs.map (entryOfKey (nestedKind P w)) ∧ (xs.map (·.1)).Nodup

/-- a tuple whose object is known: it has no dict -/
def TupN (K : PySem.W.Frag) (H : Hp) (a : Addr) (xs : List V) : Prop := (∃ o : Obj, H a = some (.frz o (.tup xs)) ∧ o.dict = none) ∨
  ∃ (o : Obj) (us : Array Value) (n : Nat), K.lookup a = some o ∧ o.cls = .type "tuple" ∧ o.dict = none ∧ o.data = .seq us n ∧ us.size ≤ sizeLine ∧ Vals xs us.toList
theorem TupN.sq {K : PySem.W.Frag} {H : Hp} {a : Addr} {xs : List V} (h : TupN K H a xs) : SqT K H a xs := by
  rcases h with ⟨o, h, _⟩ | ⟨o, us, n, h1, h2, _, h3⟩
  · exact .inl (.inr ⟨o, h⟩)
  · exact .inr ⟨o, us, n, h1, h2, h3⟩
theorem TupN.le {K : PySem.W.Frag} {H H' : Hp} (l : ∀ a o, H a = some o → H' a = some o) {a : Addr} {xs : List V} (h : TupN K H a xs) : TupN K H' a xs := by
  rcases h with ⟨o, h, d⟩ | h
  · exact .inl ⟨o, l _ _ h, d⟩
  · exact .inr h
section
variable (P : Program) (w : World) (K : PySem.W.Frag) (mg : Str → Option Value)
mutual
inductive RD (G : Gh) : V → D → Prop
  | non : RD G .non .non
  | bl (b : Bool) : RD G (.bl b) (.bl b)
  | int (i : Int) : RD G (.int i) (.int i)
  | str (x : Str) : RD G (.str x) (.str x)
  | tup {a : Addr} {xs : List V} {ds : List D} : TupN K G.I a xs → RDs G xs ds → RD G (.ref a) (.tup ds)
  | lst {a : Addr} {xs : List V} {ds : List D} : SqL K G.I a xs → RDs G xs ds → RD G (.ref a) (.lst ds)
  | dic {a : Addr} {xs : List (NestedKey × Addr × Value)} {ks vs : List D} : G.I a = some (DicO P w a xs) → RKs G xs ks vs → RD G (.ref a) (.dic ks vs)
  | ref {a : Addr} {i : Nat} : G.ρ[i]? = some a → RD G (.ref a) (.ref i)
  | fn {a : Addr} {x : Str} : mg x = some (.ref a) → PySem.W.keepIn K (.ref a) = true → RD G (.ref a) (.fn x)
  | exc {a : Addr} {x : Str} : RD G (.ref a) (.exc x a)
  | sd {a : Addr} {kvs : List (L2.Key × V)} {ks : List Str} {vs : List D} : G.I a = some (.dK kvs) → RSs G kvs ks vs → RD G (.ref a) (.sd ks vs)
inductive RDs (G : Gh) : List V → List D → Prop
  | nil : RDs G [] []
  | cons {v : V} {vs : List V} {d : D} {ds : List D} : RD G v d → RDs G vs ds → RDs G (v :: vs) (d :: ds)
inductive RSs (G : Gh) : List (L2.Key × V) → List Str → List D → Prop
  | nil : RSs G [] [] []
  | cons {k : Str} {v : V} {d : D} {xs : List (L2.Key × V)} {ks : List Str} {vs : List D} : RD G v d → RSs G xs ks vs → RSs G ((Sum.inr k, v) :: xs) (k :: ks) (d :: vs)
inductive RKs (G : Gh) : List (NestedKey × Addr × Value) → List D → List D → Prop
  | nil : RKs G [] [] []
  | cons {a : Addr} {u : Value} {v : V} {k d : D} {xs : List (NestedKey × Addr × Value)} {ks vs : List D} : k.key = true → RD G (.ref a) k → RelV v u → RD G v d → RKs G xs ks vs → RKs G ((k.nk, a, u) :: xs) (k :: ks) (d :: vs)
end
end

section
variable {P : Program} {w : World} {K : PySem.W.Frag} {mg : Str → Option Value} {G G' : Gh}
theorem SqT.le {H H' : Hp} (l : ∀ a o, H a = some o → H' a = some o) {a : Addr} {xs : List V} (h : SqT K H a xs) : SqT K H' a xs := by
  rcases h with (h | ⟨o, h⟩) | h
  · exact .inl (.inl (l _ _ h))
  · exact .inl (.inr ⟨o, l _ _ h⟩)
  · exact .inr h
theorem SqL.le {H H' : Hp} (l : ∀ a o, H a = some o → H' a = some o) {a : Addr} {xs : List V} (h : SqL K H a xs) : SqL K H' a xs := by
  rcases h with (h | ⟨o, h⟩) | h
  · exact .inl (.inl (l _ _ h))
  · exact .inl (.inr ⟨o, l _ _ h⟩)
  · exact .inr h
mutual
theorem RD.le (l : G.Le G') : ∀ {v : V} {d : D}, RD P w K mg G v d → RD P w K mg G' v d
  | _, _, .non => .non
  | _, _, .bl b => .bl b
  | _, _, .int i => .int i
  | _, _, .str x => .str x
  | _, _, .tup h r => .tup (TupN.le l.I h) (RDs.le l r)
  | _, _, .lst h r => .lst (SqL.le l.I h) (RDs.le l r)
  | _, _, .dic h r => .dic (l.I _ _ h) (RKs.le l r)
  | _, _, .ref h => .ref (l.at h)
  | _, _, .fn h k => .fn h k
  | _, _, .exc => .exc
  | _, _, .sd h r => .sd (l.I _ _ h) (RSs.le l r)
theorem RDs.le (l : G.Le G') : ∀ {vs : List V} {ds : List D}, RDs P w K mg G vs ds → RDs P w K mg G' vs ds
  | _, _, .nil => .nil
  | _, _, .cons h r => .cons (RD.le l h) (RDs.le l r)
theorem RSs.le (l : G.Le G') : ∀ {xs : List (L2.Key × V)} {ks : List Str} {vs : List D}, RSs P w K mg G xs ks vs → RSs P w K mg G' xs ks vs
  | _, _, _, .nil => .nil
  | _, _, _, .cons a r => .cons (RD.le l a) (RSs.le l r)
theorem RKs.le (l : G.Le G') : ∀ {xs : List (NestedKey × Addr × Value)} {ks vs : List D}, RKs P w K mg G xs ks vs → RKs P w K mg G' xs ks vs
  | _, _, _, .nil => .nil
  | _, _, _, .cons a b c d r => .cons a (RD.le l b) c (RD.le l d) (RKs.le l r)
end
theorem RDs.length : ∀ {vs : List V} {ds : List D}, RDs P w K mg G vs ds → vs.length = ds.length
  | _, _, .nil => rfl
  | _, _, .cons _ r => by simp only [List.length_cons, RDs.length r]
theorem RDs.get : ∀ {vs : List V} {ds : List D} {i : Nat} {d : D}, RDs P w K mg G vs ds → ds[i]? = some d → ∃ v, vs[i]? = some v ∧ RD P w K mg G v d
  | _, _, _, _, .nil, e => by simp at e
  | _, _, 0, _, .cons h _, e => by
    simp only [List.getElem?_cons_zero, Option.some.injEq] at e
    exact ⟨_, rfl, e ▸ h⟩
  | _, _, i + 1, _, .cons _ r, e => by
    simp only [List.getElem?_cons_succ] at e
    obtain ⟨v, h1, h2⟩ := RDs.get r e
    exact ⟨v, by simpa using h1, h2⟩
theorem RDs.get' : ∀ {vs : List V} {ds : List D} {i : Nat} {v : V}, RDs P w K mg G vs ds → vs[i]? = some v → ∃ d, ds[i]? = some d ∧ RD P w K mg G v d
  | _, _, _, _, .nil, e => by simp at e
  | _, _, 0, _, .cons h _, e => by
    simp only [List.getElem?_cons_zero, Option.some.injEq] at e
    exact ⟨_, rfl, e ▸ h⟩
  | _, _, i + 1, _, .cons _ r, e => by
    simp only [List.getElem?_cons_succ] at e
    obtain ⟨v, h1, h2⟩ := RDs.get' r e
    exact ⟨v, by simpa using h1, h2⟩
theorem RDs.append : ∀ {vs us : List V} {ds es : List D}, RDs P w K mg G vs ds → RDs P w K mg G us es → RDs P w K mg G (vs ++ us) (ds ++ es)
  | _, _, _, _, .nil, s => s
  | _, _, _, _, .cons h r, s => .cons h (RDs.append r s)
theorem RDs.take : ∀ {vs : List V} {ds : List D} (n : Nat), RDs P w K mg G vs ds → RDs P w K mg G (vs.take n) (ds.take n)
  | _, _, 0, _ => by simp; exact .nil
  | _, _, _ + 1, .nil => by simp; exact .nil
  | _, _, n + 1, .cons h r => by simp only [List.take_succ_cons]; exact .cons h (RDs.take n r)
theorem RDs.drop : ∀ {vs : List V} {ds : List D} (n : Nat), RDs P w K mg G vs ds → RDs P w K mg G (vs.drop n) (ds.drop n)
  | _, _, 0, r => r
  | _, _, _ + 1, .nil => by simp; exact .nil
  | _, _, n + 1, .cons h r => by simp only [List.drop_succ_cons]; exact RDs.drop n r
theorem RDs.reverse : ∀ {vs : List V} {ds : List D}, RDs P w K mg G vs ds → RDs P w K mg G vs.reverse ds.reverse
  | _, _, .nil => .nil
  | _, _, .cons h r => by simp only [List.reverse_cons]; exact RDs.append (RDs.reverse r) (.cons h .nil)
theorem RDs.set : ∀ {vs : List V} {ds : List D} {v : V} {d : D} (i : Nat), RDs P w K mg G vs ds → RD P w K mg G v d → RDs P w K mg G (vs.set i v) (ds.set i d)
  | _, _, _, _, _, .nil, _ => .nil
  | _, _, _, _, 0, .cons _ r, q => .cons q r
  | _, _, _, _, i + 1, .cons h r, q => .cons h (RDs.set i r q)
theorem RDs.rep {vs : List V} {ds : List D} (r : RDs P w K mg G vs ds) : ∀ n : Nat, RDs P w K mg G (rep n vs) (rep n ds)
  | 0 => .nil
  | n + 1 => by
    have e : ∀ {α : Type} (xs : List α), Pah.rep (n + 1) xs = xs ++ Pah.rep n xs := fun xs => by simp [Pah.rep, List.replicate_succ]
    rw [e, e]
    exact RDs.append r (RDs.rep r n)
theorem RDs.of {α : Type} (f : α → V) (g : α → D) (h : ∀ x, RD P w K mg G (f x) (g x)) : ∀ l : List α, RDs P w K mg G (l.map f) (l.map g)
  | [] => .nil
  | x :: l => .cons (h x) (RDs.of f g h l)
theorem RDs.ofMem {α : Type} (f : α → V) (g : α → D) : ∀ l : List α, (∀ x ∈ l, RD P w K mg G (f x) (g x)) → RDs P w K mg G (l.map f) (l.map g)
  | [], _ => .nil
  | x :: l, h => .cons (h x List.mem_cons_self) (RDs.ofMem f g l fun y hy => h y (List.mem_cons_of_mem _ hy))

/-! ### what stands in the memory -/
variable (P w K mg) in
inductive RFs (G : Gh) : List (Str × V) → List (Str × D) → Prop
  | nil : RFs G [] []
  | cons {f : Str} {v : V} {d : D} {gs : List (Str × V)} {fs : List (Str × D)} : RD P w K mg G v d → RFs G gs fs → RFs G ((f, v) :: gs) ((f, d) :: fs)
theorem RFs.le (l : G.Le G') : ∀ {gs : List (Str × V)} {fs : List (Str × D)}, RFs P w K mg G gs fs → RFs P w K mg G' gs fs
  | _, _, .nil => .nil
  | _, _, .cons h r => .cons (h.le l) (RFs.le l r)
theorem RFs.look {f : Str} {d : D} : ∀ {gs : List (Str × V)} {fs : List (Str × D)}, RFs P w K mg G gs fs → fs.lookup f = some d → ∃ v, gs.lookup f = some v ∧ RD P w K mg G v d
  | _, _, .nil, e => by cases e
  | _, _, .cons (f := g) h r, e => by
    rw [List.lookup_cons] at e ⊢
    cases hb : f == g with
    | true =>
      rw [hb] at e
      cases e
      exact ⟨_, rfl, h⟩
    | false =>
      rw [hb] at e
      exact RFs.look r e
theorem RFs.length : ∀ {gs : List (Str × V)} {fs : List (Str × D)}, RFs P w K mg G gs fs → gs.length = fs.length
  | _, _, .nil => rfl
  | _, _, .cons _ r => by rw [List.length_cons, List.length_cons, RFs.length r]
variable (P w K mg) in
/-- an object of the memory, as it lies -/
inductive RM (G : Gh) : MO → HO → Prop
  | lst {vs : List V} {ds : List D} : RDs P w K mg G vs ds → RM G (.lst ds) (.lst vs)
  | obj {c : Str} {C dx : Addr} {gs : List (Str × V)} {fs : List (Str × D)} : mg c = some (.ref C) → RFs P w K mg G gs fs → RM G (.obj c fs) (.ins C dx gs)
theorem RM.le (l : G.Le G') {o : MO} {h : HO} (r : RM P w K mg G o h) : RM P w K mg G' o h := by
  cases r with
  | lst r => exact .lst (r.le l)
  | obj e r => exact .obj e (r.le l)
theorem RM.ntbl {o : MO} {h : HO} (r : RM P w K mg G o h) : ∀ ps, h ≠ .tbl ps := by
  cases r <;> exact fun ps z => nomatch z
theorem RM.no {o : MO} {h : HO} (r : RM P w K mg G o h) : o ≠ .gone := by
  cases r <;> exact fun z => nomatch z
/-! ### a state -/
/-- how things lay at an entry -/
structure Ba where
  H0 : Hp
  wr : Addr → Prop
  G0 : Gh
/-- the defs that make lambdas, in any law -/
def lamNames : List Str := ["_law_by_one", "_law_by_two", "_law_refusals", "_law_stands_so", "law"]
/-- their tables of code objects, by what is known of the module -/
def Tk (K : PySem.W.Frag) : List (Addr × Str) := (lamNames.filter fun x => (He.fnW K (x, none)).isSome).map fun x => ((He.cT K (x, none)).2, x ++ ".<locals>.<lambda>")
theorem heap_of (b : Addr) : ∃ h : Heap, h.objs.size = b := by
  induction b with
  | zero => exact ⟨⟨#[], {}⟩, rfl⟩
  | succ n ih =>
    obtain ⟨h, e⟩ := ih
    exact ⟨h.push { cls := .none, data := .plain }, by rw [Heap.size_push, e]⟩
theorem dicO_ne {P : Program} {w : World} {a : Addr} {xs : List (NestedKey × Addr × Value)} {q : Str} : DicO P w a xs ≠ LamX.CodeO a q := fun e => by
  obtain ⟨h, hs⟩ := heap_of a
  unfold DicO LamX.CodeO at e
  have e2 := congrFun (HO.ext.inj e) (h.push { cls := .none, data := .fields #[.none, .str q 0] })
  have g : (h.push { cls := .none, data := .fields #[.none, .str q 0] }).get? a = some { cls := .none, data := .fields #[.none, .str q 0] } := by
    rw [← hs]
    exact Heap.get?_push_size _ rfl
  obtain ⟨_, _, o, es, ep, h1, _, h2, _⟩ := e2.mpr ⟨_, _, 0, g, rfl, rfl⟩
  rw [g] at h1
  cases h1
  cases h2
theorem tabs_upd {T : List (Addr × Str)} {H : Hp} {b : Addr} {o : HO} (t : LamX.Tabs T H) (n1 : ∀ ps, H b ≠ some (.tbl ps)) (n2 : ∀ q, H b ≠ some (LamX.CodeO b q)) : LamX.Tabs T (upd H b o) := fun p hp => by
  obtain ⟨ps, h1, h2, h3⟩ := t p hp
  refine ⟨ps, by rw [upd_ne (show p.1 ≠ b from fun z => n1 ps (by rw [← z]; exact h1))]; exact h1, h2, fun pos cv hc => ?_⟩
  obtain ⟨c, e, h⟩ := h3 pos cv hc
  exact ⟨c, e, by rw [upd_ne (show c ≠ b from fun z => n2 p.2 (by rw [← z]; exact h))]; exact h⟩
theorem tabs_none {T : List (Addr × Str)} {H : Hp} {b : Addr} {o : HO} (t : LamX.Tabs T H) (h : H b = none) : LamX.Tabs T (upd H b o) := tabs_upd t (fun ps z => by rw [h] at z; cases z) fun q z => by rw [h] at z; cases z
theorem codeO_lst {c : Addr} {q : Str} {vs : List V} : LamX.CodeO c q ≠ .lst vs := fun z => by
  unfold LamX.CodeO at z
  cases z
theorem tabs_rm {P : Program} {w : World} {K : PySem.W.Frag} {mg : Str → Option Value} {G : Gh} {T : List (Addr × Str)} {H : Hp} {b : Addr} {o hh : HO} {mo : MO} (t : LamX.Tabs T H) (h : H b = some hh) (r : RM P w K mg G mo hh) : LamX.Tabs T (upd H b o) := tabs_upd t (fun ps z => by
    rw [h] at z
    exact r.ntbl ps (Option.some.inj z)) fun q z => by
  rw [h] at z
  have z := Option.some.inj z
  unfold LamX.CodeO at z
  subst z
  cases r
theorem tabs_lst {T : List (Addr × Str)} {H : Hp} {b : Addr} {o : HO} {vs : List V} (t : LamX.Tabs T H) (h : H b = some (.lst vs)) : LamX.Tabs T (upd H b o) := tabs_upd t (fun ps z => by rw [h] at z; cases z) fun q z => by
  rw [h] at z
  exact codeO_lst (Option.some.inj z).symm
theorem tabs_dic {P : Program} {w : World} {T : List (Addr × Str)} {H : Hp} {b : Addr} {o : HO} {xs : List (NestedKey × Addr × Value)} (t : LamX.Tabs T H) (h : H b = some (DicO P w b xs)) : LamX.Tabs T (upd H b o) := tabs_upd t (fun ps z => by
    rw [h] at z
    unfold DicO at z
    cases z) fun q z => by
  rw [h] at z
  exact dicO_ne (Option.some.inj z)
def Wr (G : Gh) (m : Mm) : Addr → Prop := fun a => ∃ (j : Nat) (o : MO), m[j]? = some o ∧ o ≠ .gone ∧ G.ρ[j]? = some a
variable (P w K mg) in
structure SM (B : Ba) (G : Gh) (m : Mm) (H : Hp) : Prop where
  sub : ∀ a o, G.I a = some o → H a = some o
  len : G.ρ.length = m.length
  mem : ∀ (j : Nat) o, m[j]? = some o → o ≠ .gone → ∃ a h, G.ρ[j]? = some a ∧ H a = some h ∧ RM P w K mg G o h
  memI : ∀ a ∈ G.ρ, G.I a = none ∧ H a ≠ none
  nd : G.ρ.Nodup
  ge : B.G0.Le G
  old : ∀ a o, B.H0 a = some o → ¬ B.wr a → H a = some o
  wrH : ∀ a, B.wr a → H a ≠ none
  newI : ∀ a, G.I a ≠ none → B.G0.I a ≠ none ∨ B.H0 a = none
  newR : ∀ a ∈ G.ρ, a ∈ B.G0.ρ ∨ B.H0 a = none
  wrOk : ∀ a, Wr G m a → B.wr a ∨ B.H0 a = none
  tab : LamX.Tabs (Tk K) H
  tbO : ∀ a ps, B.H0 a = some (.tbl ps) → B.wr a
  ntI : ∀ a ps, G.I a ≠ some (.tbl ps)
theorem SM.lst {B : Ba} {m : Mm} {H : Hp} {j : Nat} {ds : List D} (M : SM P w K mg B G m H) (e : m[j]? = some (.lst ds)) : ∃ a vs, G.ρ[j]? = some a ∧ H a = some (.lst vs) ∧ RDs P w K mg G vs ds := by
  obtain ⟨a, h, h1, h2, h3⟩ := M.mem j _ e (fun z => nomatch z)
  cases h3 with
  | lst r => exact ⟨a, _, h1, h2, r⟩
theorem SM.obj {B : Ba} {m : Mm} {H : Hp} {j : Nat} {c : Str} {fs : List (Str × D)} (M : SM P w K mg B G m H) (e : m[j]? = some (.obj c fs)) : ∃ a C dx gs, G.ρ[j]? = some a ∧ H a = some (.ins C dx gs) ∧ mg c = some (.ref C) ∧ RFs P w K mg G gs fs := by
  obtain ⟨a, h, h1, h2, h3⟩ := M.mem j _ e (fun z => nomatch z)
  cases h3 with
  | obj h r => exact ⟨a, _, _, _, h1, h2, h, r⟩
theorem SM.fresh {B : Ba} {m : Mm} {H : Hp} {p : Addr} (M : SM P w K mg B G m H) (h : H p = none) : G.I p = none ∧ p ∉ G.ρ ∧ B.H0 p = none := by
  refine ⟨?_, fun q => (M.memI p q).2 h, ?_⟩
  · cases e : G.I p with
    | none => rfl
    | some o => rw [M.sub p o e] at h; cases h
  · cases e : B.H0 p with
    | none => rfl
    | some o =>
      by_cases q : B.wr p
      · exact absurd h (M.wrH p q)
      · rw [M.old p o e q] at h; cases h
/-- a value that has nobody else -/
def isFr : RV → Bool
  | .v _ => false
  | _ => true
/-- at a, apart -/
structure Own1 (B : Ba) (G : Gh) (a : Addr) : Prop where
  I : G.I a = none
  ρ : a ∉ G.ρ
  H0 : B.H0 a = none
  wr : ¬ B.wr a
variable (P w K mg) in
/-- what is known of a value as it comes (or is kept) -/
def RR (B : Ba) (G : Gh) (H : Hp) : RV → V → Prop
  | .v d, v => RD P w K mg G v d
  | .l ds, v => ∃ a vs, v = .ref a ∧ H a = some (.lst vs) ∧ RDs P w K mg G vs ds ∧ Own1 B G a
  | .m ks vs, v => ∃ a xs, v = .ref a ∧ H a = some (DicO P w a xs) ∧ RKs P w K mg G xs ks vs ∧ Own1 B G a
variable (P w K mg) in
structure SR (B : Ba) (G : Gh) (s : S) (σ : L2.St) (H : Hp) : Prop where
  m : SM P w K mg B G s.mem H
  len : σ.length = s.env.length
  slot : ∀ (i : Nat) r, s.env[i]? = some (some r) → ∃ v, σ[i]? = some (some v) ∧ RR P w K mg B G H r v
  apart : ∀ (i j : Nat) ri rj v, i ≠ j → s.env[i]? = some (some ri) → s.env[j]? = some (some rj) → isFr ri = true → isFr rj = true → σ[i]? = some (some v) → σ[j]? ≠ some (some v)
/-- .. and it is none of the slots' own -/
def Alone (s : S) (σ : L2.St) (r : RV) (v : V) : Prop := isFr r = true → ∀ (i : Nat) ri, s.env[i]? = some (some ri) → isFr ri = true → σ[i]? ≠ some (some v)
theorem RR.le {B : Ba} {H H' : Hp} {r : RV} {v : V} (h : RR P w K mg B G H r v) (l : G.Le G') (own : ∀ a o, isFr r = true → v = .ref a → Own1 B G a → H a = some o → Own1 B G' a ∧ H' a = some o) : RR P w K mg B G' H' r v := by
  cases r with
  | v d => exact RD.le l h
  | l ds =>
    obtain ⟨a, vs, e, h1, h2, o⟩ := h
    obtain ⟨o', e'⟩ := own a _ rfl e o h1
    exact ⟨a, vs, e, e', h2.le l, o'⟩
  | m ks vs =>
    obtain ⟨a, xs, e, h1, h2, o⟩ := h
    obtain ⟨o', e'⟩ := own a _ rfl e o h1
    exact ⟨a, xs, e, e', h2.le l, o'⟩

/-! ### what may happen to a state -/
section
variable {B : Ba} {s : S} {σ : L2.St} {H : Hp}
def Gh.fz (G : Gh) (p : Addr) (o : HO) : Gh := { G with I := upd G.I p o }
theorem Gh.fz_le {p : Addr} {o : HO} (h : G.I p = none) : G.Le (G.fz p o) := ⟨fun a u e => by
  show upd G.I p o a = some u
  rw [upd_ne (ne_of_none e h)]
  exact e, [], by simp [Gh.fz]⟩
theorem Gh.fz_at {p : Addr} {o : HO} : (G.fz p o).I p = some o := upd_same
theorem SM.fz {m : Mm} {p : Addr} {o : HO} (M : SM P w K mg B G m H) (h : H p = some o) (ow : Own1 B G p) (ho : ∀ ps, o ≠ .tbl ps) : SM P w K mg B (G.fz p o) m H := by
  have l := Gh.fz_le (o := o) ow.I
  refine ⟨fun a u e => ?_, M.len, fun j ds e en => ?_, fun a ha => ⟨?_, (M.memI a ha).2⟩, M.nd, M.ge.trans l, M.old, M.wrH, fun a ha => ?_, M.newR, M.wrOk, M.tab, M.tbO, fun a ps => ?_⟩
  · by_cases q : a = p
    · subst q
      rw [show (G.fz a o).I a = some o from upd_same] at e
      rw [h]; exact e
    · rw [show (G.fz p o).I a = G.I a from upd_ne q] at e
      exact M.sub a u e
  · obtain ⟨a, vs, h1, h2, h3⟩ := M.mem j ds e en
    exact ⟨a, vs, h1, h2, h3.le l⟩
  · have q : a ≠ p := fun q => ow.ρ (q ▸ ha)
    rw [show (G.fz p o).I a = G.I a from upd_ne q]
    exact (M.memI a ha).1
  · by_cases q : a = p
    · subst q; exact .inr ow.H0
    · rw [show (G.fz p o).I a = G.I a from upd_ne q] at ha
      exact M.newI a ha
  · by_cases q : a = p
    · rw [q, show (G.fz p o).I p = some o from upd_same]
      exact fun z => ho ps (Option.some.inj z)
    · rw [show (G.fz p o).I a = G.I a from upd_ne q]
      exact M.ntI a ps
theorem SR.fz {p : Addr} {o : HO} (R : SR P w K mg B G s σ H) (h : H p = some o) (ow : Own1 B G p) (al : ∀ (i : Nat) r, s.env[i]? = some (some r) → isFr r = true → σ[i]? ≠ some (some (.ref p))) (ho : ∀ ps, o ≠ .tbl ps := by intro _ z; first | (cases z; done) | (unfold DicO at z; cases z; done)) : SR P w K mg B (G.fz p o) s σ H := by
  refine ⟨R.m.fz h ow ho, R.len, fun i r e => ?_, R.apart⟩
  obtain ⟨v, hv, hr⟩ := R.slot i r e
  refine ⟨v, hv, hr.le (Gh.fz_le ow.I) fun a u hf ev oa ha => ⟨⟨?_, oa.ρ, oa.H0, oa.wr⟩, ha⟩⟩
  have q : a ≠ p := fun q => al i r e hf (by rw [hv, ev, q])
  rw [show (G.fz p o).I a = G.I a from upd_ne q]
  exact oa.I
/-- a new object -/
theorem SM.new {m : Mm} {p : Addr} {o : HO} (M : SM P w K mg B G m H) (h : H p = none) : SM P w K mg B G m (upd H p o) := by
  have ne : ∀ {a : Addr} {u : HO}, H a = some u → a ≠ p := fun e => ne_of_none e h
  refine ⟨fun a u e => ?_, M.len, fun j ds e en => ?_, fun a ha => ⟨(M.memI a ha).1, ?_⟩, M.nd, M.ge, fun a u e nw => ?_, fun a ha => ?_, M.newI, M.newR, M.wrOk, tabs_none M.tab h, M.tbO, M.ntI⟩
  · have := M.sub a u e
    rw [upd_ne (ne this)]; exact this
  · obtain ⟨a, vs, h1, h2, h3⟩ := M.mem j ds e en
    exact ⟨a, vs, h1, by rw [upd_ne (ne h2)]; exact h2, h3⟩
  · by_cases q : a = p
    · rw [q, upd_same]; exact fun z => nomatch z
    · rw [upd_ne q]; exact (M.memI a ha).2
  · have := M.old a u e nw
    rw [upd_ne (ne this)]; exact this
  · by_cases q : a = p
    · rw [q, upd_same]; exact fun z => nomatch z
    · rw [upd_ne q]; exact M.wrH a ha
theorem RR.new {p : Addr} {o : HO} {r : RV} {v : V} (hr : RR P w K mg B G H r v) (h : H p = none) : RR P w K mg B G (upd H p o) r v :=
  hr.le Gh.Le.rfl fun a u _ _ oa ha => ⟨oa, by rw [upd_ne (ne_of_none ha h)]; exact ha⟩
theorem SR.new {p : Addr} {o : HO} (R : SR P w K mg B G s σ H) (h : H p = none) : SR P w K mg B G s σ (upd H p o) := by
  refine ⟨R.m.new h, R.len, fun i r e => ?_, R.apart⟩
  obtain ⟨v, hv, hr⟩ := R.slot i r e
  exact ⟨v, hv, hr.new h⟩
theorem RR.there {r : RV} {v : V} (hr : RR P w K mg B G H r v) (hf : isFr r = true) : ∃ a o, v = .ref a ∧ H a = some o ∧ Own1 B G a := by
  cases r with
  | v d => cases hf
  | l ds => obtain ⟨a, vs, e, h1, _, o⟩ := hr; exact ⟨a, _, e, h1, o⟩
  | m ks vs => obtain ⟨a, xs, e, h1, _, o⟩ := hr; exact ⟨a, _, e, h1, o⟩
theorem RR.tabs {r : RV} {v : V} {a : Addr} {o : HO} (hr : RR P w K mg B G H r v) (e : v = .ref a) (hf : isFr r = true) (t : LamX.Tabs (Tk K) H) : LamX.Tabs (Tk K) (upd H a o) := by
  subst e
  cases r with
  | v d => cases hf
  | l ds =>
    obtain ⟨a', vs, e, h1, _, _⟩ := hr
    cases e
    exact tabs_lst t h1
  | m ks vs =>
    obtain ⟨a', xs, e, h1, _, _⟩ := hr
    cases e
    exact tabs_dic t h1
/-- the tables grow, new things come -/
theorem SM.grow {m : Mm} {H1 : Hp} (M : SM P w K mg B G m H) (k : LamX.ExtN H H1) (n : ∀ a, H a ≠ none → H1 a ≠ none) (t : LamX.Tabs (Tk K) H1) : SM P w K mg B G m H1 := by
  refine ⟨fun a o e => k a o (M.sub a o e) fun ps z => M.ntI a ps (z ▸ e), M.len, fun j ds e en => ?_, fun a ha => ⟨(M.memI a ha).1, n a (M.memI a ha).2⟩, M.nd, M.ge, fun a o e nw => k a o (M.old a o e nw) fun ps z => nw (M.tbO a ps (z ▸ e)), fun a ha => n a (M.wrH a ha), M.newI, M.newR, M.wrOk, t, M.tbO, M.ntI⟩
  obtain ⟨a, vs, h1, h2, h3⟩ := M.mem j ds e en
  exact ⟨a, vs, h1, k a _ h2 h3.ntbl, h3⟩
/-- at a new place nothing of the slots stands -/
theorem SR.noslot {p : Addr} (R : SR P w K mg B G s σ H) (h : H p = none) : ∀ (i : Nat) r, s.env[i]? = some (some r) → isFr r = true → σ[i]? ≠ some (some (.ref p)) := fun i r e hf hv => by
  obtain ⟨v, hv', hr⟩ := R.slot i r e
  obtain ⟨a, o, ev, ha, _⟩ := hr.there hf
  rw [hv'] at hv
  have ev2 : v = V.ref p := by simpa using hv
  rw [ev2] at ev
  injection ev with ev
  rw [← ev, h] at ha
  cases ha
theorem SR.own1 {p : Addr} (R : SR P w K mg B G s σ H) (h : H p = none) : Own1 B G p := let ⟨a, b, c⟩ := R.m.fresh h; ⟨a, b, c, fun q => R.m.wrH p q h⟩
/-- a new object that stays as it is -/
theorem SR.newI {p : Addr} {o : HO} (R : SR P w K mg B G s σ H) (h : H p = none) (ho : ∀ ps, o ≠ .tbl ps := by intro _ z; first | (cases z; done) | (unfold DicO at z; cases z; done)) : SR P w K mg B (G.fz p o) s σ (upd H p o) :=
  (R.new h).fz upd_same (R.own1 h) (R.noslot h) ho
theorem SR.leNew {p : Addr} {o : HO} (R : SR P w K mg B G s σ H) (h : H p = none) : G.Le (G.fz p o) := Gh.fz_le (R.own1 h).I
/-- what came is everybody's -/
theorem SR.share {r : RV} {v : V} (R : SR P w K mg B G s σ H) (hr : RR P w K mg B G H r v) (al : Alone s σ r v) : ∃ G', G.Le G' ∧ SR P w K mg B G' s σ H ∧ RD P w K mg G' v r.d := by
  cases r with
  | v d => exact ⟨G, .rfl, R, hr⟩
  | l ds =>
    obtain ⟨a, vs, rfl, h1, h2, o⟩ := hr
    have l := Gh.fz_le (o := HO.lst vs) o.I
    exact ⟨G.fz a (.lst vs), l, R.fz h1 o (al rfl), .lst (SqL.of Gh.fz_at) (h2.le l)⟩
  | m ks vs =>
    obtain ⟨a, xs, rfl, h1, h2, o⟩ := hr
    have l := Gh.fz_le (o := DicO P w a xs) o.I
    exact ⟨G.fz a (DicO P w a xs), l, R.fz h1 o (al rfl), .dic Gh.fz_at (h2.le l)⟩
/-- a slot forgotten, or told less -/
theorem SR.envNone {i : Nat} (R : SR P w K mg B G s σ H) : SR P w K mg B G { s with env := s.env.set i none } σ H := by
  have look : ∀ {j : Nat} {r : RV}, (s.env.set i none)[j]? = some (some r) → s.env[j]? = some (some r) := fun {j r} e => by
    by_cases q : i = j
    · subst q
      by_cases hl : i < s.env.length
      · rw [List.getElem?_set_self hl] at e; simp at e
      · rw [List.getElem?_eq_none (by simpa using hl)] at e; cases e
    · rw [List.getElem?_set_ne q] at e; exact e
  exact ⟨R.m, by simpa using R.len, fun j r e => R.slot j r (look e), fun j k rj rk v n e1 e2 => R.apart j k rj rk v n (look e1) (look e2)⟩
/-- slot i's own list is everybody's from now on -/
theorem SR.shareSlot {i : Nat} {r : RV} (R : SR P w K mg B G s σ H) (e : s.env[i]? = some (some r)) : ∃ G' v, G.Le G' ∧ SR P w K mg B G' { s with env := s.env.set i (some (.v r.d)) } σ H ∧ σ[i]? = some (some v) ∧ RD P w K mg G' v r.d := by
  obtain ⟨v, hv, hr⟩ := R.slot i r e
  have hil : i < s.env.length := (List.getElem?_eq_some_iff.mp e).1
  have R1 := R.envNone (i := i)
  have al : Alone { s with env := s.env.set i none } σ r v := fun hf j rj ej hfj z => by
    by_cases q : i = j
    · subst q
      rw [show ({ s with env := s.env.set i none } : S).env[i]? = (s.env.set i none)[i]? from rfl, List.getElem?_set_self hil] at ej
      simp at ej
    · rw [show ({ s with env := s.env.set i none } : S).env[j]? = (s.env.set i none)[j]? from rfl, List.getElem?_set_ne q] at ej
      exact R.apart i j r rj v q e ej hf hfj hv z
  obtain ⟨G', l, R2, hd⟩ := R1.share hr al
  refine ⟨G', v, l, ⟨R2.m, by simpa using R.len, fun j rj ej => ?_, fun j k rj rk u n e1 e2 f1 f2 => ?_⟩, hv, hd⟩
  · by_cases q : i = j
    · subst q
      rw [show ({ s with env := s.env.set i (some (.v r.d)) } : S).env[i]? = (s.env.set i (some (.v r.d)))[i]? from rfl, List.getElem?_set_self hil] at ej
      simp only [Option.some.injEq] at ej
      subst ej
      exact ⟨v, hv, hd⟩
    · refine R2.slot j rj ?_
      rw [show ({ s with env := s.env.set i (some (.v r.d)) } : S).env[j]? = (s.env.set i (some (.v r.d)))[j]? from rfl, List.getElem?_set_ne q] at ej
      show (s.env.set i none)[j]? = _
      rw [List.getElem?_set_ne q]; exact ej
  · have nj : ∀ {j : Nat} {rj : RV}, (s.env.set i (some (.v r.d)))[j]? = some (some rj) → isFr rj = true → (s.env.set i none)[j]? = some (some rj) := fun {j rj} ej fj => by
      by_cases q : i = j
      · subst q
        rw [List.getElem?_set_self hil] at ej
        simp only [Option.some.injEq] at ej
        subst ej
        cases fj
      · rw [List.getElem?_set_ne q] at ej ⊢
        exact ej
    exact R2.apart j k rj rk u n (nj e1 f1) (nj e2 f2) f1 f2
/-- a slot is stored -/
theorem SR.store {i : Nat} {r : RV} {v : V} (R : SR P w K mg B G s σ H) (hi : i < s.env.length) (hr : RR P w K mg B G H r v) (al : Alone s σ r v) : SR P w K mg B G { s with env := s.env.set i (some r) } (σ.set i (some v)) H := by
  have hiσ : i < σ.length := by rw [R.len]; exact hi
  refine ⟨R.m, by simpa using R.len, fun j rj ej => ?_, fun j k rj rk u n e1 e2 f1 f2 => ?_⟩
  · have ej : (s.env.set i (some r))[j]? = some (some rj) := ej
    by_cases q : i = j
    · subst q
      rw [List.getElem?_set_self hi] at ej
      simp only [Option.some.injEq] at ej
      subst ej
      exact ⟨v, by rw [List.getElem?_set_self hiσ], hr⟩
    · rw [List.getElem?_set_ne q] at ej ⊢
      exact R.slot j rj ej
  · have e1 : (s.env.set i (some r))[j]? = some (some rj) := e1
    have e2 : (s.env.set i (some r))[k]? = some (some rk) := e2
    intro hu hu2
    by_cases q : i = j
    · subst q
      rw [List.getElem?_set_self hi] at e1
      simp only [Option.some.injEq] at e1
      subst e1
      rw [List.getElem?_set_self hiσ] at hu
      simp only [Option.some.injEq] at hu
      subst hu
      rw [List.getElem?_set_ne n] at e2 hu2
      exact al f1 k rk e2 f2 hu2
    · by_cases q2 : i = k
      · subst q2
        rw [List.getElem?_set_self hi] at e2
        simp only [Option.some.injEq] at e2
        subst e2
        rw [List.getElem?_set_self hiσ] at hu2
        simp only [Option.some.injEq] at hu2
        subst hu2
        rw [List.getElem?_set_ne q] at e1 hu
        exact al f2 j rj e1 f1 hu
      · rw [List.getElem?_set_ne q] at e1 hu
        rw [List.getElem?_set_ne q2] at e2 hu2
        exact R.apart j k rj rk u n e1 e2 f1 f2 hu hu2
/-- an own object is changed: list -/
theorem SR.writeOwn {i : Nat} {r r' : RV} {a : Addr} {o : HO} (R : SR P w K mg B G s σ H) (e : s.env[i]? = some (some r)) (hf : isFr r = true) (hf' : isFr r' = true) (hv : σ[i]? = some (some (.ref a)))
    (hr : ∀ G2 H2, H2 a = some o → Own1 B G2 a → G.Le G2 → RR P w K mg B G2 H2 r' (.ref a)) : SR P w K mg B G { s with env := s.env.set i (some r') } σ (upd H a o) := by
  obtain ⟨v, hv2, hr0⟩ := R.slot i r e
  obtain ⟨a', o0, ev, ha, ow⟩ := hr0.there hf
  rw [hv] at hv2
  have ev2 : v = V.ref a := by simpa using hv2.symm
  have ev0 := ev2
  rw [ev2] at ev
  injection ev with ev
  subst ev
  have hi : i < s.env.length := (List.getElem?_eq_some_iff.mp e).1
  have M := R.m
  refine ⟨⟨fun b u q => ?_, M.len, fun j ds q qn => ?_, fun b hb => ⟨(M.memI b hb).1, ?_⟩, M.nd, M.ge, fun b u q nw => ?_, fun b hb => ?_, M.newI, M.newR, M.wrOk, hr0.tabs ev0 hf M.tab, M.tbO, M.ntI⟩, by simpa using R.len, fun j rj ej => ?_, fun j k rj rk u n e1 e2 f1 f2 => ?_⟩
  · have nb : b ≠ a := fun z => by rw [z, ow.I] at q; cases q
    rw [upd_ne nb]; exact M.sub b u q
  · obtain ⟨b, vs, h1, h2, h3⟩ := M.mem j ds q qn
    have nb : b ≠ a := fun z => ow.ρ (z ▸ List.mem_of_getElem? h1)
    exact ⟨b, vs, h1, by rw [upd_ne nb]; exact h2, h3⟩
  · have nb : b ≠ a := fun z => ow.ρ (z ▸ hb)
    rw [upd_ne nb]; exact (M.memI b hb).2
  · have nb : b ≠ a := fun z => by rw [z, ow.H0] at q; cases q
    rw [upd_ne nb]; exact M.old b u q nw
  · by_cases nb : b = a
    · rw [nb, upd_same]; exact fun z => nomatch z
    · rw [upd_ne nb]; exact M.wrH b hb
  · have ej : (s.env.set i (some r'))[j]? = some (some rj) := ej
    by_cases q : i = j
    · subst q
      rw [List.getElem?_set_self hi] at ej
      simp only [Option.some.injEq] at ej
      subst ej
      exact ⟨_, hv, hr G _ upd_same ow .rfl⟩
    · rw [List.getElem?_set_ne q] at ej
      obtain ⟨u, hu, hru⟩ := R.slot j rj ej
      refine ⟨u, hu, hru.le .rfl fun b ob fb eb _ hb => ?_⟩
      have nb : b ≠ a := fun z => R.apart i j r rj (.ref a) q e ej hf fb hv (by rw [hu, eb, z])
      exact ⟨by assumption, by rw [upd_ne nb]; exact hb⟩
  · have e1 : (s.env.set i (some r'))[j]? = some (some rj) := e1
    have e2 : (s.env.set i (some r'))[k]? = some (some rk) := e2
    have back : ∀ {j : Nat} {rj : RV}, (s.env.set i (some r'))[j]? = some (some rj) → isFr rj = true → ∃ r0, s.env[j]? = some (some r0) ∧ isFr r0 = true := fun {j rj} ej fj => by
      by_cases q : i = j
      · subst q; exact ⟨r, e, hf⟩
      · rw [List.getElem?_set_ne q] at ej; exact ⟨rj, ej, fj⟩
    obtain ⟨r1, g1, k1⟩ := back e1 f1
    obtain ⟨r2, g2, k2⟩ := back e2 f2
    exact R.apart j k r1 r2 u n g1 g2 k1 k2
/-- a list that is changed in place -/
theorem SR.writeRef {j : Nat} {a : Addr} {o o' : MO} {h' : HO} (R : SR P w K mg B G s σ H) (e : s.mem[j]? = some o) (eno : o ≠ .gone) (ha : G.ρ[j]? = some a) (hr : RM P w K mg G o' h') : SR P w K mg B G { s with mem := s.mem.set j o' } σ (upd H a h') := by
  have M := R.m
  have ham : a ∈ G.ρ := List.mem_of_getElem? ha
  have hj : j < s.mem.length := (List.getElem?_eq_some_iff.mp e).1
  have inj : ∀ {k : Nat}, G.ρ[k]? = some a → k = j := fun {k} hk => by
    obtain ⟨h1, e1⟩ := List.getElem?_eq_some_iff.mp hk
    obtain ⟨h2, e2⟩ := List.getElem?_eq_some_iff.mp ha
    exact (List.getElem_inj M.nd).mp (e1.trans e2.symm)
  refine ⟨⟨fun b u q => ?_, by simpa using M.len, fun k dk q qn => ?_, fun b hb => ⟨(M.memI b hb).1, ?_⟩, M.nd, M.ge, fun b u q nw => ?_, fun b hb => ?_, M.newI, M.newR, fun b hb => ?_, (by
    obtain ⟨a2, vs2, g1, g2, g3⟩ := M.mem j o e eno
    rw [ha] at g1
    cases g1
    exact tabs_rm M.tab g2 g3), M.tbO, M.ntI⟩, R.len, fun i r ei => ?_, R.apart⟩
  · have nb : b ≠ a := fun z => by rw [z, (M.memI a ham).1] at q; cases q
    rw [upd_ne nb]; exact M.sub b u q
  · have q : (s.mem.set j o')[k]? = some dk := q
    by_cases qk : j = k
    · subst qk
      rw [List.getElem?_set_self hj] at q
      simp only [Option.some.injEq] at q
      subst q
      exact ⟨a, h', ha, upd_same, hr⟩
    · rw [List.getElem?_set_ne qk] at q
      obtain ⟨b, vs, h1, h2, h3⟩ := M.mem k dk q qn
      have nb : b ≠ a := fun z => qk (inj (z ▸ h1)).symm
      exact ⟨b, vs, h1, by rw [upd_ne nb]; exact h2, h3⟩
  · by_cases nb : b = a
    · rw [nb, upd_same]; exact fun z => nomatch z
    · rw [upd_ne nb]; exact (M.memI b hb).2
  · by_cases nb : b = a
    · subst nb
      rcases M.wrOk b ⟨j, o, e, eno, ha⟩ with z | z
      · exact absurd z nw
      · rw [z] at q; cases q
    · rw [upd_ne nb]; exact M.old b u q nw
  · by_cases nb : b = a
    · rw [nb, upd_same]; exact fun z => nomatch z
    · rw [upd_ne nb]; exact M.wrH b hb
  · obtain ⟨k, dk, q, qn, hk⟩ := hb
    have q : (s.mem.set j o')[k]? = some dk := q
    by_cases qk : j = k
    · subst qk
      exact M.wrOk b ⟨j, o, e, eno, hk⟩
    · rw [List.getElem?_set_ne qk] at q
      exact M.wrOk b ⟨k, dk, q, qn, hk⟩
  · obtain ⟨u, hu, hru⟩ := R.slot i r ei
    refine ⟨u, hu, hru.le .rfl fun b ob fb eb ob1 hb => ⟨ob1, ?_⟩⟩
    have nb : b ≠ a := fun z => ob1.ρ (z ▸ ham)
    rw [upd_ne nb]; exact hb
/-- a new list that is changed in place -/
theorem SR.newRef {p : Addr} {o : MO} {h' : HO} (R : SR P w K mg B G s σ H) (h : H p = none) (hr : RM P w K mg G o h') :
    SR P w K mg B { G with ρ := G.ρ ++ [p] } { s with mem := s.mem ++ [o] } σ (upd H p h') ∧ G.Le { G with ρ := G.ρ ++ [p] } := by
  have l : G.Le { G with ρ := G.ρ ++ [p] } := ⟨fun _ _ h => h, [p], rfl⟩
  have M := R.m
  obtain ⟨hI, hρ, hH0⟩ := M.fresh h
  have N := M.new (o := h') h
  refine ⟨⟨⟨N.sub, by simp [M.len], fun j dj q qn => ?_, fun b hb => ?_, ?_, M.ge.trans l, N.old, N.wrH, N.newI, fun b hb => ?_, fun b hb => ?_, N.tab, N.tbO, N.ntI⟩, R.len, fun i r ei => ?_, R.apart⟩, l⟩
  · have q : (s.mem ++ [o])[j]? = some dj := q
    by_cases hj : j < s.mem.length
    · rw [List.getElem?_append_left hj] at q
      obtain ⟨b, us, h1, h2, h3⟩ := N.mem j dj q qn
      exact ⟨b, us, l.at h1, h2, h3.le l⟩
    · rw [List.getElem?_append_right (by omega)] at q
      have e0 : j - s.mem.length = 0 := by
        cases z : j - s.mem.length with
        | zero => rfl
        | succ n => rw [z] at q; simp at q
      rw [e0] at q
      simp only [List.getElem?_cons_zero, Option.some.injEq] at q
      subst q
      refine ⟨p, h', ?_, upd_same, hr.le l⟩
      show (G.ρ ++ [p])[j]? = some p
      rw [List.getElem?_append_right (by rw [M.len]; omega), M.len, e0]
      rfl
  · have hb : b ∈ G.ρ ++ [p] := hb
    rcases List.mem_append.mp hb with hb | hb
    · exact N.memI b hb
    · have e : b = p := by simpa using hb
      subst e
      exact ⟨hI, by rw [upd_same]; exact fun z => nomatch z⟩
  · show (G.ρ ++ [p]).Nodup
    rw [List.nodup_append]
    refine ⟨M.nd, by simp, fun a ha b hb => ?_⟩
    have e : b = p := by simpa using hb
    subst e
    exact fun z => hρ (z ▸ ha)
  · have hb : b ∈ G.ρ ++ [p] := hb
    rcases List.mem_append.mp hb with hb | hb
    · exact M.newR b hb
    · have e : b = p := by simpa using hb
      subst e
      exact .inr hH0
  · obtain ⟨k, dk, q, qn, hk⟩ := hb
    have q : (s.mem ++ [o])[k]? = some dk := q
    have hk : (G.ρ ++ [p])[k]? = some b := hk
    by_cases hj : k < s.mem.length
    · rw [List.getElem?_append_left hj] at q
      rw [List.getElem?_append_left (by rw [M.len]; exact hj)] at hk
      exact M.wrOk b ⟨k, dk, q, qn, hk⟩
    · rw [List.getElem?_append_right (by rw [M.len]; omega)] at hk
      have e : b = p := by
        cases z : k - G.ρ.length with
        | zero => rw [z] at hk; simpa using hk.symm
        | succ n => rw [z] at hk; simp at hk
      subst e
      exact .inr hH0
  · obtain ⟨u, hu, hru⟩ := R.slot i r ei
    refine ⟨u, hu, hru.le l fun b ob fb eb ob1 hb => ?_⟩
    have nb : b ≠ p := ne_of_none hb h
    refine ⟨⟨ob1.I, fun z => ?_, ob1.H0, ob1.wr⟩, by rw [upd_ne nb]; exact hb⟩
    have z : b ∈ G.ρ ++ [p] := z
    rcases List.mem_append.mp z with z | z
    · exact ob1.ρ z
    · exact nb (by simpa using z)
/-- what a callee starts from -/
def Bof (G : Gh) (m : Mm) (H : Hp) : Ba := ⟨H, fun a => Wr G m a ∨ ∃ ps, H a = some (.tbl ps), G⟩
theorem SM.entry {m : Mm} (M : SM P w K mg B G m H) : SM P w K mg (Bof G m H) G m H :=
  ⟨M.sub, M.len, M.mem, M.memI, M.nd, .rfl, fun _ _ e _ => e, fun a hw => (by
    rcases hw with ⟨j, ds, e, en, ha⟩ | ⟨ps, e⟩
    · obtain ⟨b, vs, h1, h2, _⟩ := M.mem j ds e en
      have : G.ρ[j]? = some a := ha
      rw [h1] at this
      cases this
      rw [h2]
      exact fun z => nomatch z
    · rw [e]
      exact fun z => nomatch z), fun _ h => .inl h, fun _ h => .inl h, fun _ h => .inl (.inl h), M.tab, fun a ps h => .inr ⟨ps, h⟩, M.ntI⟩
theorem SM.leave {m m' : Mm} {H' : Hp} (M : SM P w K mg B G m H) (N : SM P w K mg (Bof G m H) G' m' H') : SM P w K mg B G' m' H' := by
  have hn : ∀ a, H a = none → B.H0 a = none := fun a h => (M.fresh h).2.2
  have old' : ∀ a ps, H a = some (.tbl ps) → B.wr a ∨ B.H0 a = none := fun a ps h => by
    by_cases hw : B.wr a
    · exact .inl hw
    · cases e : B.H0 a with
      | none => exact .inr rfl
      | some o =>
        have z := M.old a o e hw
        rw [h] at z
        cases z
        exact absurd (M.tbO a ps e) hw
  refine ⟨N.sub, N.len, N.mem, N.memI, N.nd, M.ge.trans N.ge, fun a o e nw => ?_, fun a ha => ?_, fun a ha => ?_, fun a ha => ?_, fun a ha => ?_, N.tab, M.tbO, N.ntI⟩
  · refine N.old a o (M.old a o e nw) fun hw => ?_
    rcases hw with hw | ⟨ps, hw⟩
    · rcases M.wrOk a hw with z | z
      · exact nw z
      · rw [z] at e; cases e
    · rcases old' a ps hw with z | z
      · exact nw z
      · rw [z] at e; cases e
  · by_cases hw : Wr G m a ∨ ∃ ps, H a = some (.tbl ps)
    · exact N.wrH a hw
    · cases e : H a with
      | none => exact absurd e (M.wrH a ha)
      | some o => rw [N.old a o e hw]; exact fun z => nomatch z
  · rcases N.newI a ha with z | z
    · exact M.newI a z
    · exact .inr (hn a z)
  · rcases N.newR a ha with z | z
    · exact M.newR a z
    · exact .inr (hn a z)
  · rcases N.wrOk a ha with (z | ⟨ps, z⟩) | z
    · exact M.wrOk a z
    · exact old' a ps z
    · exact .inr (hn a z)
/-- an own object lies behind a call as it lay -/
theorem Own1.leave {m m' : Mm} {H' : Hp} {a : Addr} {o : HO} (ow : Own1 B G a) (h : H a = some o) (ho : ∀ ps, o ≠ .tbl ps) (N : SM P w K mg (Bof G m H) G' m' H') : Own1 B G' a ∧ H' a = some o := by
  refine ⟨⟨?_, fun q => ?_, ow.H0, ow.wr⟩, N.old a o h fun hw => ?_⟩
  · cases e : G'.I a with
    | none => rfl
    | some u =>
      rcases N.newI a (by rw [e]; exact fun z => nomatch z) with z | z
      · exact absurd ow.I z
      · rw [show (Bof G m H).H0 a = H a from rfl, h] at z; cases z
  · rcases N.newR a q with z | z
    · exact ow.ρ z
    · rw [show (Bof G m H).H0 a = H a from rfl, h] at z; cases z
  · rcases hw with ⟨j, ds, _, _, q⟩ | ⟨ps, q⟩
    · exact ow.ρ (List.mem_of_getElem? q)
    · rw [h] at q
      exact ho ps (Option.some.inj q)
theorem RR.ntbl {r : RV} {v : V} {a : Addr} {o : HO} (hr : RR P w K mg B G H r v) (hf : isFr r = true) (e : v = .ref a) (h : H a = some o) : ∀ ps, o ≠ .tbl ps := by
  subst e
  intro ps z
  subst z
  cases r with
  | v d => cases hf
  | l ds =>
    obtain ⟨a', vs, e, h1, _, _⟩ := hr
    cases e
    rw [h] at h1
    cases h1
  | m ks vs =>
    obtain ⟨a', xs, e, h1, _, _⟩ := hr
    cases e
    rw [h] at h1
    unfold DicO at h1
    cases h1
theorem SR.grow {H1 : Hp} (R : SR P w K mg B G s σ H) (k : LamX.ExtN H H1) (n : ∀ a, H a ≠ none → H1 a ≠ none) (t : LamX.Tabs (Tk K) H1) : SR P w K mg B G s σ H1 := by
  refine ⟨R.m.grow k n t, R.len, fun i r e => ?_, R.apart⟩
  obtain ⟨v, hv, hr⟩ := R.slot i r e
  exact ⟨v, hv, hr.le .rfl fun a o hf ev ow h => ⟨ow, k a o h (hr.ntbl hf ev h)⟩⟩
theorem SR.leave {m' : Mm} {H' : Hp} (R : SR P w K mg B G s σ H) (N : SM P w K mg (Bof G s.mem H) G' m' H') : SR P w K mg B G' { s with mem := m' } σ H' := by
  refine ⟨R.m.leave N, R.len, fun i r e => ?_, R.apart⟩
  obtain ⟨v, hv, hr⟩ := R.slot i r e
  exact ⟨v, hv, hr.le N.ge fun a o hf ev ow h => ow.leave h (hr.ntbl hf ev h) N⟩
end
end
end Pah
end
section
set_option maxHeartbeats 200000
/-! Snd1: what an evaluation says is what the layer's readings ask: names, operators, comparisons. -/
namespace Pah
open PySem PySem.Spec PyProof.Rows L2

theorem PE.imp {X : Cx} {e : Expr} {t t' : TE} (h : PE X e t) (i : ∀ σ H Q, t' σ H Q → t σ H Q) : PE X e t' := ⟨fun pins s σ H Q I hw => h.run pins s σ H Q I (i σ H Q hw)⟩
theorem PT.imp {X : Cx} {e : Expr} {t t' : TT} (h : PT X e t) (i : ∀ σ H Q, t' σ H Q → t σ H Q) : PT X e t' := ⟨fun pins s σ H Q I hw => h.run pins s σ H Q I (i σ H Q hw)⟩
theorem PA.imp {X : Cx} {e : List Expr} {t t' : TA} (h : PA X e t) (i : ∀ σ H Q, t' σ H Q → t σ H Q) : PA X e t' := ⟨fun pos pins s σ H Q I hw => h.run pos pins s σ H Q I (i σ H Q hw)⟩
theorem PS.imp {X : Cx} {e : Stmt} {t t' : TS} (h : PS X e t) (i : ∀ D σ H, t' D σ H → t D σ H) : PS X e t' := ⟨fun pins s σ H D I hw => h.run pins s σ H D I (i D σ H hw)⟩
theorem PSs.imp {X : Cx} {e : List Stmt} {t t' : TS} (h : PSs X e t) (i : ∀ D σ H, t' D σ H → t D σ H) : PSs X e t' := ⟨fun pins s σ H D I hw => h.run pins s σ H D I (i D σ H hw)⟩
theorem OpR.imp {X : Cx} {f : Value → Value → Sem Value} {r r' : R2} (h : OpR X f r) (i : ∀ x y H Q, r' x y H Q → r x y H Q) : OpR X f r' := fun pins s σ H x y v u Q I rx ry q => h pins s σ H x y v u Q I rx ry (i x y H Q q)
theorem CallR.imp {X : Cx} {f : Value} {r r' : List V → Hp → VK → Prop} (h : CallR X f r) (i : ∀ x H Q, r' x H Q → r x H Q) : CallR X f r' := fun pins s σ H x us Q I rx q => h pins s σ H x us Q I rx (i x H Q q)

section
variable (P : Program) (w : World) (K : PySem.W.Frag) (mg : Str → Option Value)
/-- what an exception that leaves finds -/
def pX (E : XK) (c : Str) (p : D) (H : Hp) : Prop := match p with
  | .non => ∀ C, mg c = some (.ref C) → E (.ref C) none H
  | _ => False
def pO {β : Type} (B : Ba) (E : XK) (G : Gh) (x : Out β) (k : β → S → Prop) : Prop := match x with
  | .ok b s => k b s
  | .exn c p m => ∀ H' G', G.Le G' → SM P w K mg B G' m H' → pX mg E c p H'
  | .stuck => False
def kV (B : Ba) (G : Gh) (σ : L2.St) (Q : VK) : RV → S → Prop := fun r s' => ∀ v H' G', G.Le G' → SR P w K mg B G' s' σ H' → RR P w K mg B G' H' r v → Alone s' σ r v → Q v H'
def rdE (Φ : Phi) (E : XK) (e : Ex) : TE := fun σ H Q => ∃ B G s, SR P w K mg B G s σ H ∧ pO P w K mg B E G (evE Φ e s) (kV P w K mg B G σ Q)
/-- looked at as it is now -/
def Vw (G : Gh) (H : Hp) (v : V) (d : D) : Prop := RD P w K mg G v d ∨ (∃ a vs ds, v = .ref a ∧ d = .lst ds ∧ H a = some (.lst vs) ∧ RDs P w K mg G vs ds) ∨
  ∃ a xs ks vs, v = .ref a ∧ d = .dic ks vs ∧ H a = some (DicO P w a xs) ∧ RKs P w K mg G xs ks vs
def rdB (Φ : Phi) (E : XK) (e : Ex) : TE := match e with
  | .var i => tVar i
  | _ => rdE P w K mg Φ E e
end

section
variable {P : Program} {w : World} {K : PySem.W.Frag} {mg : Str → Option Value} {B : Ba} {G : Gh} {s : S} {σ : L2.St} {H : Hp} {E : XK} {Q : VK} {Φ : Phi}
theorem pO_le {β : Type} {G1 : Gh} {x : Out β} {k : β → S → Prop} (h : pO P w K mg B E G x k) (l : G.Le G1) : pO P w K mg B E G1 x k := by
  cases x with
  | ok b s => exact h
  | exn c p m => exact fun H' G' l' M => h H' G' (l.trans l') M
  | stuck => exact h
theorem pO_mono {β : Type} {x : Out β} {k k' : β → S → Prop} (h : pO P w K mg B E G x k) (i : ∀ b s, k b s → k' b s) : pO P w K mg B E G x k' := by
  cases x with
  | ok b s => exact i _ _ h
  | exn c p m => exact h
  | stuck => exact h
theorem rdE_step {β : Type} {e : Ex} {f : RV → S → Out β} {k : β → S → Prop} (R : SR P w K mg B G s σ H) (h : pO P w K mg B E G ((evE Φ e s).bind f) k)
    (hk : ∀ r s1 v H1 G1, G.Le G1 → SR P w K mg B G1 s1 σ H1 → RR P w K mg B G1 H1 r v → Alone s1 σ r v → pO P w K mg B E G1 (f r s1) k → Q v H1) : rdE P w K mg Φ E e σ H Q := by
  refine ⟨B, G, s, R, ?_⟩
  cases e1 : evE Φ e s with
  | ok r s1 =>
    rw [e1] at h
    exact fun v H1 G1 l R1 hr al => hk r s1 v H1 G1 l R1 hr al (pO_le h l)
  | exn c p m => rw [e1] at h; exact h
  | stuck => rw [e1] at h; exact h
/-- .. and it is everybody's -/
theorem rdE_stepD {β : Type} {e : Ex} {f : RV → S → Out β} {k : β → S → Prop} (R : SR P w K mg B G s σ H) (h : pO P w K mg B E G ((evE Φ e s).bind f) k)
    (hk : ∀ r s1 v H1 G1, G.Le G1 → SR P w K mg B G1 s1 σ H1 → RD P w K mg G1 v r.d → pO P w K mg B E G1 (f r s1) k → Q v H1) : rdE P w K mg Φ E e σ H Q :=
  rdE_step R h fun r s1 v H1 G1 l R1 hr al q => by
    obtain ⟨G2, l2, R2, hd⟩ := R1.share hr al
    exact hk r s1 v H1 G2 (l.trans l2) R2 hd (pO_le q l2)
theorem RR.vw {r : RV} {v : V} (h : RR P w K mg B G H r v) : Vw P w K mg G H v r.d := by
  cases r with
  | v d => exact .inl h
  | l ds =>
    obtain ⟨a, vs, e, h1, h2, _⟩ := h
    exact .inr (.inl ⟨a, vs, ds, e, rfl, h1, h2⟩)
  | m ks vs =>
    obtain ⟨a, xs, e, h1, h2, _⟩ := h
    exact .inr (.inr ⟨a, xs, ks, vs, e, rfl, h1, h2⟩)
theorem lookV_slot {i : Nat} {d : D} {s1 : S} (e : lookV i s = .ok d s1) : s1 = s ∧ ∃ r, s.env[i]? = some (some r) ∧ d = r.d := by
  unfold lookV at e
  split at e
  · rename_i r h
    cases e
    exact ⟨rfl, r, h, rfl⟩
  · cases e
theorem lookV_bind {β : Type} {i : Nat} {f : D → S → Out β} {k : β → S → Prop} (h : pO P w K mg B E G ((lookV i s).bind f) k) : ∃ r, s.env[i]? = some (some r) ∧ pO P w K mg B E G (f r.d s) k := by
  unfold lookV at h
  split at h
  · rename_i r e
    exact ⟨r, e, h⟩
  · exact h.elim
theorem asB_ne {e : Ex} (h : ∀ i, e ≠ .var i) (r : S → Out RV) (s : S) : asB e r s = (r s).bind fun x s => Out.ok x.d s := by
  cases e <;> first | rfl | exact absurd rfl (h _)
theorem rdB_ne {e : Ex} (h : ∀ i, e ≠ .var i) : rdB P w K mg Φ E e = rdE P w K mg Φ E e := by
  cases e <;> first | rfl | exact absurd rfl (h _)
theorem isVar (e : Ex) : (∃ i, e = .var i) ∨ ∀ i, e ≠ .var i := by
  cases e <;> first | exact .inl ⟨_, rfl⟩ | exact .inr fun _ z => nomatch z
theorem rdB_step {β : Type} {e : Ex} {f : D → S → Out β} {k : β → S → Prop} (R : SR P w K mg B G s σ H) (h : pO P w K mg B E G ((asB e (evE Φ e) s).bind f) k)
    (hk : ∀ d s1 v H1 G1, G.Le G1 → SR P w K mg B G1 s1 σ H1 → Vw P w K mg G1 H1 v d → pO P w K mg B E G1 (f d s1) k → Q v H1) : rdB P w K mg Φ E e σ H Q := by
  have bb : ∀ (x : Out RV), (x.bind fun x s => Out.ok x.d s).bind f = x.bind fun x s => f x.d s := fun x => by cases x <;> rfl
  rcases isVar e with ⟨i, rfl⟩ | ne
  · obtain ⟨r, e1, h⟩ := lookV_bind h
    obtain ⟨v, hv, hr⟩ := R.slot i r e1
    exact ⟨v, hv, hk r.d s v H G .rfl R hr.vw h⟩
  · rw [rdB_ne ne]
    rw [asB_ne ne, bb] at h
    exact rdE_stepD R h fun r s1 v H1 G1 l R1 hd q => hk r.d s1 v H1 G1 l R1 (.inl hd) q
theorem rdB2_step {β : Type} {a b : Ex} {f : D × D → S → Out β} {k : β → S → Prop} {Q : V → V → Hp → Prop} (R : SR P w K mg B G s σ H) (h : pO P w K mg B E G ((asB2 a b (evE Φ a) (evE Φ b) s).bind f) k)
    (hk : ∀ d1 d2 s1 v1 v2 H1 G1, G.Le G1 → SR P w K mg B G1 s1 σ H1 → Vw P w K mg G1 H1 v1 d1 → Vw P w K mg G1 H1 v2 d2 → pO P w K mg B E G1 (f (d1, d2) s1) k → Q v1 v2 H1) :
    rdB P w K mg Φ E a σ H fun x H1 => rdB P w K mg Φ E b σ H1 fun y H2 => Q x y H2 := by
  have ass : ∀ (x : Out RV) (y : S → Out D) (f : D × D → S → Out β), (x.bind fun x s => (y s).bind fun y s => Out.ok (x.d, y) s).bind f = x.bind fun x s => (y s).bind fun y s => f (x.d, y) s := fun x y f => by
    cases x with
    | ok r s =>
      show ((y s).bind fun y s => Out.ok (r.d, y) s).bind f = (y s).bind fun y s => f (r.d, y) s
      cases y s <;> rfl
    | exn c p m => rfl
    | stuck => rfl
  rcases isVar a with ⟨i, rfl⟩ | ne
  · have h : pO P w K mg B E G (((lookV i s).bind fun _ s => (asB b (evE Φ b) s).bind fun y s => (lookV i s).bind fun x s => Out.ok (x, y) s).bind f) k := h
    have h2 : pO P w K mg B E G ((lookV i s).bind fun _ s => (asB b (evE Φ b) s).bind fun y s => (lookV i s).bind fun x s => f (x, y) s) k := by
      have q : ∀ (x : Out D) (y : S → Out D), (x.bind fun _ s => (y s).bind fun y s => (lookV i s).bind fun x s => Out.ok (x, y) s).bind f = x.bind fun _ s => (y s).bind fun y s => (lookV i s).bind fun x s => f (x, y) s := fun x y => by
        cases x with
        | ok r s =>
          show ((y s).bind fun y s => (lookV i s).bind fun x s => Out.ok (x, y) s).bind f = (y s).bind fun y s => (lookV i s).bind fun x s => f (x, y) s
          cases y s with
          | ok r s =>
            show ((lookV i s).bind fun x s => Out.ok (x, r) s).bind f = (lookV i s).bind fun x s => f (x, r) s
            cases lookV i s <;> rfl
          | exn c p m => rfl
          | stuck => rfl
        | exn c p m => rfl
        | stuck => rfl
      rw [q] at h
      exact h
    obtain ⟨r, e1, h3⟩ := lookV_bind h2
    obtain ⟨v, hv, hr⟩ := R.slot i r e1
    refine ⟨v, hv, ?_⟩
    refine rdB_step R h3 fun d s1 u H1 G1 l R1 hu q => ?_
    obtain ⟨r1, e2, q2⟩ := lookV_bind q
    obtain ⟨v', hv', hr'⟩ := R1.slot i r1 e2
    rw [hv] at hv'
    simp only [Option.some.injEq] at hv'
    subst hv'
    exact hk r1.d d s1 v u H1 G1 l R1 hr'.vw hu q2
  · have ha : asB2 a b (evE Φ a) (evE Φ b) s = ((evE Φ a s).bind fun x s => (asB b (evE Φ b) s).bind fun y s => Out.ok (x.d, y) s) := by
      cases a <;> first | rfl | exact absurd rfl (ne _)
    rw [ha, ass] at h
    rw [rdB_ne ne]
    refine rdE_stepD R h fun r s1 v H1 G1 l R1 hd q => ?_
    exact rdB_step R1 q fun d s2 u H2 G2 l2 R2 hu q2 => hk r.d d s2 v u H2 G2 (l.trans l2) R2 (.inl (hd.le l2)) hu q2

/-! ### tuples that are made -/
theorem newT {X : Cx} {pins : List (Addr × Obj)} {σ : L2.St} {H : Hp} {s : Shared} {h' : Heap} {a : Addr} {xs : List V} {us : List Value} {t' : Nat} (I : L2.Inv X pins σ H s) (k : ∀ b u, s.heap.get? b = some u → h'.get? b = some u) (hp : s.heap.objs.size ≤ a)
    (e : h'.get? a = some ({ cls := .type "tuple", data := .seq us.toArray } : Obj)) (r : Vals xs us) (z : xs.length ≤ sizeLine) : L2.Inv X pins σ (upd H a (.frz ({ cls := .type "tuple", data := .seq us.toArray } : Obj) (.tup xs))) { s with heap := h', toks := t' } :=
  I.laid k hp ⟨e, z, us, r, _, e, rfl, _, rfl⟩
/-- a written tuple -/
def tTupN (t : TA) : TE := fun σ H Q => t σ H fun xs H1 => xs.length ≤ sizeLine ∧ ∀ (p : Addr) (o : Obj), o.dict = none → H1 p = none → Q (.ref p) (upd H1 p (.frz o (.tup xs)))
theorem pe_tupN {X : Cx} {es : List Expr} {t : TA} {pos : Pos} {k : Nat} (h : PA X es t) : PE X (.Tuple es k pos) (tTupN t) := by
  constructor
  intro pins s σ H Q I hq
  refine wpAny_Tuple_spliced (thn (h.run pos pins s σ H _ I hq) fun us s1 hp => ?_)
  obtain ⟨xs, H1, I1, r, z, q⟩ := hp
  exact ⟨by rw [← r.length]; exact z, .ref s1.heap.objs.size, _, newT (t' := s1.toks) I1 (fun b u e => Heap.get?_push_of_some _ e) (Nat.le_refl _) (Heap.get?_push_size _ rfl) r z, rfl, q _ _ rfl (I1.hok.fresh (Nat.le_refl _))⟩
/-- t + u -/
theorem op_catN {X : Cx} : OpR X (binaryOp .Add) (fun x y H Q => ∃ a b xs ys, x = .ref a ∧ y = .ref b ∧ SqT X.K H a xs ∧ SqT X.K H b ys ∧ xs.length + ys.length ≤ sizeLine ∧
    (xs = [] → Q (.ref b) H) ∧ (xs ≠ [] → ys = [] → Q (.ref a) H) ∧ (xs ≠ [] → ys ≠ [] → ∀ (p : Addr) (o : Obj), o.dict = none → H p = none → Q (.ref p) (upd H p (.frz o (.tup (xs ++ ys)))))) := by
  intro pins s σ H x y v u Q I rx ry hq
  obtain ⟨a, b, xs, ys, rfl, rfl, ha, hb, hz, k0, k1, k2⟩ := hq
  cases rx
  cases ry
  obtain ⟨us, ru, pu, _⟩ := I.tuple ha
  obtain ⟨ws, rw', pw, _⟩ := I.tuple hb
  by_cases hx : xs = []
  · subst hx
    cases ru
    exact cat_tup0 pu pw ⟨.ref b, H, I, rfl, k0 rfl⟩
  · refine HT.cat_tup pu pw (fun z => hx (ru.nil_iff.mp z)) (fun z => ⟨.ref a, H, I, rfl, k1 hx (rw'.nil_iff.mp z)⟩) (fun z => ?_) (by rw [← ru.length, ← rw'.length]; exact hz)
    exact ⟨.ref s.heap.objs.size, _, newT (t' := s.toks) I (fun b ob q => Heap.get?_push_of_some _ q) (Nat.le_refl _) (Heap.get?_push_size _ rfl) (ru.append rw') (by rw [List.length_append]; exact hz), rfl,
      k2 hx (fun e => z (rw'.nil_iff.mpr e)) _ _ rfl (I.hok.fresh (Nat.le_refl _))⟩
/-- t[lo:hi] -/
theorem sl_tupN {X : Cx} : SlR X (fun x lo hi H Q => ∃ a xs, x = .ref a ∧ SqT X.K H a xs ∧ (HT.sIx xs.length 0 lo = 0 ∧ HT.sIx xs.length xs.length hi = xs.length → Q (.ref a) H) ∧
    (∀ (p : Addr) (o : Obj), o.dict = none → H p = none → Q (.ref p) (upd H p (.frz o (.tup (cutV xs lo hi)))))) := by
  intro pins s σ H x v vl vu lo hi sl Q I rx hs pl pu hq
  obtain ⟨a, xs, rfl, hx, k1, k2⟩ := hq
  cases rx
  obtain ⟨us, r, ht, hz⟩ := I.tuple hx
  have hl : us.toArray.size = xs.length := by rw [List.size_toArray, r.length]
  refine ⟨"tuple", _, PyProof.Rows.slot_tuple_getitem.lookup, ht.typeIs, ?_⟩
  by_cases hw : HT.sIx xs.length 0 lo = 0 ∧ HT.sIx xs.length xs.length hi = xs.length
  · exact getItem_tuple_whole ht hs pl pu (hl.symm ▸ hw) ⟨.ref a, H, I, rfl, k1 hw⟩
  · refine HT.getItem_tuple_cut ht hs pl pu (hl.symm ▸ hw) ?_ (hl.symm ▸ hz)
    rw [hl]
    exact ⟨.ref s.heap.objs.size, _, newT (t' := s.toks) I (fun b ob q => Heap.get?_push_of_some _ q) (Nat.le_refl _) (Heap.get?_push_size _ rfl) ((r.drop _).take _) (Nat.le_trans (cutV_length xs lo hi) hz), rfl,
      k2 _ _ rfl (I.hok.fresh (Nat.le_refl _))⟩
/-- tuple(x) -/
theorem call_tupN {X : Cx} : CallR X (.type "tuple") (fun xs H Q => ∃ p ys, xs = [.ref p] ∧ ((SqL X.K H p ys ∧ ∀ (l : Addr) (o : Obj), o.dict = none → H l = none → Q (.ref l) (upd H l (.frz o (.tup ys)))) ∨ (SqT X.K H p ys ∧ Q (.ref p) H))) := by
  intro pins s σ H xs us Q I r hq
  obtain ⟨p, ys, rfl, hq⟩ := hq
  obtain ⟨u, rfl, rx⟩ := vals1 r
  cases rx
  rcases hq with ⟨hl, k⟩ | ⟨ht, k⟩
  · obtain ⟨ws, r', pl, hz⟩ := I.list hl
    refine call_tuple_list pl.isList (fun h' kp => ?_) (by rw [List.size_toArray, ← r'.length]; exact hz)
    have I1 : L2.Inv X pins σ H { s with heap := h' } := I.kept (t' := s.toks) kp
    exact ⟨.ref h'.objs.size, _, newT (s := { s with heap := h' }) (t' := s.toks) I1 (fun b ob q => Heap.get?_push_of_some _ q) (Nat.le_refl _) (Heap.get?_push_size _ rfl) r' hz, rfl, k _ _ rfl (I1.hok.fresh (Nat.le_refl _))⟩
  · obtain ⟨ws, _, pl, _⟩ := I.tuple ht
    exact call_tuple_same pl ⟨.ref p, H, I, rfl, k⟩

/-! ### what comes of an operation on values -/
variable (P w K mg) in
inductive Rs (G : Gh) (H : Hp) : RV → V → Hp → Prop
  | same {v : V} {d : D} : RD P w K mg G v d → Rs G H (.v d) v H
  | tup {p : Addr} {o : Obj} {xs : List V} {ds : List D} : H p = none → o.dict = none → RDs P w K mg G xs ds → Rs G H (.v (.tup ds)) (.ref p) (upd H p (.frz o (.tup xs)))
  | lst {p : Addr} {xs : List V} {ds : List D} : H p = none → RDs P w K mg G xs ds → Rs G H (.l ds) (.ref p) (upd H p (.lst xs))
  | sd {p : Addr} {kvs : List (L2.Key × V)} {ks : List Str} {vs : List D} : H p = none → RSs P w K mg G kvs ks vs → Rs G H (.v (.sd ks vs)) (.ref p) (upd H p (.dK kvs))
theorem SR.res {H' : Hp} {r : RV} {v : V} (R : SR P w K mg B G s σ H) (h : Rs P w K mg G H r v H') : ∃ G', G.Le G' ∧ SR P w K mg B G' s σ H' ∧ RR P w K mg B G' H' r v ∧ Alone s σ r v := by
  cases h with
  | same h => exact ⟨G, .rfl, R, h, fun z => nomatch z⟩
  | tup h d r => exact ⟨_, R.leNew h, R.newI h, .tup (.inl ⟨_, Gh.fz_at, d⟩) (r.le (R.leNew h)), fun z => nomatch z⟩
  | sd h r => exact ⟨_, R.leNew h, R.newI h, .sd Gh.fz_at (r.le (R.leNew h)), fun z => nomatch z⟩
  | lst h r =>
    refine ⟨G, .rfl, R.new h, ⟨_, _, rfl, upd_same, r, R.own1 h⟩, fun _ i ri e hf => R.noslot h i ri e hf⟩
/-- the end of an operation -/
theorem kV_res {H1 H' : Hp} {G1 : Gh} {r : RV} {v : V} {s1 : S} (h : kV P w K mg B G σ Q r s1) (l : G.Le G1) (R : SR P w K mg B G1 s1 σ H1) (q : Rs P w K mg G1 H1 r v H') : Q v H' := by
  obtain ⟨G2, l2, R2, hr, al⟩ := R.res q
  exact h v H' G2 (l.trans l2) R2 hr al
def Sub (G : Gh) (H : Hp) : Prop := ∀ a o, G.I a = some o → H a = some o
theorem SR.sub (R : SR P w K mg B G s σ H) : Sub G H := R.m.sub
theorem Vw.tuple {v : V} {ds : List D} (h : Vw P w K mg G H v (.tup ds)) (sb : Sub G H) : ∃ a xs, v = .ref a ∧ SqT K H a xs ∧ TupN K G.I a xs ∧ RDs P w K mg G xs ds := by
  rcases h with h | ⟨_, _, _, _, e, _⟩ | ⟨_, _, _, _, _, e, _⟩
  · cases h with
    | tup h r => exact ⟨_, _, rfl, SqT.le sb h.sq, h, r⟩
  · cases e
  · cases e
theorem Vw.list {v : V} {ds : List D} (h : Vw P w K mg G H v (.lst ds)) (sb : Sub G H) : ∃ a xs, v = .ref a ∧ SqL K H a xs ∧ RDs P w K mg G xs ds := by
  rcases h with h | ⟨a, xs, _, e1, e, h1, r⟩ | ⟨_, _, _, _, _, e, _⟩
  · cases h with
    | lst h r => exact ⟨_, _, rfl, SqL.le sb h, r⟩
  · cases e
    exact ⟨a, xs, e1, SqL.of h1, r⟩
  · cases e
theorem Vw.dict {v : V} {ks vs : List D} (h : Vw P w K mg G H v (.dic ks vs)) (sb : Sub G H) : ∃ a xs, v = .ref a ∧ H a = some (DicO P w a xs) ∧ RKs P w K mg G xs ks vs := by
  rcases h with h | ⟨a, xs, _, e1, e, h1, r⟩ | ⟨a, xs, _, _, e1, e, h1, r⟩
  · cases h with
    | dic h r => exact ⟨_, _, rfl, sb _ _ h, r⟩
  · cases e
  · cases e
    exact ⟨a, xs, e1, h1, r⟩
theorem Vw.int {v : V} {i : Int} (h : Vw P w K mg G H v (.int i)) : v = .int i := by
  rcases h with h | ⟨_, _, _, _, e, _⟩ | ⟨_, _, _, _, _, e, _⟩
  · cases h; rfl
  · cases e
  · cases e
theorem Vw.str {v : V} {i : Str} (h : Vw P w K mg G H v (.str i)) : v = .str i := by
  rcases h with h | ⟨_, _, _, _, e, _⟩ | ⟨_, _, _, _, _, e, _⟩
  · cases h; rfl
  · cases e
  · cases e
theorem Vw.bl {v : V} {i : Bool} (h : Vw P w K mg G H v (.bl i)) : v = .bl i := by
  rcases h with h | ⟨_, _, _, _, e, _⟩ | ⟨_, _, _, _, _, e, _⟩
  · cases h; rfl
  · cases e
  · cases e
theorem RD.int_inv {v : V} {i : Int} (h : RD P w K mg G v (.int i)) : v = .int i := by cases h; rfl
theorem RD.bl_inv {v : V} {i : Bool} (h : RD P w K mg G v (.bl i)) : v = .bl i := by cases h; rfl
end
end Pah
end
section
set_option maxHeartbeats 200000
/-! Ops: the operators on values as the evaluator has them. -/
namespace Pah
open PySem PySem.Spec PyProof.Rows L2
section
variable {P : Program} {w : World} {K : PySem.W.Frag} {mg : Str → Option Value} {G : Gh} {H : Hp}

/-! ### data -/
mutual
theorem plainN_py : ∀ (n : Nat) (d : D), d.plainN n = true → d.py.canLay0 = true ∧ d.py.depth ≤ n
  | n, .non, _ => ⟨by simp [D.py, PyData.canLay0], by simp [D.py, PyData.depth]⟩
  | n, .bl b, _ => ⟨by simp [D.py, PyData.canLay0], by simp [D.py, PyData.depth]⟩
  | n, .int i, _ => ⟨by simp [D.py, PyData.canLay0], by simp [D.py, PyData.depth]⟩
  | n, .str x, h => ⟨by simpa [D.py, PyData.canLay0, D.plainN] using h, by simp [D.py, PyData.depth]⟩
  | 0, .tup ds, h => by simp [D.plainN] at h
  | 0, .lst ds, h => by simp [D.plainN] at h
  | n + 1, .tup ds, h => by
    obtain ⟨h1, h2⟩ := plainsN_py n ds (by simpa [D.plainN] using h)
    exact ⟨by simpa [D.py, PyData.canLay0] using h1, by simp only [D.py, PyData.depth]; omega⟩
  | n + 1, .lst ds, h => by
    obtain ⟨h1, h2⟩ := plainsN_py n ds (by simpa [D.plainN] using h)
    exact ⟨by simpa [D.py, PyData.canLay0] using h1, by simp only [D.py, PyData.depth]; omega⟩
  | n, .dic _ _, h => by simp [D.plainN] at h
  | n, .ref _, h => by simp [D.plainN] at h
  | n, .fn _, h => by simp [D.plainN] at h
theorem plainsN_py : ∀ (n : Nat) (ds : List D), plainsN n ds = true → PyData.canLayAll0 (pys ds) = true ∧ PyData.depthAll (pys ds) ≤ n
  | n, [], _ => ⟨by simp [pys, PyData.canLayAll0], by simp [pys, PyData.depthAll]⟩
  | n, d :: ds, h => by
    simp only [plainsN, Bool.and_eq_true] at h
    obtain ⟨a1, a2⟩ := plainN_py n d h.1
    obtain ⟨b1, b2⟩ := plainsN_py n ds h.2
    exact ⟨by simp [pys, PyData.canLayAll0, a1, b1], by simp only [pys, PyData.depthAll]; omega⟩
end
theorem plain_shaped {d : D} (h : d.plain = true) : SeqAt.shaped d.py = true := by
  obtain ⟨h1, h2⟩ := plainN_py 20 d h
  unfold SeqAt.shaped
  rw [h1, Bool.true_and]
  exact decide_eq_true (by omega)
theorem plains_shaped {ds : List D} (h : plains ds = true) : PyData.canLayAll0 (pys ds) = true ∧ PyData.depthAll (pys ds) ≤ 20 := plainsN_py 20 ds h
mutual
theorem RD.dp (sb : Sub G H) : ∀ {v : V} {d : D} (n : Nat), d.plainN n = true → RD P w K mg G v d → Dp K H v d.py
  | _, _, _, _, .non => .non
  | _, _, _, _, .bl b => .bl b
  | _, _, _, _, .int i => .int i
  | _, _, _, _, .str x => .str x
  | _, _, 0, h, .tup _ _ => by simp [D.plainN] at h
  | _, _, 0, h, .lst _ _ => by simp [D.plainN] at h
  | _, _, n + 1, h, .tup q r => .tup (SqT.le sb q.sq) (RDs.dp sb n (by simpa [D.plainN] using h) r)
  | _, _, n + 1, h, .lst q r => .lst (SqL.le sb q) (RDs.dp sb n (by simpa [D.plainN] using h) r)
  | _, _, _, h, .dic _ _ => by simp [D.plainN] at h
  | _, _, _, h, .ref _ => by simp [D.plainN] at h
  | _, _, _, h, .fn _ _ => by simp [D.plainN] at h
theorem RDs.dp (sb : Sub G H) : ∀ {vs : List V} {ds : List D} (n : Nat), plainsN n ds = true → RDs P w K mg G vs ds → DpAll K H vs (pys ds)
  | _, _, _, _, .nil => .nil
  | _, _, n, h, .cons q r => by
    simp only [plainsN, Bool.and_eq_true] at h
    exact .cons (RD.dp sb n h.1 q) (RDs.dp sb n h.2 r)
end
theorem Vw.dp (sb : Sub G H) {v : V} {d : D} (p : d.plain = true) (h : Vw P w K mg G H v d) : Dp K H v d.py := by
  rcases h with h | ⟨a, xs, ds, rfl, rfl, h1, r⟩ | ⟨_, _, _, _, _, rfl, _⟩
  · exact h.dp sb 20 p
  · exact .lst (SqL.of h1) (r.dp sb 19 (by simpa [D.plain, D.plainN] using p))
  · simp [D.plain, D.plainN] at p
theorem any_pys (f : PyData → Bool) : ∀ ds : List D, (pys ds).any f = ds.any fun z => f z.py
  | [] => rfl
  | d :: ds => by rw [pys, List.any_cons, List.any_cons, any_pys f ds]

/-! ### operators -/
variable (P w K mg) in
def rBin (o : BOp) : R2 := fun x y H Q => ∃ (G : Gh) (d1 d2 : D) (r : RV), Sub G H ∧ Vw P w K mg G H x d1 ∧ Vw P w K mg G H y d2 ∧ binop o d1 d2 = some r ∧ ∀ v H', Rs P w K mg G H r v H' → Q v H'
def bop : BOp → Operator
  | .add => .Add | .sub => .Sub | .mul => .Mult | .mod => .Mod | .fdiv => .FloorDiv | .pow => .Pow


theorem op_catL {X : Cx} : OpR X (binaryOp .Add) (fun x y H Q => ∃ l b xs zs, x = .ref l ∧ y = .ref b ∧ SqL X.K H l xs ∧ SqL X.K H b zs ∧ xs.length + zs.length ≤ sizeLine ∧ ∀ p, H p = none → Q (.ref p) (upd H p (.lst (xs ++ zs)))) := by
  intro pins s σ H x y v u Q I rx ry h
  obtain ⟨l, b, xs, zs, rfl, rfl, hH, hB, hz, q⟩ := h
  cases rx
  cases ry
  obtain ⟨its, r, ⟨⟨cls, dd, data, sl⟩, n, e, hc, hd0, hd⟩, hl⟩ := I.list hH
  obtain ⟨its2, r2, ⟨⟨cls2, dd2, data2, sl2⟩, n2, e2, hc2, hd02, hd2⟩, hl2⟩ := I.list hB
  simp only at hc hd hd0 hc2 hd2 hd02
  subst hc hd hd0 hc2 hd2 hd02
  have a1 := r.length
  have a2 := r2.length
  have hz3 : its.toArray.size + its2.toArray.size ≤ sizeLine := by rw [List.size_toArray, List.size_toArray]; omega
  refine concat_meets ⟨_, e, rfl⟩ ⟨_, e2, rfl⟩ noFill_list_add seq_list_add PySem.F.slot_list_add PySem.F.entry_list_add (PySem.F.args_list_add_2 _ _) (list_addW l b its.toArray its2.toArray n n2 none none sl sl2 hz3) ⟨e, e2, ?_⟩
  have ea : its.toArray ++ its2.toArray = (its ++ its2).toArray := by simp
  rw [ea]
  exact ⟨.ref _, _, I.lnew (t' := s.toks) (r.append r2) (by rw [List.length_append]; omega), rfl, q _ I.fresh⟩
open AutoSeq1 (wpAny_loadPart') in
theorem list_mulW (l : Addr) (items : Array Value) (n : Nat) (dd : Option Addr) (sl : Array (Option Value)) (x : Int) (u : Tok) (hc0 : ¬(!Builtin.List.listFitsIndex x) = true) (hc1 : ¬items.size * x.toNat > (2 ^ 63 - 1) / 8) (hc2 : ¬Builtin.List.listTooLong (items.size * x.toNat) = true)
    (hsz : (List.foldl (fun x1 x2 => x1 ++ x2) #[] (List.replicate (if items.isEmpty = true then 0 else x.toNat) items)).size ≤ sizeLine) :
    Meets (Builtin.«list.__mul__» ⟨[.ref l, .int x u], []⟩) (fun _ R s => s.heap.get? l = some { cls := .type "list", dict := dd, data := .seq items n, slots := sl } ∧ R (.ok (.ret (Value.ref s.heap.objs.size))) { s with heap := s.heap.push { cls := Value.type "list", data := Data.seq (List.foldl (fun x1 x2 => x1 ++ x2) #[] (List.replicate (if items.isEmpty = true then 0 else x.toNat) items)) }, toks := s.toks }) :=
  .of_wp fun prog w A R s h => by
    obtain ⟨hp, g, d, tk, os⟩ := s; obtain ⟨hl, h⟩ := h
    have f1 := AutoSeq1.idx_int
    wp_walk using wpAny_loadPart' hl
    refine wpAny_ite_false (decide_eq_false (Nat.not_lt.mpr hsz)) ?_
    wp_walk using wpAny_loadPart' hl
    exact ⟨_, rfl, h⟩
open AutoSeq1 (wpAny_loadPart') in
theorem int_rmul_listW (a : Int) (t : Tok) (l : Addr) (items : Array Value) (n : Nat) (dd : Option Addr) (sl : Array (Option Value)) :
    Meets (Builtin.«int.__rmul__» ⟨[.int a t, .ref l], []⟩) (fun _ R s => s.heap.get? l = some { cls := .type "list", dict := dd, data := .seq items n, slots := sl } ∧ R (.ok (.ret Value.notImplemented)) s) :=
  .of_wp fun prog w A R s h => by obtain ⟨hp, g, d, tk, os⟩ := s; obtain ⟨hl, h⟩ := h; wp_walk using wpAny_loadPart' hl; exact ⟨_, rfl, h⟩
theorem op_repL {X : Cx} : OpR X (binaryOp .Mult) (fun x y H Q => ∃ l k xs, x = .ref l ∧ y = .int k ∧ SqL X.K H l xs ∧ 0 ≤ k ∧ k ≤ 1000 ∧ xs.length * k.toNat ≤ sizeLine ∧
    ∀ p, H p = none → Q (.ref p) (upd H p (.lst (List.replicate k.toNat xs).flatten))) := by
  intro pins s σ H x y v u Q I rx ry h
  obtain ⟨l, k, xs, rfl, rfl, hH, h1, h2, hz, q⟩ := h
  cases rx
  obtain ⟨t, rfl⟩ := ry
  obtain ⟨its, r, ⟨⟨cls, dd, data, sl⟩, n, e, hc, hd0, hd⟩, hl2⟩ := I.list hH
  simp only at hc hd hd0
  subst hc hd hd0
  have hl := r.length
  have hlen : its.toArray.size * k.toNat ≤ sizeLine := by rw [List.size_toArray, ← hl]; exact hz
  have hcap : ¬ its.toArray.size * k.toNat > (2 ^ 63 - 1) / 8 := by
    have : (sizeLine : Nat) ≤ (2 ^ 63 - 1) / 8 := by decide
    omega
  have hfit : ¬ (!Builtin.List.listFitsIndex k) = true := by
    rw [fitsIndex_both (by omega) (by omega)]
    exact Bool.false_ne_true
  have hlong : ¬ Builtin.List.listTooLong (its.toArray.size * k.toNat) = true := by
    rw [notLongL hlen]
    exact Bool.false_ne_true
  have hnew : List.foldl (fun x1 x2 => x1 ++ x2) #[] (List.replicate (if its.toArray.isEmpty = true then 0 else k.toNat) its.toArray) = (List.replicate k.toNat its).flatten.toArray := by
    have f0 : ∀ m : Nat, List.foldl (fun x1 x2 => x1 ++ x2) #[] (List.replicate m its.toArray) = (List.replicate m its).flatten.toArray := fun m => by
      have := foldl_rep its m []
      rw [List.nil_append] at this
      exact this
    rw [f0]
    cases its with
    | nil => simp
    | cons a r' => rw [if_neg (by simp)]
  have hsz : (List.foldl (fun x1 x2 => x1 ++ x2) #[] (List.replicate (if its.toArray.isEmpty = true then 0 else k.toNat) its.toArray)).size ≤ sizeLine := by
    rw [hnew, List.size_toArray, PyProof.Rows.lm_len_rep_flat, Nat.mul_comm, ← hl]; exact hz
  refine wpAny_binaryOp_repeat_ref (T := "list") (U := "int") (by decide) ⟨_, e, rfl⟩ (fun s' => typeIs_int s' k t) noFill_list_mul F.fills_int_mul F.slot_int_rmul repeat_list F.slot_int_index.lookup
    (call_meets F.slot_int_rmul (typeIs_int s k t) F.entry_int_rmul (F.args_int_rmul_2 _ _) (int_rmul_listW k t l its.toArray n none sl)
      ⟨e, rfl, ⟨_, e, rfl⟩, call_meets F.slot_list_mul ⟨_, e, rfl⟩ F.entry_list_mul (F.args_list_mul_2 _ _) (list_mulW l its.toArray n none sl k t hfit hcap hlong hsz) ⟨e, ?_⟩⟩)
  rw [hnew]
  exact ⟨.ref _, _, I.lnew (t' := s.toks) (r.rep k.toNat) (by rw [PyProof.Rows.lm_len_rep_flat, Nat.mul_comm]; exact hz), rfl, q _ I.fresh⟩
open AutoSeq1 (wpAny_loadPart') in
theorem tuple_mulW1 (l : Addr) (items : Array Value) (n : Nat) (dd : Option Addr) (sl : Array (Option Value)) (x : Int) (u : Tok) (c0 : (decide (x < -(2 ^ 63)) || decide (x ≥ 2 ^ 63)) = false) (c1 : (items.isEmpty || x == 1) = true) :
    Meets (Builtin.«tuple.__mul__» ⟨[.ref l, .int x u], []⟩) (fun _ R s => s.heap.get? l = some { cls := .type "tuple", dict := dd, data := .seq items n, slots := sl } ∧ R (.ok (.ret (Value.ref l))) s) :=
  .of_wp fun prog w A R s h => by
    obtain ⟨hp, g, d, tk, os⟩ := s
    obtain ⟨hl, h⟩ := h
    have f1 := AutoSeq1.idx_int
    wp_walk using wpAny_loadPart' hl
    repeat (first
      | (refine wpAny_ite_false (decide_eq_false (by rw [c0]; exact Bool.false_ne_true)) ?_; wp_walk using wpAny_loadPart' hl)
      | (refine wpAny_ite_true (decide_eq_true c1) ?_; wp_walk using wpAny_loadPart' hl))
    exact ⟨_, rfl, h⟩
open AutoSeq1 (wpAny_loadPart') in
theorem tuple_mulW0 (l : Addr) (items : Array Value) (n : Nat) (dd : Option Addr) (sl : Array (Option Value)) (x : Int) (u : Tok) (c0 : (decide (x < -(2 ^ 63)) || decide (x ≥ 2 ^ 63)) = false) (c1 : (items.isEmpty || x == 1) = false) (c2 : (decide (x ≤ 0) || items.isEmpty) = true) :
    Meets (Builtin.«tuple.__mul__» ⟨[.ref l, .int x u], []⟩) (fun _ R s => s.heap.get? l = some { cls := .type "tuple", dict := dd, data := .seq items n, slots := sl } ∧
      R (.ok (.ret (Value.ref s.heap.objs.size))) { s with heap := s.heap.push { cls := Value.type "tuple", data := Data.seq #[] }, toks := s.toks }) :=
  .of_wp fun prog w A R s h => by
    obtain ⟨hp, g, d, tk, os⟩ := s
    obtain ⟨hl, h⟩ := h
    have f1 := AutoSeq1.idx_int
    wp_walk using wpAny_loadPart' hl
    repeat (first
      | (refine wpAny_ite_false (decide_eq_false (by rw [c0]; exact Bool.false_ne_true)) ?_; wp_walk using wpAny_loadPart' hl)
      | (refine wpAny_ite_false (decide_eq_false (by rw [c1]; exact Bool.false_ne_true)) ?_; wp_walk using wpAny_loadPart' hl)
      | (refine wpAny_ite_true (decide_eq_true c2) ?_; wp_walk using wpAny_loadPart' hl))
    exact ⟨_, rfl, h⟩
theorem rep_length {α : Type} (n : Nat) (xs : List α) : (rep n xs).length = n * xs.length := PyProof.Rows.lm_len_rep_flat ..
theorem op_repTA {X : Cx} : OpR X (binaryOp .Mult) (fun x y H Q => ∃ l k xs, x = .ref l ∧ y = .int k ∧ SqT X.K H l xs ∧ 0 ≤ k ∧ k ≤ 1000 ∧ xs.length * k.toNat ≤ sizeLine ∧
    ((xs = [] ∨ k = 1) → Q (.ref l) H) ∧ (¬ (xs = [] ∨ k = 1) → ∀ (p : Addr) (o : Obj), o.dict = none → H p = none → Q (.ref p) (upd H p (.frz o (.tup (rep k.toNat xs)))))) := by
  intro pins s σ H x y v u Q I rx ry h
  obtain ⟨l, k, xs, rfl, rfl, hT, h1, h2, hz, q1, q2⟩ := h
  cases rx
  obtain ⟨t, rfl⟩ := ry
  obtain ⟨its, r, ⟨⟨cls, dd, data, sl⟩, ho, hc, n, hd⟩, hs⟩ := I.tuple hT
  simp only at hc hd
  subst hc hd
  have hle : its.length = xs.length := r.length.symm
  have c0 : (decide (k < -(2 ^ 63)) || decide (k ≥ 2 ^ 63)) = false := by
    rw [decide_eq_false (by omega), decide_eq_false (by omega)] <;> rfl
  have road : ∀ {Pm : Around → (Result → Shared → Prop) → Shared → Prop}, Meets (Builtin.«tuple.__mul__» ⟨[.ref l, .int k t], []⟩) Pm → Pm X.A (fun r s' => ∃ u, r = .ok (.ret u) ∧ EP X pins σ Q u s') s → True := fun _ _ => trivial
  have hem : its.toArray.isEmpty = decide (xs = []) := by
    cases its with
    | nil =>
      have : xs = [] := List.eq_nil_of_length_eq_zero hle.symm
      rw [decide_eq_true this]; rfl
    | cons a b =>
      have : xs ≠ [] := fun z => by rw [z] at hle; cases hle
      rw [decide_eq_false this]; rfl
  by_cases hs1 : xs = [] ∨ k = 1
  · have c1 : (its.toArray.isEmpty || k == 1) = true := by
      rw [hem]
      rcases hs1 with z | z
      · rw [decide_eq_true z]; rfl
      · rw [z]; simp
    refine wpAny_binaryOp_repeat_ref (T := "tuple") (U := "int") (by decide) ⟨_, ho, rfl⟩ (fun s' => typeIs_int s' k t) noFill_tuple_mul F.fills_int_mul F.slot_int_rmul repeat_tuple F.slot_int_index.lookup
      (call_meets F.slot_int_rmul (typeIs_int s k t) F.entry_int_rmul (F.args_int_rmul_2 _ _) (int_rmul_tuple k t l its.toArray n dd sl)
        ⟨ho, rfl, ⟨_, ho, rfl⟩, call_meets F.slot_tuple_mul ⟨_, ho, rfl⟩ F.entry_tuple_mul (F.args_tuple_mul_2 _ _) (tuple_mulW1 l its.toArray n dd sl k t c0 c1) ⟨ho, ?_⟩⟩)
    exact ⟨.ref l, H, I, rfl, q1 hs1⟩
  · have hne : xs ≠ [] := fun z => hs1 (.inl z)
    have hk1 : k ≠ 1 := fun z => hs1 (.inr z)
    have c1 : (its.toArray.isEmpty || k == 1) = false := by
      rw [hem, decide_eq_false hne, Bool.false_or]
      exact beq_eq_false_iff_ne.mpr hk1
    by_cases hk0 : k = 0
    · have c2 : (decide (k ≤ 0) || its.toArray.isEmpty) = true := by rw [decide_eq_true (by omega)]; rfl
      refine wpAny_binaryOp_repeat_ref (T := "tuple") (U := "int") (by decide) ⟨_, ho, rfl⟩ (fun s' => typeIs_int s' k t) noFill_tuple_mul F.fills_int_mul F.slot_int_rmul repeat_tuple F.slot_int_index.lookup
        (call_meets F.slot_int_rmul (typeIs_int s k t) F.entry_int_rmul (F.args_int_rmul_2 _ _) (int_rmul_tuple k t l its.toArray n dd sl)
          ⟨ho, rfl, ⟨_, ho, rfl⟩, call_meets F.slot_tuple_mul ⟨_, ho, rfl⟩ F.entry_tuple_mul (F.args_tuple_mul_2 _ _) (tuple_mulW0 l its.toArray n dd sl k t c0 c1 c2) ⟨ho, ?_⟩⟩)
      have e0 : rep k.toNat xs = [] := by subst hk0; rfl
      rw [e0] at q2
      exact ⟨.ref s.heap.objs.size, _, newT (t' := s.toks) (us := []) I (fun b ob q => Heap.get?_push_of_some _ q) (Nat.le_refl _) (Heap.get?_push_size _ rfl) .nil (Nat.zero_le _), rfl, q2 hs1 _ _ rfl (I.hok.fresh (Nat.le_refl _))⟩
    · have hi : its.toArray.isEmpty = false := by rw [hem, decide_eq_false hne]
      have hsz0 : its.toArray.size = xs.length := by rw [List.size_toArray, hle]
      have flen : (List.replicate k.toNat its).flatten.length ≤ sizeLine := by
        rw [PyProof.Rows.lm_len_rep_flat, hle, Nat.mul_comm]; exact hz
      have hm : ((its.toArray.size : Nat) : Int) * k ≤ (sizeLine : Nat) := by
        rw [hsz0]
        have e : ((xs.length : Nat) : Int) * k = ((xs.length * k.toNat : Nat) : Int) := by
          rw [Int.natCast_mul, Int.toNat_of_nonneg h1]
        rw [e]
        exact Int.ofNat_le.mpr hz
      have hsl := sizeLine_eq
      have c2 : (decide (k ≤ 0) || its.toArray.isEmpty) = false := by
        rw [hi, Bool.or_false]
        exact decide_eq_false (by omega)
      have c4 : Builtin.Tuple.tupleTooMany (((its.toArray.size : Nat) : Int) * k) = false := by
        unfold Builtin.Tuple.tupleTooMany
        exact decide_eq_false (by omega)
      refine wpAny_binaryOp_repeat_ref (T := "tuple") (U := "int") (by decide) ⟨_, ho, rfl⟩ (fun s' => typeIs_int s' k t) noFill_tuple_mul F.fills_int_mul F.slot_int_rmul repeat_tuple F.slot_int_index.lookup
        (call_meets F.slot_int_rmul (typeIs_int s k t) F.entry_int_rmul (F.args_int_rmul_2 _ _) (int_rmul_tuple k t l its.toArray n dd sl)
          ⟨ho, rfl, ⟨_, ho, rfl⟩, call_meets F.slot_tuple_mul ⟨_, ho, rfl⟩ F.entry_tuple_mul (F.args_tuple_mul_2 _ _) (tuple_mulW l its.toArray n dd sl k t c0 c1 c2 (by rw [sizeLine_eq] at hm; omega) c4 (by rw [size_rep, List.size_toArray]; exact flen)) ⟨ho, ?_⟩⟩)
      rw [size_rep]
      exact ⟨.ref s.heap.objs.size, _, newT (t' := s.toks) I (fun b ob q => Heap.get?_push_of_some _ q) (Nat.le_refl _) (Heap.get?_push_size _ rfl) (r.rep k.toNat) (by show (rep k.toNat xs).length ≤ _; rw [rep_length, Nat.mul_comm]; exact hz), rfl, q2 hs1 _ _ rfl (I.hok.fresh (Nat.le_refl _))⟩

/-- // by a positive divisor that has at most two hundred bits -/
theorem op_fdivB {X : Cx} : OpR X (binaryOp .FloorDiv) (rI (fun _ j => 0 < j ∧ j < 2 ^ 200) fun i j => .int (i / j)) := opI fun i j _ _ _ _ _ hc q => by
  have h1 : (0 : Int) < j := hc.1
  have h2 : j < 2 ^ 200 := hc.2
  refine floordiv_int (by omega) (by rw [Int.fdiv_eq_ediv_of_nonneg i (by omega)]; exact q) (.inl (PyProof.noPylong_of_log2 ?_))
  have h3 : j.natAbs < 2 ^ 200 := by
    have e : ((2 : Int) ^ 200) = ((2 ^ 200 : Nat) : Int) := by norm_cast
    rw [e] at h2
    omega
  have h4 : j.natAbs.log2 < 200 := (Nat.log2_lt (by omega)).mpr h3
  omega
theorem lim_eq : lim = sizeLine := by rw [sizeLine_eq]; rfl
theorem rep_nil {α : Type} (n : Nat) : rep n ([] : List α) = [] := by
  induction n with
  | zero => rfl
  | succ n ih => simp [rep, List.replicate_succ] at ih ⊢
theorem rep_one {α : Type} (xs : List α) : rep 1 xs = xs := by simp [rep]
theorem opBin {X : Cx} (hP : X.prog = P) (hw : X.w = w) (hK : X.K = K) (o : BOp) : OpR X (binaryOp (bop o)) (rBin P w K mg o) := by
  subst hP hw hK
  intro pins s σ H x y v u Q I rx ry h
  obtain ⟨G, d1, d2, r, sb, v1, v2, e, q⟩ := h
  unfold binop at e
  split at e
  -- int + int
  · cases e
    obtain rfl := v1.int
    obtain rfl := v2.int
    exact op_add pins s σ H _ _ v u Q I rx ry ⟨_, _, rfl, rfl, q _ _ (.same (.int _))⟩
  · split at e
    · rename_i hl
      cases e
      obtain rfl := v1.str
      obtain rfl := v2.str
      exact op_add_str pins s σ H _ _ v u Q I rx ry ⟨_, _, rfl, rfl, by rw [← lim_eq]; exact hl, q _ _ (.same (.str _))⟩
    · cases e
  · split at e
    · rename_i hl
      cases e
      obtain ⟨a, xs, rfl, h1, g1, r1⟩ := v1.tuple sb
      obtain ⟨b, ys, rfl, h2, g2, r2⟩ := v2.tuple sb
      have l1 := r1.length
      have l2 := r2.length
      refine op_catN pins s σ H _ _ v u Q I rx ry ⟨_, _, xs, ys, rfl, rfl, h1, h2, by rw [← lim_eq]; omega, fun z => ?_, fun _ z => ?_, fun _ _ p o hd hp => ?_⟩
      · subst z
        cases r1
        exact q _ _ (.same (.tup g2 r2))
      · subst z
        cases r2
        refine q _ _ (.same ?_)
        rw [List.append_nil]
        exact .tup g1 r1
      · exact q _ _ (.tup hp hd (r1.append r2))
    · cases e
  · split at e
    · rename_i hl
      cases e
      obtain ⟨a, xs, rfl, h1, r1⟩ := v1.list sb
      obtain ⟨b, ys, rfl, h2, r2⟩ := v2.list sb
      have l1 := r1.length
      have l2 := r2.length
      exact op_catL pins s σ H _ _ v u Q I rx ry ⟨_, _, xs, ys, rfl, rfl, h1, h2, by rw [← lim_eq]; omega, fun p hp => q _ _ (.lst hp (r1.append r2))⟩
    · cases e
  · cases e
    obtain rfl := v1.int
    obtain rfl := v2.int
    exact op_sub pins s σ H _ _ v u Q I rx ry ⟨_, _, rfl, rfl, q _ _ (.same (.int _))⟩
  · split at e
    · rename_i hl
      cases e
      obtain rfl := v1.int
      obtain rfl := v2.int
      exact op_mul pins s σ H _ _ v u Q I rx ry ⟨_, _, rfl, rfl, hl, q _ _ (.same (.int _))⟩
    · cases e
  · split at e
    · rename_i hl
      obtain ⟨hl1, hl2, hl3⟩ := hl
      cases e
      obtain ⟨a, xs, rfl, h1, g1, r1⟩ := v1.tuple sb
      obtain rfl := v2.int
      have l1 := r1.length
      refine op_repTA pins s σ H _ _ v u Q I rx ry ⟨_, _, xs, rfl, rfl, h1, hl1, hl2, by rw [l1, ← lim_eq]; exact hl3, fun z => ?_, fun _ p o hd hp => ?_⟩
      · refine q _ _ (.same ?_)
        rcases z with z | z
        · subst z
          cases r1
          rw [rep_nil]
          exact .tup g1 .nil
        · subst z
          rw [show (1 : Int).toNat = 1 from rfl, rep_one]
          exact .tup g1 r1
      · exact q _ _ (.tup hp hd (r1.rep _))
    · cases e
  · split at e
    · rename_i hl
      obtain ⟨hl1, hl2, hl3⟩ := hl
      cases e
      obtain ⟨a, xs, rfl, h1, r1⟩ := v1.list sb
      obtain rfl := v2.int
      have l1 := r1.length
      exact op_repL pins s σ H _ _ v u Q I rx ry ⟨_, _, xs, rfl, rfl, h1, hl1, hl2, by rw [l1, ← lim_eq]; exact hl3, fun p hp => q _ _ (.lst hp (r1.rep _))⟩
    · cases e
  · split at e
    · rename_i hl
      cases e
      obtain rfl := v1.int
      obtain rfl := v2.int
      exact op_mod pins s σ H _ _ v u Q I rx ry ⟨_, _, rfl, rfl, hl, q _ _ (.same (.int _))⟩
    · cases e
  · split at e
    · rename_i hl
      cases e
      obtain rfl := v1.int
      obtain rfl := v2.int
      exact op_fdivB pins s σ H _ _ v u Q I rx ry ⟨_, _, rfl, rfl, hl, q _ _ (.same (.int _))⟩
    · cases e
  · split at e
    · rename_i hl
      cases e
      obtain rfl := v1.int
      obtain rfl := v2.int
      exact op_pow pins s σ H _ _ v u Q I rx ry ⟨_, _, rfl, rfl, hl, q _ _ (.same (.int _))⟩
    · cases e
  · cases e
end
end Pah
end
section
set_option maxHeartbeats 200000
/-! Ops2: comparisons, in, isinstance. -/
namespace Pah
open PySem PySem.Spec PyProof.Rows L2
section
variable {P : Program} {w : World} {K : PySem.W.Frag} {mg : Str → Option Value} {G : Gh} {H : Hp}

/-! ### dicts -/
mutual
theorem RD.nested {X : Cx} {pins : List (Addr × Obj)} {σ : L2.St} {s : Shared} (hK : X.K = K) (I : L2.Inv X pins σ H s) (sb : Sub G H) : ∀ {v : V} {d : D} {u : Value} (n : Nat), d.keyN n = true → RD P w K mg G v d → RelV v u → NestedIs s.heap d.nk u ∧ d.nk.depth ≤ n
  | _, _, _, n, _, .non, r => by cases r; exact ⟨.none, Nat.zero_le _⟩
  | _, _, _, n, _, .bl b, r => by cases r; exact ⟨.bool rfl, Nat.zero_le _⟩
  | _, _, _, n, _, .int i, r => by obtain ⟨t, rfl⟩ := r; exact ⟨.int _ _, Nat.zero_le _⟩
  | _, _, _, n, _, .str x, r => by obtain ⟨t, rfl⟩ := r; exact ⟨.text _ _, Nat.zero_le _⟩
  | _, _, _, 0, h, .tup _ _, r => by simp [D.keyN] at h
  | _, _, _, n + 1, h, .tup q rs, r => by
    cases r
    obtain ⟨its, rv, ⟨o, ho, hc, m, hd⟩, hz⟩ := I.tuple (by rw [hK]; exact SqT.le sb q.sq)
    obtain ⟨h1, h2⟩ := RDs.nested hK I sb n (by simpa [D.keyN] using h) rs rv
    exact ⟨.tup ho hc hd (by simpa using h1), by simp only [D.nk, NestedKey.depth]; omega⟩
  | _, _, _, n, h, .lst _ _, r => by simp [D.keyN] at h
  | _, _, _, n, h, .dic _ _, r => by simp [D.keyN] at h
  | _, _, _, n, h, .ref _, r => by simp [D.keyN] at h
  | _, _, _, n, h, .fn _ _, r => by simp [D.keyN] at h
theorem RDs.nested {X : Cx} {pins : List (Addr × Obj)} {σ : L2.St} {s : Shared} (hK : X.K = K) (I : L2.Inv X pins σ H s) (sb : Sub G H) : ∀ {vs : List V} {ds : List D} {us : List Value} (n : Nat), keysN n ds = true → RDs P w K mg G vs ds → Vals vs us → NestedAll s.heap (nks ds) us ∧ NestedKey.depthAll (nks ds) ≤ n
  | _, _, _, n, _, .nil, r => by cases r; exact ⟨.nil, Nat.zero_le _⟩
  | _, _, _, n, h, .cons q rs, .cons r r2 => by
    simp only [keysN, Bool.and_eq_true] at h
    obtain ⟨a1, a2⟩ := RD.nested hK I sb n h.1 q r
    obtain ⟨b1, b2⟩ := RDs.nested hK I sb n h.2 rs r2
    exact ⟨.cons a1 b1, by simp only [nks, NestedKey.depthAll]; omega⟩
end
theorem RD.isKey {X : Cx} {pins : List (Addr × Obj)} {σ : L2.St} {s : Shared} (hK : X.K = K) (I : L2.Inv X pins σ H s) (sb : Sub G H) {v : V} {d : D} (hk : d.key = true) (h : RD P w K mg G v d) : ∃ a, v = .ref a ∧ (nestedKind P w).is s.heap d.nk a := by
  cases d with
  | tup ds =>
    have h8 : (D.tup ds).keyN 8 = true := hk
    cases h with
    | tup q r =>
      obtain ⟨h1, h2⟩ := RD.nested hK I sb (u := .ref _) 8 h8 (.tup q r) rfl
      exact ⟨_, rfl, h1, h2⟩
  | _ => simp [D.key] at hk
theorem RKs.len : ∀ {xs : List (NestedKey × Addr × Value)} {ks vs : List D}, RKs P w K mg G xs ks vs → xs.length = ks.length ∧ ks.length = vs.length
  | _, _, _, .nil => ⟨rfl, rfl⟩
  | _, _, _, .cons _ _ _ _ r => by
    obtain ⟨h1, h2⟩ := RKs.len r
    simp only [List.length_cons]
    exact ⟨by rw [h1], by rw [h2]⟩
theorem RKs.is {X : Cx} {pins : List (Addr × Obj)} {σ : L2.St} {s : Shared} (hK : X.K = K) (I : L2.Inv X pins σ H s) (sb : Sub G H) : ∀ {xs : List (NestedKey × Addr × Value)} {ks vs : List D}, RKs P w K mg G xs ks vs → ∀ x ∈ xs, (nestedKind P w).is s.heap x.1 x.2.1
  | _, _, _, .nil => fun _ h => nomatch h
  | _, _, _, .cons a b c d r => fun x hx => by
    rcases List.mem_cons.mp hx with rfl | hx
    · obtain ⟨a', e, h⟩ := RD.isKey hK I sb a b
      cases e
      exact h
    · exact RKs.is hK I sb r x hx
/-- the dict, as the library has it -/
theorem dic_keyed {X : Cx} {pins : List (Addr × Obj)} {σ : L2.St} {s : Shared} (hP : X.prog = P) (hw : X.w = w) (hK : X.K = K) (I : L2.Inv X pins σ H s) (sb : Sub G H) {a : Addr} {xs : List (NestedKey × Addr × Value)} {ks vs : List D} (h : H a = some (DicO P w a xs)) (r : RKs P w K mg G xs ks vs) :
    (a == sysModules) = false ∧ xs.length ≤ sizeLine ∧ s.heap.DictOfH (nestedKind P w) a xs := by
  obtain ⟨⟨h1, h2, o, es, ep, e1, e2, e3, e4, e5⟩, _, _⟩ := I.hok a _ h
  exact ⟨h1, h2, o, es, ep, e1, e2, e3, e4, RKs.is hK I sb r, e5⟩
theorem RKs.at : ∀ {xs : List (NestedKey × Addr × Value)} {ks vs : List D} (k : D), RKs P w K mg G xs ks vs → (hasKey ks k = (atKey xs k.nk).isSome) ∧
    (∀ d, lookKey ks vs k = some d → ∃ p v, atKey xs k.nk = some p ∧ RelV v p.2 ∧ RD P w K mg G v d)
  | _, _, _, k, .nil => ⟨rfl, fun d h => by cases h⟩
  | _, _, _, k, .cons (k := k0) (ks := ks0) a b c d r => by
    obtain ⟨h1, h2⟩ := RKs.at k r
    by_cases q : k0.nk = k.nk
    · refine ⟨?_, fun d' h => ?_⟩
      · simp [hasKey, atKey, q]
      · unfold lookKey at h
        rw [if_pos q] at h
        cases h
        exact ⟨_, _, (by simp only [atKey, List.find?_cons, q, decide_true]; rfl), c, d⟩
    · refine ⟨?_, fun d' h => ?_⟩
      · have e : hasKey (k0 :: ks0) k = (decide (k0.nk = k.nk) || hasKey ks0 k) := rfl
        rw [e, h1, decide_eq_false q, Bool.false_or]
        simp only [atKey, List.find?_cons, decide_eq_false q]
      · unfold lookKey at h
        rw [if_neg q] at h
        obtain ⟨p, v, e, z⟩ := h2 d' h
        refine ⟨p, v, ?_, z⟩
        simp only [atKey, List.find?_cons, decide_eq_false q] at e ⊢
        exact e

/-! ### comparisons -/
variable (P w K mg) in
def rCmp (o : COp) : R2 := fun x y H Q => ∃ (G : Gh) (d1 d2 : D) (b : Bool), Sub G H ∧ Vw P w K mg G H x d1 ∧ Vw P w K mg G H y d2 ∧ cmpop o d1 d2 = some b ∧ Q (.bl b) H
def cop : COp → CmpOp
  | .eq => .Eq | .ne => .NotEq | .lt => .Lt | .le => .LtE | .gt => .Gt | .ge => .GtE | .isin => .In | .notin => .NotIn
theorem canLay_list {ds : List D} (h : plains ds = true) : SeqAt.shaped (.list (pys ds)) = true := by
  obtain ⟨h1, h2⟩ := plains_shaped h
  unfold SeqAt.shaped
  rw [Bool.and_eq_true]
  exact ⟨by simpa [PyData.canLay0] using h1, decide_eq_true (by simp only [PyData.depth]; omega)⟩
theorem isin_ok {X : Cx} (hP : X.prog = P) (hw : X.w = w) (hK : X.K = K) (hu : X.A.units + 65 < cLine) (neg : Bool) : OpR X (compareOp (if neg = true then .NotIn else .In)) (fun x y H Q => ∃ (G : Gh) (d1 d2 : D) (b : Bool), Sub G H ∧ Vw P w K mg G H x d1 ∧ Vw P w K mg G H y d2 ∧ isinD d1 d2 = some b ∧ Q (.bl (if neg = true then !b else b)) H) := by
  subst hP hw hK
  intro pins s σ H x y v u Q I rx ry h
  obtain ⟨G, d1, d2, b, sb, v1, v2, e, q⟩ := h
  have fin : ∀ {b' : Bool} {tk : Nat}, b' = (if neg = true then !b else b) → EP X pins σ Q (.bool b') { s with toks := tk } := fun {b' tk} e => ⟨.bl b', H, I.tok tk, rfl, e ▸ q⟩
  have fin0 : ∀ {b' : Bool}, b' = (if neg = true then !b else b) → EP X pins σ Q (.bool b') s := fun {b'} e => ⟨.bl b', H, I, rfl, e ▸ q⟩
  unfold isinD at e
  split at e
  · rename_i ds
    split at e
    · rename_i hp
      cases e
      obtain ⟨p1, p2⟩ := hp
      obtain ⟨a, xs, rfl, h2, g2, r2⟩ := v2.tuple sb
      cases ry
      obtain ⟨as, k1⟩ := Dp.reads I _ _ _ (v1.dp sb p1) rx
      obtain ⟨bs, k2⟩ := Dp.reads I (.tuple (pys ds)) (.ref a) (.ref a) (.tup h2 (r2.dp sb 20 p2)) rfl
      obtain ⟨c1, c2⟩ := plains_shaped p2
      have room := room_in_shaped (xs := pys ds) (plain_shaped p1) hu
      cases neg with
      | true => exact SeqAt.notIn_tuple_reads k2 k1 c1 (SeqAt.canLay_of_shaped (plain_shaped p1)) room (fin0 (by rw [any_pys]; rfl))
      | false => exact SeqAt.in_tuple_reads k2 k1 c1 (SeqAt.canLay_of_shaped (plain_shaped p1)) room (fin0 (by rw [any_pys]; rfl))
    · cases e
  · rename_i ds
    split at e
    · rename_i hp
      cases e
      obtain ⟨p1, p2⟩ := hp
      obtain ⟨a, xs, rfl, h2, r2⟩ := v2.list sb
      cases ry
      obtain ⟨as, k1⟩ := Dp.reads I _ _ _ (v1.dp sb p1) rx
      obtain ⟨bs, k2⟩ := Dp.reads I (.list (pys ds)) (.ref a) (.ref a) (.lst h2 (r2.dp sb 20 p2)) rfl
      obtain ⟨c1, c2⟩ := plains_shaped p2
      have room := room_in_shaped (xs := pys ds) (plain_shaped p1) hu
      cases neg with
      | true => exact SeqAt.notIn_list_reads k2 k1 c1 (SeqAt.canLay_of_shaped (plain_shaped p1)) room (fin0 (by rw [any_pys]; rfl))
      | false => exact SeqAt.in_list_reads k2 k1 c1 (SeqAt.canLay_of_shaped (plain_shaped p1)) room (fin0 (by rw [any_pys]; rfl))
    · cases e
  · rename_i t
    split at e
    · rename_i z
      split at e
      · rename_i hl
        cases e
        obtain rfl := v1.str
        obtain rfl := v2.str
        have ez : z = ⟨#[z.cps.getD 0 0]⟩ := by
          obtain ⟨c⟩ := z
          have hl : c.size = 1 := hl
          congr 1
          apply Array.ext
          · simpa using hl
          · intro i h1 h2
            have : i = 0 := by omega
            subst this
            simp [Array.getD, hl]
        cases neg with
        | true => exact op_notIn_sign pins s σ H _ _ v u Q I rx ry ⟨z.cps.getD 0 0, t, by rw [← ez], rfl, q⟩
        | false => exact op_in_sign pins s σ H _ _ v u Q I rx ry ⟨z.cps.getD 0 0, t, by rw [← ez], rfl, q⟩
      · cases e
    · cases e
  · rename_i ks vs
    split at e
    · rename_i hk
      cases e
      obtain ⟨a, xs, rfl, h2, r2⟩ := v2.dict sb
      cases ry
      have hd1 : RD X.prog X.w X.K mg G x d1 := by
        rcases v1 with z | ⟨_, _, _, _, rfl, _⟩ | ⟨_, _, _, _, _, rfl, _⟩
        · exact z
        · simp [D.key] at hk
        · simp [D.key] at hk
      obtain ⟨b, rfl, hb⟩ := RD.isKey rfl I sb hk hd1
      cases rx
      obtain ⟨g1, g2, g3⟩ := dic_keyed rfl rfl rfl I sb h2 r2
      have g4 : s.heap.DictKeyed (nestedKind X.prog X.w) a (pairsH xs) := ⟨xs, g3, rfl⟩
      have room : (nestedKind X.prog X.w).room X.A.in1 := by show X.A.units + 1 + 8 < cLine; omega
      have ev : (valueAt (pairsH xs) d1.nk).isSome = hasKey ks d1 := by rw [valueAt_pairsH, Option.isSome_map, (RKs.at d1 r2).1]
      cases neg with
      | true => exact notIn_keyed room hb g1 g4 (fin (by rw [ev]; rfl))
      | false => exact in_keyed room hb g1 g4 (fin (by rw [ev]; rfl))
    · cases e
  · cases e
theorem opCmp {X : Cx} (hP : X.prog = P) (hw : X.w = w) (hK : X.K = K) (hu : X.A.units + 65 < cLine) (o : COp) : OpR X (compareOp (cop o)) (rCmp P w K mg o) := by
  intro pins s σ H x y v u Q I rx ry h
  obtain ⟨G, d1, d2, b, sb, v1, v2, e, q⟩ := h
  unfold cmpop at e
  split at e
  · split at e
    · rename_i hp
      cases e
      refine op_eqD (X := X) (by omega) pins s σ H x y v u Q I rx ry ⟨_, _, ?_, ?_, plain_shaped hp.1, plain_shaped hp.2, q⟩
      · rw [hK]; exact v1.dp sb hp.1
      · rw [hK]; exact v2.dp sb hp.2
    · cases e
  · split at e
    · rename_i hp
      cases e
      refine op_neD (X := X) (by omega) pins s σ H x y v u Q I rx ry ⟨_, _, ?_, ?_, plain_shaped hp.1, plain_shaped hp.2, q⟩
      · rw [hK]; exact v1.dp sb hp.1
      · rw [hK]; exact v2.dp sb hp.2
    · cases e
  · cases e
    obtain rfl := v1.int
    obtain rfl := v2.int
    exact op_lt pins s σ H _ _ v u Q I rx ry ⟨_, _, rfl, rfl, q⟩
  · rename_i xs ys
    unfold ltD at e
    split at e
    · rename_i hp
      cases e
      obtain ⟨p1, p2, al, nn⟩ := hp
      subst hK
      obtain ⟨as, k1⟩ := Dp.reads I _ _ _ (v1.dp sb p1) rx
      obtain ⟨bs, k2⟩ := Dp.reads I _ _ _ (v2.dp sb p2) ry
      have dd := SeqAt.depth_of_shaped (plain_shaped p1)
      have hn : (D.tup xs).py ≠ .none := by simp [D.py]
      have := PySem.W.rcLt_alike _ _ X.A s v u as bs k1 k2 al hn (by have : min (D.tup xs).py.depth (D.tup ys).py.depth ≤ (D.tup xs).py.depth := Nat.min_le_left _ _; omega)
      exact this X.prog X.w X.xe _ ⟨.bl _, H, I, rfl, q⟩
    · cases e
  · cases e
    obtain rfl := v1.int
    obtain rfl := v2.int
    exact op_le pins s σ H _ _ v u Q I rx ry ⟨_, _, rfl, rfl, q⟩
  · cases e
    obtain rfl := v1.int
    obtain rfl := v2.int
    exact op_gt pins s σ H _ _ v u Q I rx ry ⟨_, _, rfl, rfl, q⟩
  · cases e
    obtain rfl := v1.int
    obtain rfl := v2.int
    exact op_ge pins s σ H _ _ v u Q I rx ry ⟨_, _, rfl, rfl, q⟩
  · exact isin_ok hP hw hK hu false pins s σ H x y v u Q I rx ry ⟨G, d1, d2, b, sb, v1, v2, e, q⟩
  · cases e2 : isinD d1 d2 with
    | none => rw [e2] at e; cases e
    | some c =>
      rw [e2] at e
      cases e
      exact isin_ok hP hw hK hu true pins s σ H x y v u Q I rx ry ⟨G, d1, d2, c, sb, v1, v2, e2, q⟩
  · cases e

/-! ### isinstance -/
def tyS : Ty → String
  | .int => "int" | .bool => "bool" | .str => "str" | .tuple => "tuple" | .list => "list"
theorem tyX_tup {a : Addr} {xs : List V} (h : SqT K H a xs) : TyX K H (.ref a) (.type "tuple") := by
  rcases h with (h | ⟨o, h⟩) | ⟨o, its, n, h, hc, _⟩
  · exact .base (.tup h)
  · exact .fTuple h
  · exact .kTuple h hc
theorem tyX_lst {a : Addr} {xs : List V} (h : SqL K H a xs) : TyX K H (.ref a) (.type "list") := by
  rcases h with (h | ⟨o, h⟩) | ⟨o, its, n, h, hc, _⟩
  · exact .base (.lst h)
  · exact .base (.frz h)
  · exact .kList h hc
theorem isi_ok {X : Cx} (hP : X.prog = P) (hw : X.w = w) (hK : X.K = K) (t : Ty) : CallR X (.builtin "isinstance") (fun xs H Q => ∃ (G : Gh) (x : V) (d : D) (b : Bool), xs = [x, .ty (tyS t)] ∧ Sub G H ∧ Vw P w K mg G H x d ∧ isTy t d = some b ∧ Q (.bl b) H) := by
  subst hP hw hK
  intro pins s σ H xs us Q I rs h
  obtain ⟨G, x, d, b, rfl, sb, v1, e, q⟩ := h
  have go : ∀ (T : String), TyX X.K H x (.type T) → kitB T (tyS t) = some b → wpAny (model X.prog X.w) X.A (call (.builtin "isinstance") us) (EP X pins σ Q) X.xe s := fun T ty hb =>
    call_isi pins s σ H _ us Q I rs ⟨x, .ty (tyS t), .type T, .type (tyS t), b, rfl, .ty _, ty, kit_ty hb, q⟩
  cases d with
  | non =>
    rcases v1 with z | ⟨_, _, _, _, z, _⟩ | ⟨_, _, _, _, _, z, _⟩ <;> cases z
    cases t <;> (cases e; exact go "NoneType" (.base .non) (by decide +kernel))
  | bl c =>
    obtain rfl := v1.bl
    cases t <;> (cases e; exact go "bool" (.base (.bl _)) (by decide +kernel))
  | int c =>
    obtain rfl := v1.int
    cases t <;> (cases e; exact go "int" (.base (.int _)) (by decide +kernel))
  | str c =>
    obtain rfl := v1.str
    cases t <;> (cases e; exact go "str" (.base (.str _)) (by decide +kernel))
  | tup ds =>
    obtain ⟨a, ys, rfl, h1, _, _⟩ := v1.tuple sb
    cases t <;> (cases e; exact go "tuple" (tyX_tup h1) (by decide +kernel))
  | lst ds =>
    obtain ⟨a, ys, rfl, h1, _⟩ := v1.list sb
    cases t <;> (cases e; exact go "list" (tyX_lst h1) (by decide +kernel))
  | dic ks vs => 
    obtain ⟨a, ys, rfl, h1, _⟩ := v1.dict sb
    obtain ⟨u1, u2, rfl, r1, r2⟩ := vals2 rs
    cases r1
    cases (show u2 = Value.type (tyS t) from r2)
    obtain ⟨⟨_, _, o, es, ep, e1, e2, _⟩, _, _⟩ := I.hok a _ h1
    have z : ∀ {b' : Bool}, kitB "dict" (tyS t) = some b' → b' = b → wpAny (model X.prog X.w) X.A (call (.builtin "isinstance") [.ref a, .type (tyS t)]) (EP X pins σ Q) X.xe s := fun {b'} hb eb => by
      subst eb
      exact PySem.W.kia_one PySem.W.kitx_dict I.kIn ⟨o, e1, e2.1⟩ (kit_ty hb) (fun z => nomatch z) fun tk => ⟨.bl _, H, I.tok tk, rfl, q⟩
    cases t <;> (cases e; exact z (by decide +kernel) rfl)
  | ref j => cases t <;> cases e
  | fn x => cases t <;> cases e
  | exc x y => cases t <;> cases e
  | sd x y => cases t <;> cases e
end
end Pah
end
section
set_option maxHeartbeats 200000
/-! Ops3: items, slices, built-in functions and methods. -/
namespace Pah
open PySem PySem.Spec PyProof.Rows L2
section
variable {P : Program} {w : World} {K : PySem.W.Frag} {mg : Str → Option Value} {G : Gh} {H : Hp}

/-! ### items -/
variable (P w K mg) in
def rIdx : R2 := fun x y H Q => ∃ (G : Gh) (d1 d2 d : D), Sub G H ∧ Vw P w K mg G H x d1 ∧ Vw P w K mg G H y d2 ∧ idxD d1 d2 = some d ∧ ∀ v, RD P w K mg G v d → Q v H
theorem RDs.atI {vs : List V} {ds : List D} {i : Int} {d : D} (r : RDs P w K mg G vs ds) (h : L2.atI ds i = some d) : ∃ v, L2.atI vs i = some v ∧ RD P w K mg G v d := by
  unfold L2.atI at h ⊢
  rw [r.length]
  cases e : ixN ds.length i with
  | none => rw [e] at h; cases h
  | some j =>
    rw [e] at h
    exact r.get h
theorem ixIdx {X : Cx} (hP : X.prog = P) (hw : X.w = w) (hK : X.K = K) (hu : X.A.units + 65 < cLine) : IxR X (rIdx P w K mg) := by
  subst hP hw hK
  intro value slice pins s σ H x y v u Q I rx ry h hs
  obtain ⟨G, d1, d2, d, sb, v1, v2, e, q⟩ := h
  unfold idxD at e
  split at e
  · obtain ⟨a, xs, rfl, h1, g1, r1⟩ := v1.tuple sb
    obtain rfl := v2.int
    obtain ⟨z, e1, e2⟩ := r1.atI e
    exact ix_tup value slice pins s σ H _ _ v u Q I rx ry ⟨a, xs, _, z, rfl, rfl, h1, e1, q z e2⟩ hs
  · obtain ⟨a, xs, rfl, h1, r1⟩ := v1.list sb
    obtain rfl := v2.int
    obtain ⟨z, e1, e2⟩ := r1.atI e
    exact ix_list value slice pins s σ H _ _ v u Q I rx ry ⟨a, xs, _, z, rfl, rfl, h1, e1, q z e2⟩ hs
  · split at e
    · rename_i t i hl
      obtain rfl := v1.str
      obtain rfl := v2.int
      cases e1 : L2.atI t.cps.toList i with
      | none => rw [e1] at e; cases e
      | some c =>
        rw [e1] at e
        cases e
        exact ix_str value slice pins s σ H _ _ v u Q I rx ry ⟨_, _, c, rfl, rfl, by rw [← lim_eq]; exact hl, e1, q _ (.str _)⟩ hs
    · cases e
  · split at e
    · rename_i hk
      obtain ⟨a, xs, rfl, h1, r1⟩ := v1.dict sb
      cases rx
      have hd1 : RD X.prog X.w X.K mg G y d2 := by
        rcases v2 with z | ⟨_, _, _, _, rfl, _⟩ | ⟨_, _, _, _, _, rfl, _⟩
        · exact z
        · simp [D.key] at hk
        · simp [D.key] at hk
      obtain ⟨b, rfl, hb⟩ := RD.isKey rfl I sb hk hd1
      cases ry
      obtain ⟨g1, g2, g3⟩ := dic_keyed rfl rfl rfl I sb h1 r1
      have g4 : s.heap.DictKeyed (nestedKind X.prog X.w) a (pairsH xs) := ⟨xs, g3, rfl⟩
      have room : (nestedKind X.prog X.w).room X.A.in1 := by show X.A.units + 1 + 8 < cLine; omega
      obtain ⟨p, z, e1, e2, e3⟩ := (RKs.at d2 r1).2 d e
      refine tail_any g4.typeIs PySem.F.slot_dict_getitem.lookup (getItem_keyed room hb g4 (v := p.2) (by rw [valueAt_pairsH, e1]; rfl) ?_) hs
      exact ⟨z, H, I.tok _, e2, q z e3⟩
    · cases e
  · cases e

/-! ### slices -/
variable (P w K mg) in
def rSlice : V → Option Int → Option Int → Hp → VK → Prop := fun x lo hi H Q => ∃ (G : Gh) (d : D) (r : RV), Sub G H ∧ Vw P w K mg G H x d ∧ sliceD d lo hi = some r ∧ ∀ v H', Rs P w K mg G H r v H' → Q v H'
theorem RDs.cut {vs : List V} {ds : List D} (r : RDs P w K mg G vs ds) (lo hi : Option Int) : RDs P w K mg G (cutV vs lo hi) (cutD ds lo hi) := by
  unfold cutV cutD
  rw [r.length]
  exact (r.drop _).take _
theorem cutD_whole {α : Type} {xs : List α} {lo hi : Option Int} (h : HT.sIx xs.length 0 lo = 0 ∧ HT.sIx xs.length xs.length hi = xs.length) : cutD xs lo hi = xs := by
  unfold cutD
  rw [h.1, h.2]
  simp
theorem slSlice {X : Cx} (hP : X.prog = P) (hw : X.w = w) (hK : X.K = K) : SlR X (rSlice P w K mg) := by
  subst hP hw hK
  intro pins s σ H x v vl vu lo hi sl Q I rx hs pl pu h
  obtain ⟨G, d, r, sb, v1, e, q⟩ := h
  unfold sliceD at e
  split at e
  · rename_i ds
    cases e
    obtain ⟨a, xs, rfl, h1, g1, r1⟩ := v1.tuple sb
    refine sl_tupN pins s σ H _ v vl vu lo hi sl Q I rx hs pl pu ⟨a, xs, rfl, h1, fun z => ?_, fun p o hd hp => q _ _ (.tup hp hd (r1.cut lo hi))⟩
    refine q _ _ (.same ?_)
    rw [r1.length] at z
    rw [cutD_whole z]
    exact .tup g1 r1
  · rename_i ds
    cases e
    obtain ⟨a, xs, rfl, h1, r1⟩ := v1.list sb
    exact sl_list pins s σ H _ v vl vu lo hi sl Q I rx hs pl pu ⟨a, xs, rfl, h1, fun p hp => q _ _ (.lst hp (r1.cut lo hi))⟩
  · split at e
    · rename_i hl
      cases e
      obtain rfl := v1.str
      refine sl_str pins s σ H _ v vl vu lo hi sl Q I rx hs pl pu ⟨_, rfl, by rw [← lim_eq]; exact hl, q _ _ (.same ?_)⟩
      have e : ∀ t : Str, t.cps.toList.length = t.length := fun t => by simp [Str.length]
      unfold cutS cutD
      rw [e]
      exact .str _
    · cases e
  · cases e

end
end Pah
end
section
set_option maxHeartbeats 200000
/-! Ops4: built-in functions and methods. -/
namespace Pah
open PySem PySem.Spec PyProof.Rows L2
section
variable {P : Program} {w : World} {K : PySem.W.Frag} {mg : Str → Option Value} {G : Gh} {H : Hp}

variable (P w K mg) in
inductive Vws (G : Gh) (H : Hp) : List V → List D → Prop
  | nil : Vws G H [] []
  | cons {v : V} {vs : List V} {d : D} {ds : List D} : Vw P w K mg G H v d → Vws G H vs ds → Vws G H (v :: vs) (d :: ds)
theorem Vws.one {xs : List V} {d : D} (h : Vws P w K mg G H xs [d]) : ∃ x, xs = [x] ∧ Vw P w K mg G H x d := by
  cases h with
  | cons h t => cases t; exact ⟨_, rfl, h⟩
theorem Vws.two {xs : List V} {d e : D} (h : Vws P w K mg G H xs [d, e]) : ∃ x y, xs = [x, y] ∧ Vw P w K mg G H x d ∧ Vw P w K mg G H y e := by
  cases h with
  | cons h t =>
    obtain ⟨y, rfl, q⟩ := t.one
    exact ⟨_, _, rfl, h, q⟩
/-! ### built-in functions -/
variable (P w K mg) in
def rBi (f : BI) : List V → Hp → VK → Prop := fun xs H Q => ∃ (G : Gh) (ds : List D) (r : RV), Sub G H ∧ Vws P w K mg G H xs ds ∧ biD f ds = some r ∧ ∀ v H', Rs P w K mg G H r v H' → Q v H'
def two : BI → Bool
  | .max => true
  | .min => true
  | .listrange => true
  | _ => false
theorem bi1 {f : BI} {ds : List D} {r : RV} (hf : two f = false) (e : biD f ds = some r) : ∃ d, ds = [d] := by
  match ds with
  | [d] => exact ⟨d, rfl⟩
  | [] => cases f <;> simp [biD] at e
  | a :: b :: c => cases f <;> first | (simp [biD] at e; done) | (cases hf; done)
theorem boolsD_rel : ∀ {vs : List V} {ds : List D} {bs : List Bool}, RDs P w K mg G vs ds → boolsD ds = some bs → vs = bs.map V.bl
  | _, _, bs, .nil, e => by cases e; rfl
  | _, _, bs, .cons (d := d) h r, e => by
    cases d with
    | bl b =>
      cases h
      unfold boolsD at e
      cases e2 : boolsD _ with
      | none => rw [e2] at e; cases e
      | some l =>
        rw [e2] at e
        cases e
        rw [boolsD_rel r e2]
        rfl
    | _ => simp [boolsD] at e
theorem intsD_rel : ∀ {vs : List V} {ds : List D} {bs : List Int}, RDs P w K mg G vs ds → intsD ds = some bs → vs = bs.map V.int
  | _, _, bs, .nil, e => by cases e; rfl
  | _, _, bs, .cons (d := d) h r, e => by
    cases d with
    | int b =>
      cases h
      unfold intsD at e
      cases e2 : intsD _ with
      | none => rw [e2] at e; cases e
      | some l =>
        rw [e2] at e
        cases e
        rw [intsD_rel r e2]
        rfl
    | _ => simp [intsD] at e
theorem strsD_rel : ∀ {vs : List V} {ds : List D} {bs : List Str}, RDs P w K mg G vs ds → strsD ds = some bs → vs = bs.map V.str
  | _, _, bs, .nil, e => by cases e; rfl
  | _, _, bs, .cons (d := d) h r, e => by
    cases d with
    | str b =>
      cases h
      unfold strsD at e
      cases e2 : strsD _ with
      | none => rw [e2] at e; cases e
      | some l =>
        rw [e2] at e
        cases e
        rw [strsD_rel r e2]
        rfl
    | _ => simp [strsD] at e
theorem biLen {X : Cx} (hP : X.prog = P) (hw : X.w = w) (hK : X.K = K) (hu : X.A.units + 65 < cLine) : CallR X (.builtin "len") (rBi P w K mg .len) := by
  subst hP hw hK
  intro pins s σ H xs us Q I rs h
  obtain ⟨G, ds0, r, sb, vv, e, q⟩ := h
  obtain ⟨d, rfl⟩ := bi1 (by decide) e
  obtain ⟨x, rfl, v1⟩ := vv.one
  rw [show biD .len [d] = ((lenD d).map fun n => RV.v (.int (n : Nat))) from by simp only [biD]] at e
  cases e1 : lenD d with
  | none => rw [e1] at e; cases e
  | some n =>
    rw [e1] at e
    cases e
    have fin := q _ _ (.same (.int ((n : Nat) : Int)))
    unfold lenD at e1
    split at e1
    · split at e1
      · rename_i hl
        cases e1
        obtain rfl := v1.str
        exact call_len pins s σ H _ us Q I rs ⟨_, _, rfl, ⟨by rw [← lim_eq]; exact hl, rfl⟩, fin⟩
      · cases e1
    · cases e1
      obtain ⟨a, ys, rfl, h1, r1⟩ := v1.dict sb
      obtain ⟨u, rfl, ru⟩ := vals1 rs
      cases ru
      obtain ⟨g1, g2, g3⟩ := dic_keyed rfl rfl rfl I sb h1 r1
      have g4 : s.heap.DictKeyed (nestedKind X.prog X.w) a (pairsH ys) := ⟨ys, g3, rfl⟩
      have hl : (pairsH ys).length = ys.length := pairsH_length ys
      have hl2 := (RKs.len r1).1
      have hz := sizeLine_eq
      refine PyProof.Rows.call_len_slot (n := (pairsH ys).length) g4.typeIs F.slot_dict_len (fun Q' hq => len_keyed g1 g4 hq) (by omega) (by omega) ?_
      exact ⟨.int _, H, I.tok _, ⟨_, by rw [hl, hl2]⟩, fin⟩
    · rename_i h1 h2
      cases d with
      | tup ds =>
        cases e1
        obtain ⟨a, ys, rfl, g1, _, r1⟩ := v1.tuple sb
        exact call_len pins s σ H _ us Q I rs ⟨_, _, rfl, .inr ⟨ys, g1, r1.length.symm⟩, fin⟩
      | lst ds =>
        cases e1
        obtain ⟨a, ys, rfl, g1, r1⟩ := v1.list sb
        exact call_len pins s σ H _ us Q I rs ⟨_, _, rfl, .inl ⟨ys, g1, r1.length.symm⟩, fin⟩
      | dic ks vs => exact absurd rfl (h2 ks vs)
      | str t => exact absurd rfl (h1 t)
      | _ => cases e1
theorem biAll {X : Cx} (hK : X.K = K) (hc : X.calm = true) : CallR X (.builtin "all") (rBi P w K mg .all) := by
  subst hK
  intro pins s σ H xs us Q I rs h
  obtain ⟨G, ds0, r, sb, vv, e, q⟩ := h
  obtain ⟨d, rfl⟩ := bi1 (by decide) e
  obtain ⟨x, rfl, v1⟩ := vv.one
  cases d with
  | lst ds =>
    rw [show biD .all [.lst ds] = ((boolsD ds).map fun l => RV.v (.bl (l.all id))) from by simp only [biD]] at e
    cases e1 : boolsD ds with
    | none => rw [e1] at e; cases e
    | some l =>
      rw [e1] at e
      cases e
      obtain ⟨a, ys, rfl, g1, r1⟩ := v1.list sb
      rw [boolsD_rel r1 e1] at g1
      exact cr_all hc pins s σ H _ us Q I rs ⟨a, l, rfl, g1, q _ _ (.same (.bl _))⟩
  | _ => simp [biD] at e
theorem biAny {X : Cx} (hK : X.K = K) (hc : X.calm = true) : CallR X (.builtin "any") (rBi P w K mg .any) := by
  subst hK
  intro pins s σ H xs us Q I rs h
  obtain ⟨G, ds0, r, sb, vv, e, q⟩ := h
  obtain ⟨d, rfl⟩ := bi1 (by decide) e
  obtain ⟨x, rfl, v1⟩ := vv.one
  cases d with
  | lst ds =>
    rw [show biD .any [.lst ds] = ((boolsD ds).map fun l => RV.v (.bl (l.any id))) from by simp only [biD]] at e
    cases e1 : boolsD ds with
    | none => rw [e1] at e; cases e
    | some l =>
      rw [e1] at e
      cases e
      obtain ⟨a, ys, rfl, g1, r1⟩ := v1.list sb
      rw [boolsD_rel r1 e1] at g1
      exact cr_any hc pins s σ H _ us Q I rs ⟨a, l, rfl, g1, q _ _ (.same (.bl _))⟩
  | _ => simp [biD] at e
theorem biSum {X : Cx} (hK : X.K = K) (hc : X.calm = true) : CallR X (.builtin "sum") (rBi P w K mg .sum) := by
  subst hK
  intro pins s σ H xs us Q I rs h
  obtain ⟨G, ds0, r, sb, vv, e, q⟩ := h
  obtain ⟨d, rfl⟩ := bi1 (by decide) e
  obtain ⟨x, rfl, v1⟩ := vv.one
  cases d with
  | lst ds =>
    rw [show biD .sum [.lst ds] = ((intsD ds).map fun l => RV.v (.int l.sum)) from by simp only [biD]] at e
    cases e1 : intsD ds with
    | none => rw [e1] at e; cases e
    | some l =>
      rw [e1] at e
      cases e
      obtain ⟨a, ys, rfl, g1, r1⟩ := v1.list sb
      rw [intsD_rel r1 e1] at g1
      exact cr_sum hc pins s σ H _ us Q I rs ⟨a, l, rfl, g1, q _ _ (.same (.int _))⟩
  | _ => simp [biD] at e
theorem biList {X : Cx} (hK : X.K = K) : CallR X (.type "list") (rBi P w K mg .list) := by
  subst hK
  intro pins s σ H xs us Q I rs h
  obtain ⟨G, ds0, r, sb, vv, e, q⟩ := h
  obtain ⟨d, rfl⟩ := bi1 (by decide) e
  obtain ⟨x, rfl, v1⟩ := vv.one
  cases d with
  | lst ds =>
    cases e
    obtain ⟨a, ys, rfl, g1, r1⟩ := v1.list sb
    exact call_list_of pins s σ H _ us Q I rs ⟨a, ys, rfl, .inl g1, fun p hp => q _ _ (.lst hp r1)⟩
  | tup ds =>
    cases e
    obtain ⟨a, ys, rfl, g1, _, r1⟩ := v1.tuple sb
    exact call_list_of pins s σ H _ us Q I rs ⟨a, ys, rfl, .inr g1, fun p hp => q _ _ (.lst hp r1)⟩
  | _ => simp [biD] at e
theorem biTuple {X : Cx} (hK : X.K = K) : CallR X (.type "tuple") (rBi P w K mg .tuple) := by
  subst hK
  intro pins s σ H xs us Q I rs h
  obtain ⟨G, ds0, r, sb, vv, e, q⟩ := h
  obtain ⟨d, rfl⟩ := bi1 (by decide) e
  obtain ⟨x, rfl, v1⟩ := vv.one
  cases d with
  | lst ds =>
    cases e
    obtain ⟨a, ys, rfl, g1, r1⟩ := v1.list sb
    exact call_tupN pins s σ H _ us Q I rs ⟨a, ys, rfl, .inl ⟨g1, fun p o hd hp => q _ _ (.tup hp hd r1)⟩⟩
  | tup ds =>
    cases e
    obtain ⟨a, ys, rfl, g1, g2, r1⟩ := v1.tuple sb
    exact call_tupN pins s σ H _ us Q I rs ⟨a, ys, rfl, .inr ⟨g1, q _ _ (.same (.tup g2 r1))⟩⟩
  | _ => simp [biD] at e
theorem biInt {X : Cx} : CallR X (.type "int") (rBi P w K mg .int) := by
  intro pins s σ H xs us Q I rs h
  obtain ⟨G, ds0, r, sb, vv, e, q⟩ := h
  obtain ⟨d, rfl⟩ := bi1 (by decide) e
  obtain ⟨x, rfl, v1⟩ := vv.one
  cases d with
  | int i =>
    cases e
    obtain rfl := v1.int
    exact call_int1 pins s σ H _ us Q I rs (.inl ⟨i, rfl, q _ _ (.same (.int _))⟩)
  | bl b =>
    cases e
    obtain rfl := v1.bl
    exact call_int1 pins s σ H _ us Q I rs (.inr ⟨b, rfl, q _ _ (.same (.int _))⟩)
  | _ => simp [biD] at e

theorem biMax {X : Cx} (hc : X.calm = true) : CallR X (.builtin "max") (rBi P w K mg .max) := by
  intro pins s σ H xs us Q I rs h
  obtain ⟨G, ds0, r, sb, vv, e, q⟩ := h
  match ds0, e, vv with
  | [.int i, .int j], e, vv =>
    obtain ⟨x, y, rfl, v1, v2⟩ := vv.two
    obtain rfl := v1.int
    obtain rfl := v2.int
    simp only [biD, Option.some.injEq] at e
    subst e
    exact call_max2 hc pins s σ H _ us Q I rs ⟨i, j, rfl, q _ _ (.same (.int _))⟩
theorem biMin {X : Cx} (hc : X.calm = true) : CallR X (.builtin "min") (rBi P w K mg .min) := by
  intro pins s σ H xs us Q I rs h
  obtain ⟨G, ds0, r, sb, vv, e, q⟩ := h
  match ds0, e, vv with
  | [.int i, .int j], e, vv =>
    obtain ⟨x, y, rfl, v1, v2⟩ := vv.two
    obtain rfl := v1.int
    obtain rfl := v2.int
    simp only [biD, Option.some.injEq] at e
    subst e
    exact call_min2 hc pins s σ H _ us Q I rs ⟨i, j, rfl, q _ _ (.same (.int _))⟩
end
end Pah
end
section
set_option maxHeartbeats 200000
/-! Ops5: methods that look. -/
namespace Pah
open PySem PySem.Spec PyProof.Rows L2
section
variable {P : Program} {w : World} {K : PySem.W.Frag} {mg : Str → Option Value} {G : Gh} {H : Hp}
variable (P w K mg) in
def rMth (f : Mth) (k : Nat) : V → List V → Hp → VK → Prop := fun x xs H Q => ∃ (G : Gh) (y : V) (d1 d2 : D) (r : RV), xs = [y] ∧ Sub G H ∧ Vw P w K mg G H x d1 ∧ Vw P w K mg G H y d2 ∧ kd d1 = k ∧ mthD f d1 d2 = some r ∧ ∀ v H', Rs P w K mg G H r v H' → Q v H'
theorem findIx_spec : ∀ {ds : List D} {d : D} {n k : Nat}, findIx ds d n = some k → ∃ j z, k = n + j ∧ ds[j]? = some z ∧ eqD z d = true ∧ ∀ (m : Nat) (z' : D), m < j → ds[m]? = some z' → eqD z' d = false
  | [], _, _, _, h => by cases h
  | z :: zs, d, n, k, h => by
    unfold findIx at h
    by_cases q : eqD z d = true
    · rw [if_pos q] at h
      cases h
      exact ⟨0, z, rfl, rfl, q, fun m z' hm => by omega⟩
    · rw [if_neg q] at h
      obtain ⟨j, z1, rfl, h2, h3, h4⟩ := findIx_spec h
      refine ⟨j + 1, z1, by omega, by simpa using h2, h3, fun m z' hm e => ?_⟩
      cases m with
      | zero =>
        simp only [List.getElem?_cons_zero, Option.some.injEq] at e
        subst e
        exact Bool.eq_false_iff.mpr q
      | succ m => exact h4 m z' (by omega) (by simpa using e)
theorem pys_get (ds : List D) (j : Nat) : (pys ds)[j]? = (ds[j]?).map D.py := by rw [pys_eq, List.getElem?_map]
theorem findIx_map {α : Type} {f : Option Nat} {r : RV} (e : f.map (fun n => RV.v (.int (n : Nat))) = some r) : ∃ n, f = some n ∧ r = .v (.int (n : Nat)) := by
  cases f with
  | none => cases e
  | some n => exact ⟨n, rfl, (Option.some.inj e).symm⟩
theorem kd5 {d : D} (h : kd d = 5) : ∃ ds, d = .lst ds := by cases d <;> first | exact ⟨_, rfl⟩ | cases h
theorem kd4 {d : D} (h : kd d = 4) : ∃ ds, d = .tup ds := by cases d <;> first | exact ⟨_, rfl⟩ | cases h
theorem kd3 {d : D} (h : kd d = 3) : ∃ ds, d = .str ds := by cases d <;> first | exact ⟨_, rfl⟩ | cases h
theorem mtIndexL {X : Cx} (hP : X.prog = P) (hw : X.w = w) (hK : X.K = K) (hu : X.A.units + 65 < cLine) : MtR X "list.index" (rMth P w K mg .index 5) := by
  subst hP hw hK
  intro pins s σ H x xs v us Q I rx rs h
  obtain ⟨G, y, d1, d2, r, rfl, sb, v1, v2, hk, e, q⟩ := h
  obtain ⟨ds, rfl⟩ := kd5 hk
  simp only [mthD] at e
  by_cases hp : plains ds = true ∧ d2.plain = true
  · rw [if_pos hp] at e
    obtain ⟨n, e1, rfl⟩ := findIx_map (α := Unit) e
    obtain ⟨j, z, ej, hz, hez, hno⟩ := findIx_spec e1
    obtain ⟨a, ys, rfl, g1, r1⟩ := v1.list sb
    have dl : Dp X.K H (V.ref a) (.list (pys ds)) := .lst g1 (r1.dp sb 20 hp.1)
    have ej2 : n = j := by omega
    subst ej2
    refine mt_indexD hu pins s σ H _ _ v us Q I rx rs ⟨a, y, d2.py, pys ds, n, z.py, rfl, rfl, dl, v2.dp sb hp.2, canLay_list hp.1, plain_shaped hp.2, ?_, hez, fun m z' hm e' => ?_, q _ _ (.same (.int _))⟩
    · rw [pys_get, hz]; rfl
    · rw [pys_get] at e'
      cases e2 : ds[m]? with
      | none => rw [e2] at e'; cases e'
      | some z2 =>
        rw [e2] at e'
        cases e'
        exact hno m z2 hm e2
  · rw [if_neg hp] at e; cases e
theorem mtIndexT {X : Cx} (hP : X.prog = P) (hw : X.w = w) (hK : X.K = K) (hu : X.A.units + 65 < cLine) : MtR X "tuple.index" (rMth P w K mg .index 4) := by
  subst hP hw hK
  intro pins s σ H x xs v us Q I rx rxs h
  obtain ⟨G, y, d1, d2, r, rfl, sb, v1, v2, hk, e, q⟩ := h
  obtain ⟨ds, rfl⟩ := kd4 hk
  simp only [mthD] at e
  by_cases hp : plains ds = true ∧ d2.plain = true
  · rw [if_pos hp] at e
    obtain ⟨n, e1, rfl⟩ := findIx_map (α := Unit) e
    obtain ⟨j, z, ej, hz, hez, hno⟩ := findIx_spec e1
    obtain ⟨a, ys, rfl, g1, _, r1⟩ := v1.tuple sb
    have ej2 : n = j := by omega
    subst ej2
    cases rx
    obtain ⟨uy, rfl, ry⟩ := vals1 rxs
    obtain ⟨bs, rr1⟩ := Dp.reads I d2.py y uy (v2.dp sb hp.2) ry
    have sd : SeqAt.shaped d2.py = true := plain_shaped hp.2
    have sl : SeqAt.shaped (.list (pys ds)) = true := canLay_list hp.1
    have hxs : PyData.canLayAll0 (pys ds) = true := SeqAt.canLay_of_shaped sl
    have hroom : X.A.units + 1 + min (PyData.depthAll (pys ds)) d2.py.depth < cLine := room_in_shaped sd hu
    obtain ⟨its, rv, ⟨⟨cls, dd, data, sls⟩, ho, hc, nn, hdt⟩, hlen⟩ := I.tuple g1
    simp only at hc hdt
    subst hc hdt
    obtain ⟨as, h4⟩ := Dp.readsAll I (pys ds) _ its (r1.dp sb 20 hp.1) rv
    have hn : its.length = (pys ds).length := SeqAt.ReadsAll.length _ its as h4
    have hmap : its.map (SeqAt.readOf s.heap) = pys ds := SeqAt.readsAll_map _ its as hxs h4
    have hzd : (pys ds)[n]? = some z.py := by rw [pys_get, hz]; rfl
    obtain ⟨hjd, _⟩ := List.getElem?_eq_some_iff.mp hzd
    have hjl : n < its.length := by omega
    have hj : n < its.toArray.size := by simpa using hjl
    have at_ : ∀ (m : Nat) (hm : m < its.toArray.size) (z' : PyData), (pys ds)[m]? = some z' → SeqAt.readOf s.heap its.toArray[m] = z' := by
      intro m hm z' hz'
      have hml : m < its.length := by simpa using hm
      rw [← hmap, List.getElem?_map, List.getElem?_eq_getElem hml] at hz'
      have e1 : SeqAt.readOf s.heap its[m] = z' := Option.some.inj (show some (SeqAt.readOf s.heap its[m]) = some z' from hz')
      simpa using e1
    refine call_meets PySem.F.slot_tuple_index ⟨_, ho, rfl⟩ PySem.F.entry_tuple_index (PySem.F.args_tuple_index_2 _ _)
      (TI.tuple_indexAt a its.toArray nn dd sls uy (fun u => PyData.eqv (SeqAt.readOf s.heap u) d2.py) n hj ?_ ?_) ⟨ho, SeqAt.items_eqAt (vs := its.toArray) (show ReadsAll s.heap its.toArray.toList (pys ds) as from h4) rr1 hxs (SeqAt.canLay_of_shaped sd) hroom, ?_⟩
    · show PyData.eqv (SeqAt.readOf s.heap its.toArray[n]) d2.py = true
      rw [at_ n hj _ hzd]
      exact hez
    · intro m hm hmj
      have hmd : m < ds.length := by rw [pys_eq] at hjd; simp at hjd; omega
      show PyData.eqv (SeqAt.readOf s.heap its.toArray[m]) d2.py = false
      rw [at_ m hm ds[m].py (by rw [pys_get, List.getElem?_eq_getElem hmd]; rfl)]
      exact hno m _ (by omega) (List.getElem?_eq_getElem hmd)
    · exact ⟨.int (n : Nat), H, I.tok _, ⟨_, rfl⟩, q _ _ (.same (.int _))⟩
  · rw [if_neg hp] at e; cases e
theorem mtJoin {X : Cx} (hK : X.K = K) : MtR X "str.join" (rMth P w K mg .join 3) := by
  subst hK
  intro pins s σ H x xs v us Q I rx rs h
  obtain ⟨G, y, d1, d2, r, rfl, sb, v1, v2, hk, e, q⟩ := h
  obtain ⟨sep, rfl⟩ := kd3 hk
  cases d2 with
  | lst ds =>
    simp only [mthD] at e
    cases e1 : strsD ds with
    | none => rw [e1] at e; cases e
    | some l =>
      rw [e1] at e
      simp only [Option.bind_some] at e
      by_cases hl : lenSum l + l.length * sep.length ≤ lim
      · rw [if_pos hl] at e
        cases e
        obtain rfl := v1.str
        obtain ⟨a, ys, rfl, g1, r1⟩ := v2.list sb
        rw [strsD_rel r1 e1] at g1
        refine mt_join pins s σ H _ _ v us Q I rx rs ⟨sep, a, l, rfl, rfl, .inl g1, hl, ?_⟩
        rw [show Txt.join sep l = Str.join sep l from StrLaws.glued_eq_join sep l]
        exact q _ _ (.same (.str _))
      · rw [if_neg hl] at e; cases e
  | _ => simp [mthD] at e

theorem rds_mapStr : ∀ l : List Str, RDs P w K mg G (l.map V.str) (l.map D.str)
  | [] => .nil
  | x :: l => .cons (.str x) (rds_mapStr l)
theorem mtSplit {X : Cx} (hK : X.K = K) : MtR X "str.split" (rMth P w K mg .split 3) := by
  subst hK
  intro pins s σ H x xs v us Q I rx rs h
  obtain ⟨G, y, d1, d2, r, rfl, sb, v1, v2, hk, e, q⟩ := h
  obtain ⟨a, rfl⟩ := kd3 hk
  cases d2 with
  | str b =>
    simp only [mthD] at e
    by_cases hl : b.length ≠ 0 ∧ a.length + 2 ≤ lim
    · rw [if_pos hl] at e
      cases e
      obtain rfl := v1.str
      obtain rfl := v2.str
      refine mt_split pins s σ H _ _ v us Q I rx rs ⟨a, b, rfl, rfl, beq_eq_false_iff_ne.mpr hl.1, by rw [← lim_eq]; exact hl.2, fun p hp => ?_⟩
      exact q _ _ (.lst hp (rds_mapStr _))
    · rw [if_neg hl] at e; cases e
  | _ => simp [mthD] at e

/-! ### the call of a looking method -/
/-- which methods are served -/
def mid : Mth → Nat → Option (String × String)
  | .index, 5 => some ("list", "list.index")
  | .index, 4 => some ("tuple", "tuple.index")
  | .join, 3 => some ("str", "str.join")
  | .split, 3 => some ("str", "str.split")
  | _, _ => none
def mname : Mth → Str
  | .index => Str.ofString "index"
  | .count => Str.ofString "count"
  | .join => Str.ofString "join"
  | .split => Str.ofString "split"
structure MidOk (X : Cx) (f : Mth) (k : Nat) (T id : String) : Prop where
  pa : PlainAttrs T
  slot : Slot T (mname f) id
  hty : typeOf (.builtin id) = pure (.type "method_descriptor")
variable (P w K mg) in
theorem mid_ok {X : Cx} {f : Mth} {k : Nat} {T id : String} (hP : X.prog = P) (hw : X.w = w) (hK : X.K = K) (hu : X.A.units + 65 < cLine) (h : mid f k = some (T, id)) :
    MidOk X f k T id ∧ MtR X id (rMth P w K mg f k) := by
  unfold mid at h
  split at h
  · cases h
    exact ⟨⟨F.plainAttrs_list, F.slot_list_index, F.type_list_index⟩, mtIndexL hP hw hK hu⟩
  · cases h
    exact ⟨⟨F.plainAttrs_tuple, F.slot_tuple_index, F.type_tuple_index⟩, mtIndexT hP hw hK hu⟩
  · cases h
    exact ⟨⟨F.plainAttrs_str, F.slot_str_join, F.type_str_join⟩, mtJoin hK⟩
  · cases h
    exact ⟨⟨F.plainAttrs_str, F.slot_str_split, F.type_str_split⟩, mtSplit hK⟩
  · cases h
/-- of that built-in type -/
def tyW (K : PySem.W.Frag) (T : String) (x : V) (H : Hp) : Prop := tyV K T x H ∨ (T = "tuple" ∧ ∃ a xs, x = .ref a ∧ TupN K H a xs)
theorem tyW_is {X : Cx} {pins : List (Addr × Obj)} {σ : L2.St} {H : Hp} {s : Shared} {T : String} {x : V} {v : Value} (I : L2.Inv X pins σ H s) (r : RelV x v) (ty : tyW X.K T x H) :
    s.TypeIs v T ∧ ∀ a, v = .ref a → ∃ ob, s.heap.get? a = some ob ∧ ob.dict = none := by
  rcases ty with ty | ⟨rfl, a, xs, rfl, ⟨o, h, hd⟩ | ⟨o, us, n, h1, h2, hd, _⟩⟩
  · exact tyV_is I r ty
  · obtain rfl : v = .ref a := r
    obtain ⟨e, _, _, _, o2, e2, hc, _⟩ := I.hok a _ h
    rw [e] at e2
    cases e2
    exact ⟨⟨o, e, hc⟩, fun b z => by cases z; exact ⟨o, e, hd⟩⟩
  · obtain rfl : v = .ref a := r
    have e := I.kIn a o h1
    exact ⟨⟨o, e, h2⟩, fun b z => by cases z; exact ⟨o, e, hd⟩⟩
variable (P w K mg) in
/-- o.f(a) -/
def tM (f : Mth) (to ta : TE) : TE := fun σ H Q => to σ H fun x H1 => ∃ k T id, mid f k = some (T, id) ∧ tyW K T x H1 ∧ ta σ H1 fun y H2 => rMth P w K mg f k x [y] H2 Q
theorem pe_mth {X : Cx} {f : Mth} {o a : Expr} {to ta : TE} {apos cpos : Pos} (hP : X.prog = P) (hw : X.w = w) (hK : X.K = K) (hu : X.A.units + 65 < cLine) (ho : PE X o to) (ha : PE X a ta)
    (hbase : attributeBase o (mname f) X.env (eval o X.env) = eval o X.env)
    (hs : starEach [a] X.env = (false, eval a X.env) :: starEach [] X.env) (hline : (apos.endLine == cpos.line) = true) :
    PE X (.Call (.Attribute o (mname f) apos) [a] [] cpos) (tM P w K mg f to ta) := by
  have hA : PA X [a] (tCons ta tNil) := pa_cons ha pa_nil hs
  have hfew : ((backTo cpos (starEach [a] X.env)).all (fun x => !x.1) && (backToKw cpos (keywordEach [] X.env)).all (fun x => x.1.isSome)
      && decide (([a] : List Expr).length + ([] : List Keyword).length + (if ([] : List Keyword).isEmpty then 0 else 1) < 30)) = true := by
    rw [hs]
    rfl
  refine ⟨fun pins s σ H Q I h => ?_⟩
  refine wpAny_Call_method_late hbase hfew hline rfl (thn (ho.run pins s σ H _ I h) fun v s1 ⟨x, H1, I1, r1, k, T, id, hm, ty, q1⟩ => ?_)
  obtain ⟨⟨m1, m2, m3⟩, m4⟩ := mid_ok P w K mg hP hw hK hu hm
  obtain ⟨h1, h2⟩ := tyW_is I1 r1 (hK ▸ ty)
  refine ⟨T, id, m1, m2, m3, h1, h2, ?_⟩
  have hA2 := hA.run cpos pins s1 σ H1 (fun xs H2 => rMth P w K mg f k x xs H2 Q) I1 q1
  rw [hs] at hA2 ⊢
  refine Calls.callWith_builtin rfl (Calls.evalArgs_plain ?_)
  exact thn hA2 fun us s2 ⟨vs, H2, I2, r2, q2⟩ => m4 pins s2 σ H2 x vs v us Q I2 r1 r2 q2
end
end Pah
end
section
set_option maxHeartbeats 200000
/-! OpsD: dicts with texts as keys. -/
namespace Pah
open PySem PySem.Spec PyProof.Rows L2
section
variable {P : Program} {w : World} {K : PySem.W.Frag} {mg : Str → Option Value} {G : Gh} {H : Hp}
theorem RSs.val {x : Str} : ∀ {kvs : List (L2.Key × V)} {ks : List Str} {vs : List D}, RSs P w K mg G kvs ks vs → (match lookS ks vs x with
    | some d => ∃ v, valV kvs (Sum.inr x) = some v ∧ RD P w K mg G v d
    | none => valV kvs (Sum.inr x) = none)
  | _, _, _, .nil => rfl
  | _, _, _, .cons (k := k) (v := v) (d := d) h r => by
    unfold lookS
    by_cases e : k = x
    · subst e
      rw [if_pos rfl]
      exact ⟨v, valV_pos rfl, h⟩
    · rw [if_neg e]
      have ne : ¬ ((Sum.inr k : L2.Key)) = Sum.inr x := fun z => e (Sum.inr.inj z)
      have z := RSs.val (x := x) r
      rw [valV_neg (p := ((Sum.inr k : L2.Key), v)) ne]
      exact z
theorem RSs.none {x : Str} : ∀ {kvs : List (L2.Key × V)} {ks : List Str} {vs : List D}, RSs P w K mg G kvs ks vs → x ∉ ks → valV kvs (Sum.inr x) = none
  | _, _, _, .nil, _ => rfl
  | _, _, _, .cons (k := k) (v := v) (d := d) h r, hn => by
    have ne : ¬ ((Sum.inr k : L2.Key)) = Sum.inr x := fun z => hn (by rw [Sum.inr.inj z]; exact List.mem_cons_self)
    rw [valV_neg (p := ((Sum.inr k : L2.Key), v)) ne]
    exact RSs.none r fun z => hn (List.mem_cons_of_mem _ z)
theorem RSs.snoc {k : Str} {v : V} {d : D} : ∀ {kvs : List (L2.Key × V)} {ks : List Str} {vs : List D}, RSs P w K mg G kvs ks vs → RD P w K mg G v d → RSs P w K mg G (kvs ++ [(Sum.inr k, v)]) (ks ++ [k]) (vs ++ [d])
  | _, _, _, .nil, h => .cons h .nil
  | _, _, _, .cons h r, q => .cons h (RSs.snoc r q)
/-- pairs go one after another into a dict -/
theorem pairs_in (sb : Sub G H) : ∀ {ds : List D} {vs : List V} {ks : List Str} {es : List D} {kvs0 : List (L2.Key × V)} {ks0 : List Str} {vs0 : List D}, RDs P w K mg G vs ds → pairsS ds = some (ks, es) → RSs P w K mg G kvs0 ks0 vs0 → (ks0 ++ ks).Nodup →
    ∃ (ps : List Addr) (kvs : List (L2.Key × V)), vs = ps.map V.ref ∧ Paired (fun p kv => SqT K H p [L2.kV kv.1, kv.2]) ps kvs ∧ RSs P w K mg G (mergeK kvs0 kvs) (ks0 ++ ks) (vs0 ++ es)
  | [], _, ks, es, kvs0, ks0, vs0, .nil, e, r0, _ => by
    cases e
    exact ⟨[], [], rfl, .nil, by rw [List.append_nil, List.append_nil]; exact r0⟩
  | d :: ds, _, ks, es, kvs0, ks0, vs0, .cons (v := v) h r, e, r0, hn => by
    match d, e, h with
    | .tup [.str k, y], e, h =>
      unfold pairsS at e
      cases e2 : pairsS ds with
      | none => rw [e2] at e; cases e
      | some p =>
        rw [e2] at e
        cases e
        cases h with
        | tup h1 h2 =>
          cases h2 with
          | cons g1 g2 =>
            cases g2 with
            | cons g2 g3 =>
              cases g3
              cases g1
              rename_i a u
              have hn1 : k ∉ ks0 := fun z => by
                rw [List.nodup_append] at hn
                exact hn.2.2 k z k List.mem_cons_self rfl
              have hn2 : ((ks0 ++ [k]) ++ p.1).Nodup := by simpa using hn
              obtain ⟨ps, kvs, e3, e4, e5⟩ := pairs_in sb r e2 (r0.snoc (k := k) g2) hn2
              refine ⟨a :: ps, (Sum.inr k, u) :: kvs, by rw [e3]; rfl, .cons (SqT.le sb h1.sq) e4, ?_⟩
              have e6 : mergeK kvs0 ((Sum.inr k, u) :: kvs) = mergeK (kvs0 ++ [(Sum.inr k, u)]) kvs := by
                show mergeK (putK kvs0 (Sum.inr k) u) kvs = _
                rw [putK_new u (RSs.none r0 hn1)]
              rw [e6]
              simpa using e5
theorem biDict {X : Cx} (hK : X.K = K) (hc : X.calm = true) : CallR X (.type "dict") (rBi P w K mg .dict) := by
  subst hK
  intro pins s σ H xs us Q I rs h
  obtain ⟨G, ds0, r, sb, vv, e, q⟩ := h
  obtain ⟨d, rfl⟩ := bi1 (by decide) e
  obtain ⟨x, rfl, v1⟩ := vv.one
  cases d with
  | lst ds =>
    simp only [biD] at e
    cases e2 : pairsS ds with
    | none => rw [e2] at e; cases e
    | some p =>
      rw [e2] at e
      simp only [Option.bind_some] at e
      by_cases hn : p.1.Nodup
      · rw [if_pos hn] at e
        cases e
        obtain ⟨a, ys, rfl, h1, r1⟩ := v1.list sb
        obtain ⟨ps, kvs, e3, e4, e5⟩ := pairs_in (kvs0 := []) (ks0 := []) (vs0 := []) sb r1 e2 .nil (by simpa using hn)
        subst e3
        refine call_dictP hc pins s σ H _ us Q I rs ⟨a, ps, kvs, rfl, h1, e4, fun p' hp => ?_⟩
        exact q _ _ (.sd hp (by simpa using e5))
      · rw [if_neg hn] at e; cases e
  | _ => simp [biD] at e
end
end Pah
end
section
set_option maxHeartbeats 2000000
/-! Hot1: a list's end while an exception is handled. -/
namespace Pah
open PySem PySem.Spec PyProof.Rows L2 HotX
section
variable {prog : Program} {w : World} {A : Around} {E : Value → Shared → Prop} {s : Shared}
theorem pyNext_list_end_hot {it l x1 : Addr} {i : Nat} {items} {Q : Option Value → Shared → Prop} (hot : HotAt A x1 s.heap)
    (hit : s.heap.IsListIter it l i) (hl : s.heap.IsList l items) (hx : items[i]? = none)
    (hQ : ∀ h', Heap.ExtBut it s.heap h' → Q none { s with heap := h' }) : wpAny (model prog w) A (pyNext (.ref it)) Q E s := by
  obtain ⟨o, ho, hc, hd⟩ := id hit
  obtain ⟨ol, hol, _, nl, hdl⟩ := hl
  obtain ⟨hh, o1, vs1, h1, d1, c1⟩ := hot
  have ne : x1 ≠ it := fun e => by
    rw [e, ho] at h1
    cases h1
    rw [hd] at d1
    cases d1
    simp at c1
  unfold pyNext
  refine wpAny_bind (wpAny_attempt (wpAny_callSpecial?_slot (name := Str.ofString "__next__") hit.typeIs slot_listiter_next
    (wpAny_call_entry slot_listiter_next hit.typeIs entry_listiter_next ?_ (args_listiter_next _))))
  show wpAny _ _ (field (.ref it) 0 >>= _) _ _ s
  refine wpAny_bind (wpAny_field ho hd (x := .ref l) rfl ?_)
  show wpAny _ _ (if (Value.ref l == Value.none) = true then _ else _) _ _ s
  rw [if_neg (show ¬ ((Value.ref l == Value.none) = true) from Bool.false_ne_true)]
  show wpAny _ _ (field (.ref it) 1 >>= _) _ _ s
  refine wpAny_bind (wpAny_field ho hd (x := .int i 0) rfl ?_)
  show wpAny _ _ (seqItems? (.ref l) >>= _) _ _ s
  refine wpAny_bind (wpAny_seqItems hol hdl ?_)
  simp only [Int.toNat_natCast, hx]
  refine wpAny_bind (wpAny_rule (wpAny_bind (wpAny_setField ho hd (by simp) ?_)))
  show wpAny _ _ (newExc (.type "StopIteration") [] >>= _) _ _ _
  refine wpAny_bind ?_
  simp only [newExc, newTuple]
  refine wpAny_bind (wpAny_newObj_type ?_ (by size_fits))
  refine wpAny_bind (m := firstArgMember _ _) (wpAny_of_eq (a := Value.none) (by first | rfl | (simp only [firstArgMember]; rfl)) ?_)
  refine wpAny_newObj_type ?_ (by size_fits)
  have k1 : ∀ {h' : Heap}, (∀ b o, b ≠ it → s.heap.get? b = some o → h'.get? b = some o) → h'.get? x1 = some o1 := fun k => k x1 o1 ne h1
  refine raiseNew_hot (x1 := x1) ⟨hh, o1, vs1, Heap.get?_push_of_some _ (Heap.get?_push_of_some _ (((Heap.SameBut.update ..).2 x1 ne).trans h1)), d1, c1⟩ (Nat.ne_of_lt (Heap.lt_size (Heap.get?_push_of_some _ (((Heap.SameBut.update ..).2 x1 ne).trans h1)))) (Heap.get?_push_size _ rfl) rfl (by first | (simp; done) | (simp; omega) | (simp only [Array.size_append]; simp; omega)) ?_
  refine wpAny_bind (wpAny_isInstance (T := "StopIteration") (b := true) ⟨_, Heap.get?_update_self _ (Heap.get?_push_size _ rfl) rfl, rfl⟩ isSubtype_stop ?_)
  refine wpAny_pure (hQ _ fun b o hb e => ?_)
  have z : ∀ f, (s.heap.update it f).get? b = some o := fun f => ((Heap.SameBut.update ..).2 b hb).trans e
  rw [Heap.get?_update_other _ _ (Nat.ne_of_gt (Heap.lt_size (Heap.get?_push_of_some _ (z _))))]
  exact Heap.get?_push_of_some _ (Heap.get?_push_of_some _ (z _))
end
/-- the state bears a handled exception, whatever happens -/
def Warm (X : Cx) : Prop := ∃ x1, ∀ (pins : List (Addr × Obj)) (s : Shared) (σ : L2.St) (H : Hp), L2.Inv X pins σ H s → HotAt X.A x1 s.heap
theorem warm_of {X : Cx} (h : L2H.HotC X) : Warm X := by
  obtain ⟨p, ⟨hh, v1, e1, c1⟩, hp⟩ := h
  exact ⟨p.1, fun pins s σ H I => ⟨hh, p.2, v1, (I.pin p (List.mem_append_left _ hp)).1, e1, c1⟩⟩
end Pah
end
section
set_option maxHeartbeats 4000000
/-! Hot2: a list comprehension over a list, while an exception is handled. -/
namespace Pah
open PySem PySem.Spec PyProof.Rows L2 HotX
section
variable {X : Cx} {tg : Expr} {a it : Addr} {i : Nat} {pins : List (Addr × Obj)} {s : Shared} {σ : L2.St} {H : Hp} {E : Value → Shared → Prop}
/-- the next item of a list -/
theorem it_item (I : Inv X pins σ H s) (hf : FpOk X pins H it) (st : s.heap.IsListIter it a i) (hg : (Itl X.K a).go i H) :
    wpAny (model X.prog X.w) X.A (pyNext (.ref it)) (fun r s1 => ∃ u, r = some u ∧
      wpAny (model X.prog X.w) X.A (letOwnedTupleGo tg (.ref it) u) (fun _ s2 => ∃ x H', Inv X pins σ H' s2 ∧ RelV x u ∧ (Itl X.K a).yld i H x H' ∧ s2.heap.IsListIter it a (i + 1) ∧ H' it = none) E s1) E s := by
  obtain ⟨xs, x, hq, hx⟩ := hg
  obtain ⟨its, rv, p, _⟩ := I.list hq
  obtain ⟨u, hu, ru⟩ := rv.get hx
  obtain ⟨f0, f1, f2, f3, f4, f5⟩ := hf
  refine wpAny_pyNext_list_item st p.isList (x := u) (by simpa using hu) fun h' st' sb => ?_
  have J : Inv X pins σ H { s with heap := h' } := I.turned (t' := s.toks) (fun b o hb e => (sb.2 b hb).trans e) f0 f1 f3 f4 f5
  obtain ⟨o, e, c, d⟩ := id st'
  refine ⟨u, rfl, go_of (s := { s with heap := h' }) e c d (by decide) ⟨x, H, J, ru, ⟨rfl, fun ys hy => ?_⟩, st', f0⟩⟩
  rw [I.list_inj hy hq]
  exact hx
/-- .. there is none -/
theorem it_done {x1 : Addr} (hot : HotAt X.A x1 s.heap) (I : Inv X pins σ H s) (hf : FpOk X pins H it) (st : s.heap.IsListIter it a i) (hg : (Itl X.K a).stop i H) :
    wpAny (model X.prog X.w) X.A (pyNext (.ref it)) (fun r s1 => r = none ∧ Inv X pins σ H s1) E s := by
  obtain ⟨xs, hq, hx⟩ := hg
  obtain ⟨its, rv, p, _⟩ := I.list hq
  obtain ⟨f0, f1, f2, f3, f4, f5⟩ := hf
  have hl := rv.length
  exact pyNext_list_end_hot hot st p.isList (by simp; omega) fun h' eb => ⟨rfl, I.turned (t' := s.toks) (fun b o hb e => eb b o hb e) f0 f1 f3 f4 f5⟩
end
theorem lc_hot {X : Cx} {iter elt tg : Expr} {ifs : List Expr} {scope : Scope} {own : List (Str × Nat)} {pos : Pos} {ti te : TE} {g : TG} {tt : TT} (hot : L2H.HotC X) (hN : X.N.Nodup) (hi : PE X iter ti) (ok : BlkOk X.N X.env.scope scope own)
    (hg : ∀ (s : Shared) (H : Hp) (C : Addr) (cl : List (Str × Addr)) (fp : List Addr), Warm (X.blk s H scope (compEnvC scope cl C X.env) fp) → PG (X.blk s H scope (compEnvC scope cl C X.env) fp) tg g)
    (ht : ∀ (s : Shared) (H : Hp) (C : Addr) (cl : List (Str × Addr)) (fp : List Addr), Warm (X.blk s H scope (compEnvC scope cl C X.env) fp) → PTs (X.blk s H scope (compEnvC scope cl C X.env) fp) ifs tt)
    (he : ∀ (s : Shared) (H : Hp) (C : Addr) (cl : List (Str × Addr)) (fp : List Addr), Warm (X.blk s H scope (compEnvC scope cl C X.env) fp) → PE (X.blk s H scope (compEnvC scope cl C X.env) fp) elt te)
    (hs : ∀ x, foldedSetIterable iter X.env x = pure x) : PE X (.ListComp elt [⟨tg, iter, ifs, 0⟩] scope pos) (tLc (iList X.K ti) g tt te (own.map (·.2))) := by
  refine ⟨fun pins s σ H Q I h => ?_⟩
  rw [eval_ListComp]
  have hfree : ∀ y ∈ scope.names, y.2 = .free → ∃ c, X.env.cells.lookup y.1 = some c := fun y hy e => (ok.free y hy e).elim (fun k => I.ok.has _ (.inl k)) fun k => I.ok.has _ (.inr k)
  refine wpAny_comprehension_free (use := none) rfl hs (closure_ok hfree) ok.kind (fun y hy e => by rw [ok.uniq y hy, e])
    (thn (hi.run pins s σ H _ I h) fun v s1 ⟨x, H1, I1, r1, a, ex, ⟨xs, hq⟩, q⟩ => ?_)
  subst ex
  cases r1
  obtain ⟨its, rv, pl, hz⟩ := I1.list hq
  refine wpAny_pyIter_list pl.isList ?_
  -- the iterator
  generalize hit : s1.heap.objs.size = it
  generalize hs2 : ({ s1 with heap := s1.heap.push { cls := .type "list_iterator", data := .fields #[.ref a, .int 0 0] } } : Shared) = s2
  have e2 : s2.heap = s1.heap.push { cls := .type "list_iterator", data := .fields #[.ref a, .int 0 0] } := by rw [← hs2]
  have I2 : Inv X pins σ H1 s2 := by
    rw [← hs2]
    exact I1.kept (t' := s1.toks) fun b o e => Heap.get?_push_of_some _ e
  have f2 : FpOk X pins H1 it := by
    rw [← hit]
    exact I1.fpOk (Nat.le_refl _) (I1.hok.fresh (Nat.le_refl _))
  have st2 : s2.heap.IsListIter it a 0 := by
    rw [e2, ← hit]
    exact ⟨_, Heap.get?_push_size _ rfl, rfl, rfl⟩
  refine wpAny_newObj_type (newEnv_comp ?_) (by show 0 ≤ sizeLine; decide)
  generalize hD : s2.heap.objs.size = D
  have hDn : H1 D = none := I2.hok.fresh (Nat.le_of_eq hD)
  obtain ⟨W, ⟨m0, w0⟩, turn⟩ := q D hDn
  -- the new list
  generalize hs3 : ({ s2 with heap := s2.heap.push { cls := .type "list", data := .seq ([] : List Value).toArray } } : Shared) = s3
  have e3 : s3.heap = s2.heap.push { cls := .type "list", data := .seq ([] : List Value).toArray } := by rw [← hs3]
  have I3 : Inv X pins σ (upd H1 D (.lst [])) s3 := by
    rw [← hs3]
    refine I2.laid (t' := s2.toks) (fun b o e => Heap.get?_push_of_some _ e) (Nat.le_of_eq hD) ⟨Nat.zero_le _, [], 0, .nil, ?_⟩
    rw [← hD]
    exact Heap.get?_push_size _ rfl
  have lt2 : it < s2.heap.objs.size := by
    obtain ⟨o, e, _⟩ := st2
    exact Heap.lt_size e
  have neD : it ≠ D := by rw [← hD]; exact Nat.ne_of_lt lt2
  have f3 : FpOk X pins (upd H1 D (.lst [])) it := ⟨by rw [upd_ne neD]; exact f2.1, f2.2⟩
  have lt3 : it < s3.heap.objs.size := by rw [e3, Heap.size_push]; exact Nat.lt_succ_of_lt lt2
  have st3 : s3.heap.IsListIter it a 0 := st2.at fun o e => by rw [e3]; exact Heap.get?_push_of_some _ e
  have f3' : ∀ b ∈ [it], FpOk X pins (upd H1 D (.lst [])) b ∧ b < s3.heap.objs.size := fun b hb => by
    rw [List.mem_singleton.mp hb]
    exact ⟨f3, lt3⟩
  have I4 := block_start I3 ok hN f3'
  have pg := hg s3 (upd H1 D (.lst [])) s3.heap.objs.size (cellsFrom (s3.heap.objs.size + 1) scope.names (cloFrom X.env.cells scope.names [])) [it]
  have pt := ht s3 (upd H1 D (.lst [])) s3.heap.objs.size (cellsFrom (s3.heap.objs.size + 1) scope.names (cloFrom X.env.cells scope.names [])) [it]
  have pe := he s3 (upd H1 D (.lst [])) s3.heap.objs.size (cellsFrom (s3.heap.objs.size + 1) scope.names (cloFrom X.env.cells scope.names [])) [it]
  show codeAny _ _ (.compStart (.ListComp elt [⟨tg, iter, ifs, 0⟩] scope pos) 0 (.ref it) (.ref D) (compEnvC scope (cellsFrom (s3.heap.objs.size + 1) scope.names (cloFrom X.env.cells scope.names [])) s3.heap.objs.size X.env)) (compPost (model X.prog X.w) X.A X.xe none _ (.ref D) s3.heap.objs.size) { s3 with heap := pushCells (s3.heap.push { cls := .type "dict", data := .dict #[] }) scope.names }
  generalize hce : compEnvC scope (cellsFrom (s3.heap.objs.size + 1) scope.names (cloFrom X.env.cells scope.names [])) s3.heap.objs.size X.env = ce at I4 pg pt pe ⊢
  have cL : ce.locals = s3.heap.objs.size := by subst hce; rfl
  obtain ⟨p, hp1, hp⟩ := hot
  obtain ⟨g1, g2, g3, g4, g5⟩ := I3.pin p (List.mem_append_left _ hp)
  have pit : p.1 ≠ it := fun e => by
    obtain ⟨_, vs, d1, c1⟩ := hp1
    obtain ⟨o, eo, _, d⟩ := st3
    rw [← e, g1] at eo
    cases eo
    rw [d1] at d
    cases d
    simp at c1
  generalize hH3 : upd H1 D (.lst []) = H3 at I3 I4 pg pt pe w0 f3 g2
  generalize hs4 : ({ s3 with heap := pushCells (s3.heap.push { cls := .type "dict", data := .dict #[] }) scope.names } : Shared) = s4 at I4 ⊢
  have st4 : s4.heap.IsListIter it a 0 := st3.at fun o e => by rw [← hs4]; exact pushCells_keeps _ _ _ _ (Heap.get?_push_of_some _ e)
  have stat : ∀ {σ' : L2.St} {H' : Hp} {s' : Shared}, Inv (X.blk s3 H3 scope ce [it]) [] σ' H' s' → H' it = none → FpOk (X.blk s3 H3 scope ce [it]) [] H' it := fun {σ' H' s'} I' hn =>
    ⟨hn, (I'.ok.exf it List.mem_cons_self).1, I'.ok.exfs it List.mem_cons_self, .inl List.mem_cons_self, fun x c e => (I'.ok.exf it List.mem_cons_self).2 x c e, fun p hp => absurd (show p ∈ ([] : List (Addr × Obj)) ++ [] from hp) (by simp)⟩
  have obj : ∀ {i : Nat} {h : Heap}, h.IsListIter it a i → ∀ b ∈ [it], ∃ o, h.get? b = some o ∧ ∀ v, o.data ≠ .cell v := fun {i h} st b hb => by
    rw [List.mem_singleton.mp hb]
    obtain ⟨o, e, _, d⟩ := st
    exact ⟨o, e, fun v z => by rw [d] at z; cases z⟩
  have warm : ∀ {pins' : List (Addr × Obj)} {σ' : L2.St} {H' : Hp} {s' : Shared}, Inv (X.blk s3 H3 scope ce [it]) pins' σ' H' s' → HotAt X.A p.1 s'.heap := fun {pins' σ' H' s'} I' => by
    obtain ⟨hh, vs, d1, c1⟩ := hp1
    refine ⟨hh, p.2, vs, I'.base.keep p.1 p.2 g1 g2 (fun hm => ?_) (fun hm => pit (List.mem_singleton.mp hm)), d1, c1⟩
    exact (List.mem_cons.mp (I3.stkSub p.1 hm)).elim g3 g4
  have hw : Warm (X.blk s3 H3 scope ce [it]) := ⟨p.1, fun _ _ _ _ I' => warm I'⟩
  replace pg := pg hw
  replace pt := pt hw
  replace pe := pe hw
  have loop : codeAny (model X.prog X.w) X.A (.compLoop (.ListComp elt [⟨tg, iter, ifs, 0⟩] scope pos) 0 (.ref it) (.ref D) ce) (compPost (model X.prog X.w) X.A X.xe none (EP X pins σ Q) (.ref D) s3.heap.objs.size) s4 := by
    refine compLoop_any (fun n s' => ∃ i H', Inv (X.blk s3 H3 scope ce [it]) [] (L2.wipe σ (own.map (·.2))) H' s' ∧ s'.heap.IsListIter it a i ∧ H' it = none ∧ W i n H') ?_ m0 ⟨0, H3, I4, st4, f3.1, w0⟩
    rintro n s5 ⟨i, H5, I5, st5, n5, w5⟩
    rcases turn i n H5 w5 with ⟨stop, qq⟩ | ⟨go, Nx, hNx, step⟩
    · refine thnF (it_done (X := X.blk s3 H3 scope ce [it]) (E := fun _ _ => False) (warm I5) I5 (stat I5 n5) st5 stop) fun r s6 ⟨hr, I6⟩ => ?_
      subst hr
      have I7 : Inv X pins σ H5 s6 := I3.call' (ch := [it]) I6.os I6.base I6.hok I6.bare fun b hb => by
        rw [List.mem_singleton.mp hb]
        exact ⟨f3.2.2.2.1, f3.2.1, f3.2.2.2.2.1, f3.2.2.2.2.2⟩
      have nC : H5 s3.heap.objs.size = none := by
        have z : H5 ce.locals = none := I6.free
        rw [cL] at z
        exact z
      obtain ⟨m, hn, _⟩ := I6.loc
      have hn : s6.heap.Ns ce.locals m := hn
      rw [cL] at hn
      obtain ⟨f0, f1, f2', f3', f4, f5⟩ := I3.fpOk (b := s3.heap.objs.size) (Nat.le_refl _) nC
      refine ⟨m, hn, fun h'' sb => ?_⟩
      exact ⟨.ref D, H5, I7.turned (t' := s6.toks) (fun b o hb e => (sb.2 b hb).trans e) f0 f1 f3' f4 f5, rfl, qq⟩
    · refine thnF (it_item (X := X.blk s3 H3 scope ce [it]) (tg := tg) (E := fun _ _ => False) I5 (stat I5 n5) st5 go) fun r s6 ⟨u, hr, h6⟩ => ?_
      subst hr
      refine thnF h6 fun _ s7 ⟨x, H7, I7, r7, y7, st7, n7⟩ => ?_
      have I7' := I7.pinned (fun b hb => by rw [List.mem_singleton.mp hb]; exact stat I7 n7) (obj st7)
      refine thnF (pg.run _ s7 _ H7 x u _ I7' r7 (step x H7 y7)) fun _ s8 ⟨σ8, H8, I8, hw8, q8⟩ => ?_
      refine thnF (pt.run _ s8 σ8 H8 _ I8 q8) fun b s9 ⟨H9, I9, q9⟩ => ?_
      have fin : ∀ {s' : Shared} {H' : Hp}, Inv (X.blk s3 H3 scope ce [it]) ([] ++ pinsAt [it] s7.heap) σ8 H' s' → Nx H' → ∃ m, m < n ∧ ∃ i H', Inv (X.blk s3 H3 scope ce [it]) [] (L2.wipe σ (own.map (·.2))) H' s' ∧ s'.heap.IsListIter it a i ∧ H' it = none ∧ W i m H' := fun {s' H'} I' nx => by
        obtain ⟨m', hm, w'⟩ := hNx H' nx
        have pin' : ∀ o, s7.heap.get? it = some o → s'.heap.get? it = some o ∧ H' it = none := fun o e =>
          let z := I'.pin (it, o) (List.mem_append_right _ (List.mem_append_right _ (mem_pinsAt List.mem_cons_self e)))
          ⟨z.1, z.2.1⟩
        have hl : (L2.wipe σ (own.map (·.2))).length = σ8.length := by rw [← hw8, wipe_length]
        obtain ⟨o7, e7, _⟩ := id st7
        refine ⟨m', hm, i + 1, H', (I'.unpinned (pins := [])).weak hl (fun j v e => ?_), st7.at fun o e => (pin' o e).1, (pin' o7 e7).2, w'⟩
        rw [← hw8] at e
        exact (wipe_some e).1
      cases b with
      | false =>
        simp only [Bool.false_eq_true, if_false] at q9 ⊢
        exact fin I9 q9
      | true =>
        simp only [if_true] at q9 ⊢
        refine thnF (pe.run _ s9 σ8 H9 _ I9 q9) fun z s10 ⟨yv, H10, I10, r10, acc, hD10, hz10, nx⟩ => ?_
        exact app_ok (X := X.blk s3 H3 scope ce [it]) I10 hD10 hz10 r10 fun s11 I11 => fin I11 nx
  exact codeAny_compStart_list loop (wpAny_pyIter_listiter st4 loop)
end Pah
end
section
set_option maxHeartbeats 2000000
/-! Hot3: a tuple goes to a row of targets, while an exception is handled. -/
namespace Pah
open PySem PySem.Spec PyProof.Rows L2 HotX
section
variable {prog : Program} {w : World} {A : Around} {E : Value → Shared → Prop} {s : Shared}
theorem next_tup_end_hot {it t x1 : Addr} {i : Nat} {items} {Q : Option Value → Shared → Prop} (hot : HotAt A x1 s.heap)
    (hit : IsTupIter s.heap it t i) (ht : IsTup s.heap t items) (hx : items[i]? = none)
    (hQ : ∀ h', Heap.ExtBut it s.heap h' → Q none { s with heap := h' }) : wpAny (model prog w) A (pyNext (.ref it)) Q E s := by
  obtain ⟨o, ho, hc, hd⟩ := id hit
  obtain ⟨ol, hol, _, nl, hdl⟩ := ht
  obtain ⟨hh, o1, vs1, h1, d1, c1⟩ := hot
  have ne : x1 ≠ it := fun e => by
    rw [e, ho] at h1
    cases h1
    rw [hd] at d1
    cases d1
    simp at c1
  unfold pyNext
  refine wpAny_bind (wpAny_attempt (wpAny_callSpecial?_slot (name := Str.ofString "__next__") hit.typeIs slot_tupleiter_next
    (wpAny_call_entry slot_tupleiter_next hit.typeIs entry_tupleiter_next ?_ (args_tupleiter_next _))))
  show wpAny _ _ (field (.ref it) 0 >>= _) _ _ s
  refine wpAny_bind (wpAny_field ho hd (x := .ref t) rfl ?_)
  show wpAny _ _ (if (Value.ref t == Value.none) = true then _ else _) _ _ s
  rw [if_neg (show ¬ ((Value.ref t == Value.none) = true) from Bool.false_ne_true)]
  show wpAny _ _ (field (.ref it) 1 >>= _) _ _ s
  refine wpAny_bind (wpAny_field ho hd (x := .int i 0) rfl ?_)
  show wpAny _ _ (seqItems? (.ref t) >>= _) _ _ s
  refine wpAny_bind (wpAny_seqItems hol hdl ?_)
  simp only [Int.toNat_natCast, hx]
  refine wpAny_bind (wpAny_rule (wpAny_bind (wpAny_setField ho hd (by simp) ?_)))
  show wpAny _ _ (newExc (.type "StopIteration") [] >>= _) _ _ _
  refine wpAny_bind ?_
  simp only [newExc, newTuple]
  refine wpAny_bind (wpAny_newObj_type ?_ (by size_fits))
  refine wpAny_bind (m := firstArgMember _ _) (wpAny_of_eq (a := Value.none) (by first | rfl | (simp only [firstArgMember]; rfl)) ?_)
  refine wpAny_newObj_type ?_ (by size_fits)
  refine raiseNew_hot (x1 := x1) ⟨hh, o1, vs1, Heap.get?_push_of_some _ (Heap.get?_push_of_some _ (((Heap.SameBut.update ..).2 x1 ne).trans h1)), d1, c1⟩ (Nat.ne_of_lt (Heap.lt_size (Heap.get?_push_of_some _ (((Heap.SameBut.update ..).2 x1 ne).trans h1)))) (Heap.get?_push_size _ rfl) rfl (by first | (simp; done) | (simp; omega) | (simp only [Array.size_append]; simp; omega)) ?_
  refine wpAny_bind (wpAny_isInstance (T := "StopIteration") (b := true) ⟨_, Heap.get?_update_self _ (Heap.get?_push_size _ rfl) rfl, rfl⟩ isSubtype_stop ?_)
  refine wpAny_pure (hQ _ fun b o hb e => ?_)
  have z : ∀ f, (s.heap.update it f).get? b = some o := fun f => ((Heap.SameBut.update ..).2 b hb).trans e
  rw [Heap.get?_update_other _ _ (Nat.ne_of_gt (Heap.lt_size (Heap.get?_push_of_some _ (z _))))]
  exact Heap.get?_push_of_some _ (Heap.get?_push_of_some _ (z _))
theorem unpack_hot {t x1 : Addr} {items : Array Value} {Q : List Value → Shared → Prop} (hot : HotAt A x1 s.heap) (ht : IsTup s.heap t items)
    (hQ : ∀ h', Heap.ExtBut s.heap.objs.size s.heap h' → Q items.toList { s with heap := h' }) : wpAny (model prog w) A (unpackItems (.ref t) items.size none) Q E s := by
  have hlt : t ≠ s.heap.objs.size := by obtain ⟨o, ho, _⟩ := ht; exact Nat.ne_of_lt (Heap.lt_size ho)
  unfold unpackItems
  refine wpAny_bind ?_
  unfold notIterableAtAll
  refine wpAny_bind (wpAny_specialOf ht.typeIs slot_tuple_iter.lookup (wpAny_pure ?_))
  simp only [Bool.false_eq_true, if_false]
  refine wpAny_bind (wpAny_holding (iter_tuple ht (wpAny_bind (wpAny_holding (draw_tuple hlt items.size 0 _ _ ⟨_, Heap.get?_push_size _ rfl, rfl, rfl⟩ (ht.push _) (by omega) fun h₁ hit₁ hs₁ => ?_)))))
  rw [show List.take items.size (List.drop 0 items.toList) = items.toList by rw [List.drop_zero]; exact List.take_of_length_le (by simp), if_neg (by simp)]
  have ht₁ : IsTup h₁ t items := (ht.push _).extBut hs₁.extBut hlt
  obtain ⟨hh, o1, vs1, g1, d1, c1⟩ := hot
  have hot₁ : HotAt A x1 h₁ := ⟨hh, o1, vs1, hs₁.extBut x1 o1 (Nat.ne_of_lt (Heap.lt_size g1)) (Heap.get?_push_of_some _ g1), d1, c1⟩
  refine wpAny_bind (wpAny_holding (next_tup_end_hot (s := { s with heap := h₁ }) hot₁ hit₁ ht₁ (by simp) fun h₂ he₂ => ?_))
  simp only [Option.isSome_none, Bool.false_eq_true, if_false]
  exact wpAny_pure (hQ h₂ fun b o hb e => he₂ b o hb (hs₁.extBut b o hb (Heap.get?_push_of_some _ e)))
end
theorem pg_tup_hot {X : Cx} {es : List Expr} {k n : Nat} {pos : Pos} {t : TGs} (hot : Warm X) (h : PGs X es t)
    (hn : (assignEach es X.env).length = n) (hst : (assignEach es X.env).findIdx? (·.1) = none) : PG X (.Tuple es k pos) (gTup X.K n t) := by
  refine ⟨fun pins s σ H v u Q I r hw => ?_⟩
  obtain ⟨a, xs, e1, hq, hl, hw⟩ := hw
  subst e1
  cases r
  obtain ⟨its, rv, ht, _⟩ := I.tuple hq
  obtain ⟨x1, hot⟩ := hot
  rw [assign_Tuple]
  refine wpAny_bind (wpAny_standAt ?_)
  unfold unpack
  rw [hst, show (assignEach es X.env).length = its.toArray.size by simp [hn, ← hl, rv.length]]
  refine wpAny_bind (wpAny_holding (unpack_hot (hot pins s σ H I) ht fun h' hx => ?_))
  have J : Inv X pins σ H { s with heap := h' } := I.kept (t' := s.toks) fun b o e => hx b o (Nat.ne_of_lt (Heap.lt_size e)) e
  exact h.run pins _ σ H xs _ Q J (by simpa using rv) hw
end Pah
end
section
set_option maxHeartbeats 2000000
/-! Lam: a lambda handed to a def whose try keeps what it caught: the flying exception's context is None. -/
namespace Pah
open PySem PySem.Spec PyProof.Rows L2 LamX
/-- what is there stays there -/
def There (H H1 : Hp) : Prop := ∀ a, H a ≠ none → H1 a ≠ none
section
variable {X : Cx} {pins : List (Addr × Obj)} {σ : L2.St} {H : Hp} {s : Shared}
/-- as LamX.lam_make2, and nothing goes -/
theorem lam_made {T : List (Addr × Str)} {c Pt : Addr} {q : Str} {params : Arguments} {body : Expr} {scope : Scope} {pos : Pos} {E : Value → Shared → Prop} {Q : Value → Shared → Prop}
    (I : Inv X pins σ H s) (TB : TabB X.base X.mg c Pt) (hq : X.env.qual ++ "<lambda>" = q) (ecode : X.env.code = .ref c) (inT : (Pt, q) ∈ T) (one : ∀ p ∈ T, p.1 = Pt → p.2 = q) (hT : Tabs T H)
    (nodef : defaultsOf params X.env = ([], [])) (caps : ∀ y ∈ scope.names, y.2 = .free → ∃ c, X.env.cells.lookup y.1 = some c)
    (k : ∀ (f c' : Addr) (pm ctv : Value) (H1 : Hp) (s' : Shared), Inv X pins σ H1 s' → ExtN H H1 → There H H1 → Tabs T H1 →
      s'.heap.get? f = some (PySem.W.kla_obj "<lambda>" (X.env.qual ++ "<lambda>") params body scope (cloFrom X.env.cells scope.names []) pm c' ctv) → H1 f = none → f ∉ frs X.stack → H1 c' = some (CodeO c' q) → Q (.ref f) s') :
    wpAny (model X.prog X.w) X.A (eval (.Lambda params body scope pos) X.env) Q E s := by
  subst hq
  obtain ⟨ps, tP, tok, tc⟩ := hT _ inT
  have oP : s.heap.get? Pt = some { cls := .none, data := .fields ps } := I.hok Pt _ tP
  have out : ∀ {f : Addr}, s.heap.objs.size ≤ f → f ∉ frs X.stack := fun {f} hf z => (List.mem_cons.mp (I.stkSub _ z)).elim
    (fun e => by have l := I.lt; rw [← e] at l; exact absurd hf (Nat.not_le_of_lt l)) fun e => I.nofs hf e
  have bmn : s.heap.BuiltinsAt X.mg Pt := TB.bm.keeps I.bk
  have chd : PySem.W.CodeHd s.heap c Pt := TB.code.keeps I.bk
  refine PySem.W.kla_eval nodef ?_
  cases look : codeAmong pos ps.toList with
  | some cv =>
    obtain ⟨c', rfl, old⟩ := tc pos cv look
    exact PySem.W.kla_makeFunctionHit (mg := X.mg) (c := c) (P := Pt) (ps := ps) (closure_ok caps) I.ok.glob (I.mod.glob.keeps I.bk) ecode chd oP tok look bmn fun ctv h' tk hx hsz =>
      k h'.objs.size c' _ ctv H _ (I.kept (t' := tk) fun b o e => Heap.get?_push_of_some _ (hx b o e)) (ExtN.refl H) (fun _ h => h) hT (Heap.get?_push_size _ rfl) (I.hok.fresh hsz) (out hsz) old
  | none =>
    refine PySem.W.kla_makeFunction (mg := X.mg) (c := c) (P := Pt) (ps := ps) (closure_ok caps) I.ok.glob (I.mod.glob.keeps I.bk) ecode chd oP tok look TB.gP bmn fun c' ctv h' tk hx hge hlt hrec htb => ?_
    obtain ⟨c2, oc, vs, t, ec, hoc, hd, hv⟩ := hrec
    cases ec
    have ge : s.heap.objs.size ≤ h'.objs.size := Nat.le_trans hge (Nat.le_of_lt hlt)
    have nC : H c' = none := I.hok.fresh hge
    have nF : H h'.objs.size = none := I.hok.fresh ge
    have ePC : Pt ≠ c' := ne_of_none tP nC
    generalize hps : ps ++ #[rawInt pos.line, rawInt pos.col, .ref c'] = ps' at htb
    have lps : ps'.toList = ps.toList ++ [rawInt pos.line, rawInt pos.col, .ref c'] := by rw [← hps]; simp
    have J := inv_table (t' := tk) (more := #[rawInt pos.line, rawInt pos.col, .ref c']) (h' := h'.push (PySem.W.kla_obj "<lambda>" (X.env.qual ++ "<lambda>") params body scope (cloFrom X.env.cells scope.names []) ((X.mg "__name__").getD .none) c' ctv)) I tP
      (fun b o hb e => Heap.get?_push_of_some _ (hx b o hb e)) (Heap.get?_push_of_some _ (by rw [hps]; exact htb)) hge ⟨oc, vs, t, Heap.get?_push_of_some _ hoc, hd, hv⟩
    rw [hps] at J
    have ext : ExtN H (upd (upd H Pt (.tbl ps')) c' (CodeO c' (X.env.qual ++ "<lambda>"))) := fun b o e n => by
      rw [upd_ne (ne_of_none e nC), upd_ne]
      · exact e
      · intro z
        rw [z, tP] at e
        exact n ps (Option.some.inj e).symm
    refine k h'.objs.size c' _ ctv _ _ J ext (fun b hb => ?_) (fun p hp => ?_) (Heap.get?_push_size _ rfl) ?_ (out ge) upd_same
    · by_cases z : b = c'
      · rw [z, upd_same]; exact fun z => nomatch z
      · by_cases z2 : b = Pt
        · rw [z2, upd_ne ePC, upd_same]; exact fun z => nomatch z
        · rw [upd_ne z, upd_ne z2]; exact hb
    · obtain ⟨qs, a1, a2, a3⟩ := hT p hp
      have kept : ∀ pos' cv, codeAmong pos' qs.toList = some cv → ∃ c0, cv = .ref c0 ∧ upd (upd H Pt (.tbl ps')) c' (CodeO c' (X.env.qual ++ "<lambda>")) c0 = some (CodeO c0 p.2) := fun pos' cv hcv => by
        obtain ⟨c0, e1, e2⟩ := a3 pos' cv hcv
        exact ⟨c0, e1, ext _ _ e2 codeO_ne⟩
      by_cases z : p.1 = Pt
      · rw [z, tP] at a1
        cases a1
        refine ⟨ps', by rw [z, upd_ne ePC, upd_same], by rw [lps]; exact PySem.TriplesOk_snoc _ _ _ _ tok, fun pos' cv hcv => ?_⟩
        rw [lps] at hcv
        rcases among_app _ tok hcv with y | y
        · exact kept pos' cv y
        · exact ⟨c', y, by rw [one p hp z, upd_same]⟩
      · exact ⟨qs, by rw [upd_ne (ne_of_none a1 nC), upd_ne z]; exact a1, a2, kept⟩
    · rw [upd_ne (Nat.ne_of_gt hlt), upd_ne (Nat.ne_of_gt (Nat.lt_of_lt_of_le (Heap.lt_size oP) ge))]
      exact nF
/-- the context of the lambda's body -/
abbrev lamN (X : Cx) (A : Around) (outer : List Env) (s : Shared) (H : Hp) (E : XK) (scope : Scope) (f c' : Addr) : Cx :=
  (lamCx X A outer s H E scope f c').wish fun e s' => wpAny (model X.prog X.w) (A.deeper (lamEnv X scope s.heap.objs.size f c')) (leaving (lamEnv X scope s.heap.objs.size f c') e)
    (fun _ s2 => L2N.CX X.prog X.w outer H s E e s2) (fun e2 s2 => L2N.CX X.prog X.w outer H s E e2 s2) s'
/-- as LamX.pe_act -/
theorem pe_actN {CXg : CXT} {Eg : XK} {Ng : List Str} {qg : Str} {sg : Scope} {g f c' : Addr} {cdg pm ctv : Value} {params : Arguments} {body : Expr} {scope : Scope} {k i : Nat} {a : Str} {pn : List (Addr × Obj)} {xe : Value → Shared → Prop} {W : WX} {E : XK} {tb : TE} {p1 p2 : Pos}
    (I : Inv X pins σ H s) (L : LamS X.env.scope scope) (fo : s.heap.get? f = some (PySem.W.kla_obj "<lambda>" (X.env.qual ++ "<lambda>") params body scope (cloFrom X.env.cells scope.names []) pm c' ctv)) (fn : H f = none) (fr : f ∉ frs X.stack)
    (nob : bindArgs (PySem.W.kla_fn "<lambda>" (X.env.qual ++ "<lambda>") params body scope (cloFrom X.env.cells scope.names []) pm (.ref c') ctv) ⟨[], []⟩ = pure [])
    (tk : L2N.Takes ((cxOf CXg X.prog X.w X.K X.mg X.base Ng qg sg g cdg X.A X.stack s H Eg).tr pn xe) W) (up : ∀ cls d σ' H', E cls d H' → W cls d σ' H') (room : Room (k + 1) (X.A.deeper (envOfC qg sg s.heap.objs.size g cdg)))
    (hbody : ∀ (A : Around) (outer : List Env) (s : Shared) (H : Hp), Room k (A.deeper (lamEnv X scope s.heap.objs.size f c')) → PE (lamN X A outer s H E scope f c') body tb)
    (iN : Ng[i]? = some a) (va : Vis sg a) (na : (a == ("__debug__" : Str)) = false) (na2 : (a == ("__classdict__" : Str)) = false) :
    PE ((cxOf CXg X.prog X.w X.K X.mg X.base Ng qg sg g cdg X.A X.stack s H Eg).tr pn xe) (.Call (.Name a p1) [] [] p2)
      (fun σZ HZ Q => σZ[i]? = some (some (.ref f)) ∧ HZ c' = some (CodeO c' (X.env.qual ++ "<lambda>")) ∧ tb σ HZ Q) := by
  refine ⟨fun pinsZ sZ σZ HZ Q IZ ⟨hs, hc, ht⟩ => wpAny_Call_Name_kw (thn ((pe_var (pos := p1) (i := i) iN va na na2).run pinsZ sZ σZ HZ (fun v H1 => v = .ref f ∧ H1 = HZ) IZ ⟨.ref f, hs, rfl, rfl⟩) fun u s1 ⟨v, H1, I1, r1, ev, eH⟩ => ?_)⟩
  subst ev eH
  obtain rfl : u = Value.ref f := r1
  have un : Un (frs X.stack) [] H H1 s.heap s1.heap := I1.base
  have of1 := un.keep f _ fo fn fr (fun z => nomatch (show f ∈ ([] : List Addr) from z))
  obtain ⟨⟨oc, vs, t, hoc, hdc, hvc⟩, _, _⟩ := I1.hok c' _ hc
  have called : codeAny (model X.prog X.w) (X.A.deeper (envOfC qg sg s.heap.objs.size g cdg)) (.call (.ref f) ⟨[], []⟩) (CR (L2N.CX X.prog X.w) (envOfC qg sg s.heap.objs.size g cdg :: X.stack) X.prog X.w H1 s1 Q E) s1 := by
    refine PySem.W.kla_callFunE room.depth of1 rfl L.co L.gen rfl ⟨c', oc, vs, t, rfl, hoc, hdc, hvc⟩ ?_
    rw [nob]
    refine wpAny_pure (wpAny_newFunctionEnv (fun y hy => (L.own y hy).2) (fun y hy => absurd hy (by simp)) (fun h₁ hns hsb => ⟨I1.nolimit.fresh _ hsb, ?_⟩) L.kind)
    show codeAny _ _ (.expr body (lamEnv X scope s1.heap.objs.size f c')) _ _
    have J := (lam_start2 (E := E) (A := X.A.deeper (envOfC qg sg s.heap.objs.size g cdg)) (outer := envOfC qg sg s.heap.objs.size g cdg :: X.stack) (f := f) (c' := c') (tk := s1.toks + ([] : List (Str × Value)).length) I L I1.env0 room.hd un hns
      fun b o e => hsb.extBut b o (Nat.ne_of_lt (Heap.lt_size e)) (Heap.get?_push_of_some _ e)).wish (lamN X (X.A.deeper (envOfC qg sg s.heap.objs.size g cdg)) (envOfC qg sg s.heap.objs.size g cdg :: X.stack) s1 H1 E scope f c').xe
    refine PySem.W.kla_codeExpr (wpAny_mono ((hbody _ _ s1 H1 (room.deeper _)).run [] _ _ H1 Q J ht) (fun v s' hq => ?_) fun e s' hq => hq)
    obtain ⟨w', H', J', rv, q⟩ := hq
    exact ⟨w', H', J'.os, J'.bare, J'.base, J'.hok, rv, q⟩
  refine PySem.W.callWith_F0 ⟨_, _, _, _, of1⟩ (wpAny_call (codeAny_mono called fun r s' hq => ?_))
  cases r with
  | error e => exact L2N.passes_call tk up pinsZ σZ H1 s1 e s' I1 hq
  | ok fl =>
    cases fl with
    | ret u => exact I1.after hq
    | _ => exact False.elim hq
end
/-- as LamX.GivesTo -/
def GivesN (X : Cx) (Ng : List Str) (x : Str) (sg : Scope) (g : Addr) (cdg : Value) (bg : List Stmt) (a : Str) (q : Str) (TT : (XK → Hp → VK → Prop) → Hp → VK → Prop) : Prop :=
  ∀ (f c' : Addr) (s : Shared) (H : Hp) (Q : VK) (tl : XK → Hp → VK → Prop),
    (∀ (W : WX) (pn : List (Addr × Obj)) (xe : Value → Shared → Prop) (E : XK) (p1 p2 : Pos), L2N.Takes ((cxOf C8.CX0 X.prog X.w X.K X.mg X.base Ng x sg g cdg X.A X.stack s H C8.E0).tr pn xe) W → (∀ cls d σ' H', E cls d H' → W cls d σ' H') →
      PE ((cxOf C8.CX0 X.prog X.w X.K X.mg X.base Ng x sg g cdg X.A X.stack s H C8.E0).tr pn xe) (.Call (.Name a p1) [] [] p2) (fun σZ HZ Q => σZ[0]? = some (some (.ref f)) ∧ HZ c' = some (CodeO c' q) ∧ tl E HZ Q)) →
    H c' = some (CodeO c' q) → TT tl H Q → ∀ j, Room (j + 1) (X.A.deeper (envOfC x sg s.heap.objs.size g cdg)) →
    ∃ t, PSs (cxOf C8.CX0 X.prog X.w X.K X.mg X.base Ng x sg g cdg X.A X.stack s H C8.E0).nox bg t ∧ t { nx := fun _ H' => Q .non H', rt := Q } (L2.start Ng [.ref f]) H
def tLamN (T : List (Addr × Str)) (TT : (XK → Hp → VK → Prop) → Hp → VK → Prop) (t : XK → TE) : TE := fun σ H Q => Tabs T H ∧ ∀ H1, ExtN H H1 → There H H1 → Tabs T H1 → TT (fun E H' Q' => t E σ H' Q') H1 Q
section
variable {X : Cx}
/-- x(lambda: body) -/
theorem pe_lamN {T : List (Addr × Str)} {TT : (XK → Hp → VK → Prop) → Hp → VK → Prop} {x a : Str} {g c Pt : Addr} {k : Nat} {pg : Arguments} {bg : List Stmt} {sg : Scope} {fd : FuncData} {Ng : List Str}
    {params : Arguments} {body : Expr} {scope : Scope} {t : XK → TE} {p lpos pos : Pos} (hg : Gl X x) (hm : X.mg x = some (.ref g)) (FD : FunD X.K x x pg bg sg [] [] g fd) (hb : L2.Binds X.K fd [a] []) (Sg : FnScope Ng [a] sg) (iN : Ng[0]? = some a) (va : Vis sg a)
    (hG : ∀ cdg, GivesN X Ng x sg g cdg bg a (X.env.qual ++ "<lambda>") TT)
    (TB : TabB X.base X.mg c Pt) (ecode : X.env.code = .ref c) (inT : (Pt, X.env.qual ++ "<lambda>") ∈ T) (one : ∀ p ∈ T, p.1 = Pt → p.2 = X.env.qual ++ "<lambda>") (room : Room (k + 2) X.A) (L : LamS X.env.scope scope) (nodef : defaultsOf params X.env = ([], []))
    (nob : ∀ (q : Str) (cl : List (Str × Addr)) (pm cv ctv : Value), bindArgs (PySem.W.kla_fn "<lambda>" q params body scope cl pm cv ctv) ⟨[], []⟩ = pure [])
    (hbody : ∀ (A : Around) (outer : List Env) (s : Shared) (H : Hp) (E : XK) (f c' : Addr), Room k (A.deeper (lamEnv X scope s.heap.objs.size f c')) → PE (lamN X A outer s H E scope f c') body (t E))
    (n1 : (x == ("__debug__" : Str)) = false) (n2 : (a == ("__debug__" : Str)) = false) (n3 : (a == ("__classdict__" : Str)) = false) :
    PE X (.Call (.Name x p) [.Lambda params body scope lpos] [] pos) (tLamN T TT t) := by
  obtain ⟨oc, od, dV, kV, doc, pm, an, cdv, ct, osl, rfl, lk, hcd, _, _⟩ := FD.ex
  refine ⟨fun pins s σ H Q I ⟨hT, h⟩ => wpAny_Call_Name_kw (ld_glob I hg hm (PySem.W.callWith_K (h₀ := X.base) I.ok.mod.kin FD.kp ?_ (by rfl) (by rfl)) n1)⟩
  show wpAny _ _ (spliced ((false, eval (.Lambda params body scope lpos) X.env) :: backTo pos (starEach [] X.env))) _ _ s
  refine Calls.spliced_cons (lam_made I TB rfl ecode inT one hT nodef (L.has I.ok) fun f c' pm' ctv H1 s' I1 eN th T1 fo fn fr co => Calls.spliced_nil ⟨I1.kIn, ?_⟩)
  have called : codeAny (model X.prog X.w) X.A (.call (.ref g) ⟨[.ref f], []⟩) (CR C8.CX0 X.stack X.prog X.w H1 s' Q C8.E0) s' := by
    refine run_ofS (N := Ng) (ps := [a]) (us := [.ref f]) (vs := [.ref f]) lk hcd Sg room I1.env0 (hb s' [.ref f] I1.kIn rfl) (.cons rfl .nil) rfl fun room' => ?_
    obtain ⟨t', ht', hq'⟩ := hG cdv f c' s' H1 Q (fun E H' Q' => t E σ H' Q') (fun W pn xe E p1 p2 tk up => pe_actN (i := 0) I1 L fo fn fr (nob _ _ _ _ _) tk up room' (fun A outer s H hr => hbody A outer s H E f c' hr) iN va n2 n3) co (h H1 eN th T1) k room'
    exact ⟨t', ht'.nox, hq'⟩
  refine wpAny_call (codeAny_mono called fun r s2 hq => ?_)
  cases r with
  | error e => exact (show False from hq).elim
  | ok fl =>
    cases fl with
    | ret u => exact I1.after hq
    | _ => exact False.elim hq
end
end Pah
end
section
set_option maxHeartbeats 200000
/-! Snd2: the context of a body; targets; what is walked. -/
namespace Pah
open PySem PySem.Spec PyProof.Rows L2

/-! ### shapes of the tree -/
def star : Expr → Bool
  | .Starred _ _ => true
  | _ => false
theorem star_each {e : Expr} {es : List Expr} {env : Env} (h : star e = false) : starEach (e :: es) env = (false, eval e env) :: starEach es env := by
  cases e <;> first | rfl | cases h
theorem star_all {env : Env} : ∀ {es : List Expr}, es.all (fun e => !star e) = true → ∀ pos, (backTo pos (starEach es env)).any (·.1) = false
  | [], _, _ => rfl
  | e :: es, h, pos => by
    simp only [List.all_cons, Bool.and_eq_true, Bool.not_eq_true'] at h
    rw [star_each h.1]
    show (false || (backTo pos (starEach es env)).any (·.1)) = false
    rw [star_all h.2 pos]
    rfl
theorem aeach {e : Expr} {es : List Expr} {env : Env} (h : star e = false) : assignEach (e :: es) env = (false, assign e env) :: assignEach es env := by
  cases e <;> first | rfl | cases h
theorem aeach_len {env : Env} : ∀ {es : List Expr}, es.all (fun e => !star e) = true → (assignEach es env).length = es.length
  | [], _ => rfl
  | e :: es, h => by
    simp only [List.all_cons, Bool.and_eq_true, Bool.not_eq_true'] at h
    rw [aeach h.1, List.length_cons, List.length_cons, aeach_len h.2]
theorem aeach_find {env : Env} : ∀ {es : List Expr}, es.all (fun e => !star e) = true → (assignEach es env).findIdx? (·.1) = none
  | [], _ => rfl
  | e :: es, h => by
    simp only [List.all_cons, Bool.and_eq_true, Bool.not_eq_true'] at h
    rw [aeach h.1, List.findIdx?_cons, aeach_find h.2]
    rfl
def isSet : Expr → Bool
  | .Set _ _ _ => true
  | _ => false
theorem no_marks {op : CmpOp} {e : Expr} (h : isSet e = false) : behindInMarks op e = false := by
  cases e <;> first | rfl | cases h
theorem no_last {o1 o2 : CmpOp} {e1 e2 : Expr} (h : isSet e2 = false) : lastMarks [o1, o2] [e1, e2] = false := by
  show behindInMarks o2 e2 = false
  exact no_marks h
theorem no_fold {e : Expr} (env : Env) (h : isSet e = false) : ∀ x, foldedSetIterable e env x = pure x := by
  intro x
  cases e <;> first | rfl | cases h
def isSlice : Expr → Bool
  | .Slice _ _ _ _ => true
  | _ => false
theorem plain_ix {e : Expr} (h : isSlice e = false) : PlainIx e := by
  intro o i
  cases e <;> first | rfl | cases h
/-- not a call without arguments (super) -/
def noSuper : Expr → Bool
  | .Call (.Name _ _) [] [] _ => false
  | _ => true
theorem base_ok {o : Expr} {attr : Str} {env : Env} (h : noSuper o = true) : attributeBase o attr env (eval o env) = eval o env := by
  cases o with
  | Call f as ks p =>
    cases f with
    | Name x q =>
      cases as with
      | nil =>
        cases ks with
        | nil => cases h
        | cons _ _ => rfl
      | cons _ _ => rfl
    | _ => rfl
  | _ => rfl

/-! ### the context -/
/-- how a body is read: its names, its scope, whose cells are its own; the module's defs (with their numbers of parameters) and constants -/
structure Ck where
  N : List Str
  sc : Scope
  fn : Str → Bool
  fs : List (Str × Nat)
  cs : List Str
  xs : List Str := []
  /-- whether an exception is handled -/
  hot : Bool := false
  /-- whether lambdas may be made -/
  lm : Bool := false
  /-- fields, properties, classmethods of classes; classes that are made -/
  fa : List (Str × Str) := []
  pr : List (Str × Str) := []
  cm : List (Str × Str) := []
  mks : List Str := []
  /-- whether _law_error is there -/
  er : Bool := false
def bNames : List Str := ["len", "all", "any", "sum", "list", "tuple", "sorted", "int", "max", "min", "range", "enumerate", "zip", "isinstance", "str", "bool", "set", "dict"]
section
variable (P : Program) (w : World) (K : PySem.W.Frag) (mg : Str → Option Value)
/-- what the call of a def does -/
def spF (Φ : Phi) (f : Str) (np : Nat) : Sp := fun vs H Q E => ∃ (G : Gh) (m : Mm) (ds : List D), RDs P w K mg G vs ds ∧ SM P w K mg (Bof G m H) G m H ∧ ds.length = np ∧
  pO P w K mg (Bof G m H) E G (Φ.call f ds m) fun r s' => ∀ v H' G', G.Le G' → SM P w K mg (Bof G m H) G' s'.mem H' → RR P w K mg (Bof G m H) G' H' r v → Q v H'
/-- .. where what is left over comes as a tuple -/
def spS (Φ : Phi) (f : Str) : Sp := fun vs H Q E => ∃ x rest, vs = x :: rest ∧ rest.length ≤ sizeLine ∧ ∀ (p : Addr) (o : Obj), o.dict = none → H p = none → spF P w K mg Φ f 2 [x, .ref p] (upd H p (.frz o (.tup rest))) Q E
/-- what a lambda that is handed to _law_refused makes -/
def TTr : (XK → Hp → VK → Prop) → Hp → VK → Prop := fun tl H Q => tl (fun cls d H' => ∃ (C : Str) (Ca : Addr) (z : Str), mg C = some (.ref Ca) ∧ cls = .ref Ca ∧ d = none ∧ errW C = some z ∧ LamX.Tabs (Tk K) H' ∧ ∀ H2, LamX.ExtN H' H2 → There H' H2 → LamX.Tabs (Tk K) H2 → Q (.str z) H2) H fun _ H' => Q (.str "") H'
/-- a def that makes lambdas -/
structure LamOk (X : Cx) : Prop where
  code : ∃ (cc Pt : Addr), X.env.code = .ref cc ∧ LamX.TabB X.base mg cc Pt ∧ (Pt, X.env.qual ++ "<lambda>") ∈ Tk K ∧ ∀ p ∈ Tk K, p.1 = Pt → p.2 = X.env.qual ++ "<lambda>"
  rf : ∃ (g : Addr) (fd : FuncData) (pg : Arguments) (bg : List Stmt) (sg : Scope) (Ng : List Str) (a : Str), mg "_law_refused" = some (.ref g) ∧ FunD K "_law_refused" "_law_refused" pg bg sg [] [] g fd ∧ Binds K fd [a] [] ∧ FnScope Ng [a] sg ∧ Ng[0]? = some a ∧ Vis sg a ∧
    (a == ("__debug__" : Str)) = false ∧ (a == ("__classdict__" : Str)) = false ∧ ∀ cdg, GivesN X Ng "_law_refused" sg g cdg bg a (X.env.qual ++ "<lambda>") (TTr K mg)
/-- what is known of _law_error in the suite that holds the exception -/
structure SuiOk : Prop where
  pe : ∃ CP, mg "PassError" = some (.ref CP) ∧ ∀ C z Ca, errW C = some z → mg C = some (.ref Ca) → PySem.W.exmOne K (.ref Ca) (.ref CP) = some true
  le : ∃ f, mg "_law_error" = some (.ref f) ∧ PySem.W.keepIn K (.ref f) = true ∧ ∀ (X : Cx) (a : Addr) (oe : Obj) (pins : List (Addr × Obj)) (σ : L2.St) (H : Hp) (s : Shared) (Q : VK) (C z : Str) (Ca : Addr), X.prog = P → X.w = w → X.K = K → X.mg = mg →
    (a, oe) ∈ X.pn → L2H.Hot1 X.A (a, oe) → L2H.RoomH 1 X.A → mg C = some (.ref Ca) → errW C = some z → Zc (.ref Ca) none oe → Inv X pins σ H s → LamX.Tabs (Tk K) H →
    (∀ H2, LamX.ExtN H H2 → There H H2 → LamX.Tabs (Tk K) H2 → Q (.str z) H2) → wpAny (model X.prog X.w) X.A (call (.ref f) [.ref a]) (EP X pins σ Q) X.xe s
structure CtxOk (Φ : Phi) (n : Nat) (X : Cx) (c : Ck) (E : XK) : Prop where
  eP : X.prog = P
  ew : X.w = w
  eK : X.K = K
  em : X.mg = mg
  calm : c.hot = false → X.calm = true
  room : c.hot = false → Room (4 * n + if c.lm = true then 3 else 1) X.A
  un : X.A.units + 150 < cLine
  warm : c.hot = true → Warm X
  hc : c.hot = true → c.xs ≠ [] → L2H.HotC X
  hx : c.xs ≠ [] → ∀ cl a, Φ.con "%e" = some (.exc cl a) → ∃ oe D, (a, oe) ∈ X.pn ∧ Zc (.ref D) none oe ∧ (∃ vs, oe.data = .fields vs) ∧ ExcC K D ∧ ∀ C ∈ c.xs, ∃ Ca, mg C = some (.ref Ca) ∧ PySem.W.kitOne K (.ref D) (.ref Ca) = some (exsub cl C)
  N : X.N = c.N
  nd : X.N.Nodup
  sc : X.env.scope = c.sc
  fn : ∀ x, c.fn x = true → X.fn x = true
  tk : L2N.Takes X fun cl d _ H => E cl d H
  blt : ∀ x ∈ bNames, mg x = none
  con : ∀ x ∈ c.cs, ∃ d v u, Φ.con x = some d ∧ mg x = some u ∧ RelV v u ∧ ∀ G, RD P w K mg G v d
  calls : ∀ f np, (f, np) ∈ c.fs → ∃ a fd ps, mg f = some (.ref a) ∧ PySem.W.keepIn K (.ref a) = true ∧ ps.length = np ∧ FnOk P w K mg X.base (L2N.CX P w) (4 * n) a fd ps (spF P w K mg Φ f np) ∧ Binds K fd ps []
  dyn : ∀ f ds m a, mg f = some (.ref a) → Φ.call f ds m ≠ .stuck → (f, ds.length) ∈ c.fs
  lam : c.lm = true → LamOk K mg X
  sui : c.er = true → SuiOk P w K mg
  fat : ∀ p ∈ c.fa, ∃ C, mg p.1 = some (.ref C) ∧ Cls K C ∧ NoAttr K C p.2
  prp : ∀ p ∈ c.pr, ∃ C pa g fd ps, mg p.1 = some (.ref C) ∧ Cls K C ∧ PropOf K C p.2 pa g ∧ FnOk P w K mg X.base (L2N.CX P w) (4 * n) g fd ps (spF P w K mg Φ (p.1 ++ "." ++ p.2) 1) ∧ Binds K fd ps []
  cme : ∀ p ∈ c.cm, ∃ C mc pa g, mg p.1 = some (.ref C) ∧ PySem.W.keepIn K (.ref C) = true ∧ ClX.CRead K C mc ∧ ClX.CMet K C mc p.2 pa g ∧ FnR P w K mg X.base (L2N.CX P w) (4 * n) g (spF P w K mg Φ (p.1 ++ "." ++ p.2) 2)
  mak : ∀ x ∈ c.mks, ∃ C g, mg x = some (.ref C) ∧ Mk K C g ∧ FnR P w K mg X.base (L2N.CX P w) (4 * n) g (spS P w K mg Φ (x ++ ".__init__"))
end
section
variable {P : Program} {w : World} {K : PySem.W.Frag} {mg : Str → Option Value} {Φ : Phi} {n : Nat} {X : Cx} {c : Ck} {E : XK}
theorem CtxOk.units (C : CtxOk P w K mg Φ n X c E) : X.A.units + 65 < cLine := by have := C.un; omega
/-- within a comprehension -/
theorem CtxOk.blk (C : CtxOk P w K mg Φ n X c E) (s : Shared) (H : Hp) (scope : Scope) (Cx : Addr) (cl : List (Str × Addr)) (fp : List Addr) (hw : c.hot = true → Warm (X.blk s H scope (compEnvC scope cl Cx X.env) fp)) :
    CtxOk P w K mg Φ n (X.blk s H scope (compEnvC scope cl Cx X.env) fp) { c with sc := relS scope c.sc, fn := fun x => scope.names.lookup x == some .cell, xs := [], lm := false, er := false } (fun _ _ _ => False) where
  eP := C.eP
  ew := C.ew
  eK := C.eK
  em := C.em
  calm := C.calm
  room := fun h => (C.room h).mono (by show 4 * n + 1 ≤ _; split <;> omega)
  un := C.un
  warm := hw
  hc := fun _ h => absurd rfl h
  hx := fun h => absurd rfl h
  N := C.N
  nd := C.nd
  sc := by show relS scope X.env.scope = _; rw [C.sc]
  fn := fun x h => h
  tk := fun u s' ⟨_, _, _, _, _, _, _, _, _, _, _, _, _, _, _, _, z⟩ => z.elim
  blt := C.blt
  con := C.con
  calls := C.calls
  dyn := C.dyn
  lam := fun h => nomatch h
  sui := fun h => nomatch h
  fat := C.fat
  prp := C.prp
  cme := C.cme
  mak := C.mak

/-- within a lambda -/
def Ck.lamC (c : Ck) (scope : Scope) : Ck := { c with sc := scope, fn := fun _ => false, lm := false, xs := [], er := false }
theorem CtxOk.lamC (C : CtxOk P w K mg Φ n X c E) {A : Around} {outer : List Env} {s : Shared} {H : Hp} {E' : XK} {scope : Scope} {f c' : Addr} (h0 : c.hot = false) (hr : Room (4 * n + 1) (A.deeper (LamX.lamEnv X scope s.heap.objs.size f c'))) :
    CtxOk P w K mg Φ n (lamN X A outer s H E' scope f c') (c.lamC scope) E' where
  eP := C.eP
  ew := C.ew
  eK := C.eK
  em := C.em
  calm := fun _ => rfl
  room := fun _ => hr
  un := by have := hr.un; show (A.deeper (LamX.lamEnv X scope s.heap.objs.size f c')).units + 150 < cLine; omega
  warm := fun h => absurd (show c.hot = true from h) (by rw [h0]; decide)
  hc := fun _ h => absurd rfl h
  hx := fun h => absurd rfl h
  N := C.N
  nd := C.nd
  sc := rfl
  fn := fun x h => nomatch h
  tk := L2N.takes_of rfl rfl rfl rfl
  blt := C.blt
  con := C.con
  calls := C.calls
  dyn := C.dyn
  lam := fun h => nomatch h
  sui := fun h => nomatch h
  fat := C.fat
  prp := C.prp
  cme := C.cme
  mak := C.mak

/-! ### targets -/
def locB (sc : Scope) (fn : Str → Bool) (x : Str) : Bool := match sc.names.lookup x with
  | some .local => true
  | some .cell => fn x
  | _ => false
theorem loc_of {x : Str} (C : CtxOk P w K mg Φ n X c E) (h : locB c.sc c.fn x = true) : Loc X.env.scope x ∧ (X.fn x = true ∨ X.env.scope.names.lookup x = some .local) := by
  unfold locB at h
  rw [C.sc]
  split at h
  · rename_i e
    exact ⟨.inl e, .inr e⟩
  · rename_i e
    exact ⟨.inr e, .inl (C.fn x h)⟩
  · cases h
/-- a target; behind .inr: the rest of a row of targets -/
def chkT (c : Ck) : Tg → Sum Expr (List Expr) → Bool
  | .nm i, .inl (.Name x _) => decide (c.N[i]? = some x) && locB c.sc c.fn x
  | .nil, .inl (.Tuple [] _ _) => true
  | .cons t r, .inl (.Tuple (e :: es) _ _) => !star e && es.all (fun e => !star e) && chkT c t (.inl e) && chkT c r (.inr es)
  | .nil, .inr [] => true
  | .cons t r, .inr (e :: es) => !star e && chkT c t (.inl e) && chkT c r (.inr es)
  | _, _ => false
def Tg.len : Tg → Nat
  | .cons _ r => r.len + 1
  | _ => 0
/-- only slots of vs differ -/
def Diff (vs : List Nat) (σ σ' : L2.St) : Prop := σ'.length = σ.length ∧ ∀ i, i ∉ vs → σ'[i]? = σ[i]?
theorem Diff.rfl {vs : List Nat} {σ : L2.St} : Diff vs σ σ := ⟨Eq.refl _, fun _ _ => Eq.refl _⟩
theorem Diff.trans {vs us : List Nat} {σ τ υ : L2.St} (h : Diff vs σ τ) (g : Diff us τ υ) : Diff (vs ++ us) σ υ :=
  ⟨g.1.trans h.1, fun i hi => by
    simp only [List.mem_append, not_or] at hi
    exact (g.2 i hi.2).trans (h.2 i hi.1)⟩
variable (P w K mg) in
def rdG (tg : Tg) : TG := fun v σ H Q => ∃ B G s r env', SR P w K mg B G s σ H ∧ ((RR P w K mg B G H r v ∧ Alone s σ r v) ∨ ((∀ i, tg ≠ .nm i) ∧ ∃ ds a xs, r = .v (.tup ds) ∧ v = .ref a ∧ SqT K H a xs ∧ RDs P w K mg G xs ds)) ∧ asgT tg r s.env = some env' ∧
  ∀ σ', SR P w K mg B G { s with env := env' } σ' H → Diff tg.vars σ σ' → Q σ' H
variable (P w K mg) in
def rdGs (tg : Tg) : TGs := fun vs σ H Q => ∃ B G s ds env', SR P w K mg B G s σ H ∧ RDs P w K mg G vs ds ∧ asgT tg (.v (.tup ds)) s.env = some env' ∧
  ∀ σ', SR P w K mg B G { s with env := env' } σ' H → Diff tg.vars σ σ' → Q σ' H
theorem PG.imp {X : Cx} {e : Expr} {t t' : TG} (h : PG X e t) (i : ∀ v σ H Q, t' v σ H Q → t v σ H Q) : PG X e t' := ⟨fun pins s σ H v u Q I r hw => h.run pins s σ H v u Q I r (i v σ H Q hw)⟩
theorem PGs.imp {X : Cx} {e : List Expr} {t t' : TGs} (h : PGs X e t) (i : ∀ v σ H Q, t' v σ H Q → t v σ H Q) : PGs X e t' := ⟨fun pins s σ H v u Q I r hw => h.run pins s σ H v u Q I r (i v σ H Q hw)⟩
theorem chkT_len {c : Ck} : ∀ {t : Tg} {es : List Expr}, chkT c t (.inr es) = true → es.length = t.len
  | .nil, [], _ => Eq.refl _
  | .cons t r, e :: es, h => by
    unfold chkT at h
    simp only [Bool.and_eq_true] at h
    show es.length + 1 = r.len + 1
    rw [chkT_len h.2]
  | .nm _, _, h => by cases h
  | .nil, _ :: _, h => by cases h
  | .cons _ _, [], h => by cases h
theorem asg_len {c : Ck} : ∀ {t : Tg} {es : List Expr} {ds : List D} {env env' : Sl}, chkT c t (.inr es) = true → asgT t (.v (.tup ds)) env = some env' → ds.length = t.len
  | .nm _, _, _, _, _, h, _ => by simp [chkT] at h
  | .nil, _, [], _, _, _, _ => rfl
  | .nil, _, _ :: _, _, _, _, e => by simp [asgT] at e
  | .cons _ _, _, [], _, _, _, e => by simp [asgT] at e
  | .cons t r, [], _ :: _, _, _, h, _ => by simp [chkT] at h
  | .cons t r, x :: es, d :: ds, env, env', h, e => by
    simp only [chkT, Bool.and_eq_true] at h
    have e : ((asgT t (.v d) env).bind fun env => asgT r (.v (.tup ds)) env) = some env' := e
    cases e1 : asgT t (.v d) env with
    | none => rw [e1] at e; cases e
    | some env1 =>
      rw [e1] at e
      show ds.length + 1 = r.len + 1
      rw [asg_len h.2 e]
theorem asg_cons {t r : Tg} {d : D} {ds : List D} {env env' : Sl} (e : asgT (.cons t r) (.v (.tup (d :: ds))) env = some env') : ∃ env1, asgT r (.v (.tup ds)) env1 = some env' := by
  have e : ((asgT t (.v d) env).bind fun env => asgT r (.v (.tup ds)) env) = some env' := e
  cases e1 : asgT t (.v d) env with
  | none => rw [e1] at e; cases e
  | some env1 => rw [e1] at e; exact ⟨_, e⟩
theorem tup_of {tg : Tg} {B : Ba} {G : Gh} {s : S} {σ : L2.St} {H : Hp} {ds : List D} {v : V} (R : SR P w K mg B G s σ H) (h : (RR P w K mg B G H (.v (.tup ds)) v ∧ Alone s σ (.v (.tup ds)) v) ∨ ((∀ i, tg ≠ .nm i) ∧ ∃ es a xs, RV.v (.tup ds) = .v (.tup es) ∧ v = .ref a ∧ SqT K H a xs ∧ RDs P w K mg G xs es)) :
    ∃ a xs, v = .ref a ∧ SqT K H a xs ∧ RDs P w K mg G xs ds := by
  rcases h with ⟨h, _⟩ | ⟨_, es, a, xs, e, rfl, h1, h2⟩
  · obtain ⟨a, xs, rfl, h1, _, r1⟩ := (show Vw P w K mg G H v (.tup ds) from .inl h).tuple R.sub
    exact ⟨a, xs, rfl, h1, r1⟩
  · cases e
    exact ⟨a, xs, rfl, h1, h2⟩
/-- a tuple goes to a row of targets -/
theorem row_step {B : Ba} {G : Gh} {s : S} {σ : L2.St} {H : Hp} {t r : Tg} {d : D} {ds : List D} {env' : Sl} {v : V} {vs : List V} {Q : L2.St → Hp → Prop}
    (R : SR P w K mg B G s σ H) (hv : RD P w K mg G v d) (hvs : RDs P w K mg G vs ds) (e : asgT (.cons t r) (.v (.tup (d :: ds))) s.env = some env')
    (k : ∀ σ', SR P w K mg B G { s with env := env' } σ' H → Diff (t.vars ++ r.vars) σ σ' → Q σ' H) :
    rdG P w K mg t v σ H fun σ1 H1 => rdGs P w K mg r vs σ1 H1 Q := by
  have e : ((asgT t (.v d) s.env).bind fun env => asgT r (.v (.tup ds)) env) = some env' := e
  cases e1 : asgT t (.v d) s.env with
  | none => rw [e1] at e; cases e
  | some env1 =>
    rw [e1] at e
    refine ⟨B, G, s, .v d, env1, R, .inl ⟨hv, fun z => nomatch z⟩, e1, fun σ1 R1 D1 => ?_⟩
    exact ⟨B, G, _, ds, env', R1, hvs, e, fun σ2 R2 D2 => k σ2 R2 (D1.trans D2)⟩
/-- a tuple's target -/
theorem pg_tupC {es : List Expr} {k m : Nat} {pos : Pos} {t : TGs} (C : CtxOk P w K mg Φ n X c E) (h : PGs X es t) (hn : (assignEach es X.env).length = m) (hst : (assignEach es X.env).findIdx? (·.1) = none) : PG X (.Tuple es k pos) (gTup X.K m t) := by
  cases e : c.hot with
  | false => exact pg_tup (C.calm e) h hn hst
  | true => exact pg_tup_hot (C.warm e) h hn hst
theorem snd_tgt (C : CtxOk P w K mg Φ n X c E) : ∀ (t : Tg) (a : Sum Expr (List Expr)), chkT c t a = true → match a with
    | .inl e => PG X e (rdG P w K mg t)
    | .inr es => PGs X es (rdGs P w K mg t)
  | .nm i, .inl (.Name x p), h => by
    simp only [chkT, Bool.and_eq_true, decide_eq_true_eq] at h
    obtain ⟨l1, l2⟩ := loc_of C h.2
    refine PG.imp (pg_name (pos := p) C.nd (by rw [C.N]; exact h.1) l1 l2) fun v σ H Q ⟨B, G, s, r, env', R, hh, e, k⟩ => ?_
    have ⟨hr, al⟩ : RR P w K mg B G H r v ∧ Alone s σ r v := hh.resolve_right fun z => z.1 i rfl
    show Q (σ.set i (some v)) H
    simp only [asgT] at e
    by_cases hi : i < s.env.length
    · rw [if_pos hi] at e
      cases e
      refine k _ (R.store hi hr al) ⟨by simp, fun j hj => ?_⟩
      have hj : i ≠ j := fun z => hj (by simp [Tg.vars, z])
      rw [List.getElem?_set_ne hj]
    · rw [if_neg hi] at e; cases e
  | .nil, .inl (.Tuple [] k2 p), _ => by
    refine PG.imp (pg_tupC (m := 0) (k := k2) (pos := p) C pgs_nil rfl rfl) fun v σ H Q ⟨B, G, s, r, env', R, hh, e, k⟩ => ?_
    match r, e, hh with
    | .v (.tup []), e, hh =>
      cases (show some s.env = some env' from e)
      obtain ⟨a, xs, rfl, h1, r1⟩ := tup_of R hh
      cases r1
      exact ⟨a, [], rfl, by rw [C.eK]; exact h1, rfl, rfl, k σ R .rfl⟩
  | .cons t r, .inl (.Tuple (e :: es) k2 p), h => by
    simp only [chkT, Bool.and_eq_true, Bool.not_eq_true'] at h
    have i1 : PG X e (rdG P w K mg t) := snd_tgt C t (.inl e) h.1.2
    have i2 : PGs X es (rdGs P w K mg r) := snd_tgt C r (.inr es) h.2
    have hall : (e :: es).all (fun e => !star e) = true := by simp only [List.all_cons, Bool.and_eq_true, Bool.not_eq_true']; exact ⟨h.1.1.1, by simpa using h.1.1.2⟩
    refine PG.imp (pg_tupC (m := r.len + 1) (k := k2) (pos := p) C (pgs_cons i1 i2 (by rw [aeach h.1.1.1]; rfl)) (by rw [aeach_len hall, List.length_cons, chkT_len h.2]) (aeach_find hall))
      fun v σ H Q ⟨B, G, s, rr, env', R, hh, e1, k⟩ => ?_
    match rr, e1, hh with
    | .v (.tup (d :: ds)), e1, hh =>
      obtain ⟨a, xs, rfl, h1, r1⟩ := tup_of R hh
      cases r1 with
      | cons g1 g2 =>
        refine ⟨a, _, rfl, by rw [C.eK]; exact h1, ?_, _, _, rfl, row_step R g1 g2 e1 k⟩
        obtain ⟨env1, e2⟩ := asg_cons e1
        rw [List.length_cons, g2.length, asg_len h.2 e2]
  | .nil, .inr [], _ => by
    refine PGs.imp pgs_nil fun v σ H Q ⟨B, G, s, ds, env', R, hr, e, k⟩ => ?_
    match ds, e, hr with
    | [], e, .nil =>
      cases (show some s.env = some env' from e)
      exact ⟨rfl, k σ R .rfl⟩
    | _ :: _, e, _ => simp [asgT] at e
  | .cons t r, .inr (e :: es), h => by
    simp only [chkT, Bool.and_eq_true, Bool.not_eq_true'] at h
    have i1 : PG X e (rdG P w K mg t) := snd_tgt C t (.inl e) h.1.2
    have i2 : PGs X es (rdGs P w K mg r) := snd_tgt C r (.inr es) h.2
    refine PGs.imp (pgs_cons i1 i2 (by rw [aeach h.1.1]; rfl)) fun vs σ H Q ⟨B, G, s, ds, env', R, hr, e1, k⟩ => ?_
    match ds, e1, hr with
    | d :: ds, e1, .cons g1 g2 => exact ⟨_, _, rfl, row_step R g1 g2 e1 k⟩
  | .nm _, .inr _, h => by simp [chkT] at h
  | .nm _, .inl (.Tuple _ _ _), h => by simp [chkT] at h
end
end Pah
end
section
set_option maxHeartbeats 200000
/-! Snd3: what loops and comprehensions walk. -/
namespace Pah
open PySem PySem.Spec PyProof.Rows L2
theorem PI.imp {X : Cx} {tg e : Expr} {t t' : TI} (h : PI X tg e t) (i : ∀ σ H R, t' σ H R → t σ H R) : PI X tg e t' := ⟨fun pins s σ H R I hw => h.run pins s σ H R I (i σ H R hw)⟩
section
variable {P : Program} {w : World} {K : PySem.W.Frag} {mg : Str → Option Value} {Φ : Phi} {n : Nat} {X : Cx} {c : Ck} {E : XK}
variable (P w K mg) in
/-- J yields these, one after another -/
structure Wks (J : It) (pr : Bool) (ds : List D) (G0 : Gh) : Prop where
  stop : ∀ H, Sub G0 H → J.stop ds.length H
  go : ∀ i d H, ds[i]? = some d → Sub G0 H → J.go i H
  yld : ∀ i d H x H', ds[i]? = some d → Sub G0 H → J.yld i H x H' → (H' = H ∧ RD P w K mg G0 x d) ∨
    pr = true ∧ ∃ T x1 x2 d1 d2, d = .tup [d1, d2] ∧ x = .ref T ∧ H T = none ∧ H' = upd H T (.tup [x1, x2]) ∧ RD P w K mg G0 x1 d1 ∧ RD P w K mg G0 x2 d2
theorem RDs.get_at {G : Gh} {vs : List V} {ds : List D} {i : Nat} {d : D} (r : RDs P w K mg G vs ds) (h : ds[i]? = some d) : ∃ v, vs[i]? = some v ∧ RD P w K mg G v d := r.get h
theorem wks_list {G : Gh} {a : Addr} {xs : List V} {ds : List D} (h : SqL K G.I a xs) (r : RDs P w K mg G xs ds) : Wks P w K mg (Itl K a) false ds G where
  stop := fun H sb => ⟨xs, SqL.le sb h, by rw [r.length]; exact Nat.le_refl _⟩
  go := fun i d H e sb => by
    obtain ⟨v, hv, _⟩ := r.get_at e
    exact ⟨xs, v, SqL.le sb h, hv⟩
  yld := fun i d H x H' e sb y => by
    obtain ⟨v, hv, hr⟩ := r.get_at e
    have q := y.2 xs (SqL.le sb h)
    rw [hv] at q
    cases q
    exact .inl ⟨y.1, hr⟩
theorem wks_tup {G : Gh} {a : Addr} {xs : List V} {ds : List D} (h : SqT K G.I a xs) (r : RDs P w K mg G xs ds) : Wks P w K mg (Itt K a) false ds G where
  stop := fun H sb => ⟨xs, SqT.le sb h, by rw [r.length]; exact Nat.le_refl _⟩
  go := fun i d H e sb => by
    obtain ⟨v, hv, _⟩ := r.get_at e
    exact ⟨xs, v, SqT.le sb h, hv⟩
  yld := fun i d H x H' e sb y => by
    obtain ⟨v, hv, hr⟩ := r.get_at e
    have q := y.2 xs (SqT.le sb h)
    rw [hv] at q
    cases q
    exact .inl ⟨y.1, hr⟩
theorem wks_str {G : Gh} {t : Str} : Wks P w K mg (Its t) false (t.cps.toList.map fun z => D.str ⟨#[z]⟩) G where
  stop := fun H sb => by show t.cps.size ≤ _; simp
  go := fun i d H e sb => by
    have := (List.getElem?_eq_some_iff.mp e).1
    show i < t.cps.size
    simpa using this
  yld := fun i d H x H' e sb y => by
    obtain ⟨e1, z, hz, rfl⟩ := y
    rw [List.getElem?_map, Array.getElem?_toList, hz] at e
    cases e
    exact .inl ⟨e1, .str _⟩
theorem wks_range {G : Gh} {lo hi : Int} : Wks P w K mg (Itr lo (hi - lo).toNat) false ((List.range (hi - lo).toNat).map fun i => D.int (lo + (i : Nat))) G where
  stop := fun H sb => by show _ ≤ _; simp
  go := fun i d H e sb => by
    have := (List.getElem?_eq_some_iff.mp e).1
    show i < _
    simpa using this
  yld := fun i d H x H' e sb y => by
    obtain ⟨e1, rfl⟩ := y
    have hi := (List.getElem?_eq_some_iff.mp e).1
    simp only [List.length_map, List.length_range] at hi
    rw [List.getElem?_map, List.getElem?_range hi] at e
    cases e
    exact .inl ⟨e1, .int _⟩
theorem zip_get : ∀ {xs ys : List D} {i : Nat} {d : D}, (zipD xs ys)[i]? = some d → ∃ x y, xs[i]? = some x ∧ ys[i]? = some y ∧ d = .tup [x, y]
  | [], _, _, _, h => by simp [zipD] at h
  | _ :: _, [], _, _, h => by simp [zipD] at h
  | x :: xs, y :: ys, 0, d, h => by
    simp only [zipD, List.getElem?_cons_zero, Option.some.injEq] at h
    exact ⟨x, y, rfl, rfl, h.symm⟩
  | x :: xs, y :: ys, i + 1, d, h => zip_get (i := i) (by simpa [zipD] using h)
theorem zip_len : ∀ xs ys : List D, xs.length ≤ (zipD xs ys).length ∨ ys.length ≤ (zipD xs ys).length
  | [], _ => .inl (Nat.zero_le _)
  | _ :: _, [] => .inr (Nat.zero_le _)
  | _ :: xs, _ :: ys => (zip_len xs ys).imp Nat.succ_le_succ Nat.succ_le_succ
theorem wks_zipL {G : Gh} {a b : Addr} {xs ys : List V} {ds es : List D} (h : SqL K G.I a xs) (r : RDs P w K mg G xs ds) (h' : SqL K G.I b ys) (r' : RDs P w K mg G ys es) : Wks P w K mg (Itz K a b) true (zipD ds es) G where
  stop := fun H sb => ⟨xs, ys, SqL.le sb h, SqL.le sb h', by rw [r.length, r'.length]; exact zip_len ds es⟩
  go := fun i d H e sb => by
    obtain ⟨x, y, e1, e2, _⟩ := zip_get e
    obtain ⟨v, hv, _⟩ := r.get_at e1
    obtain ⟨v', hv', _⟩ := r'.get_at e2
    exact ⟨xs, ys, v, v', SqL.le sb h, SqL.le sb h', hv, hv'⟩
  yld := fun i d H x H' e sb y => by
    obtain ⟨d1, d2, e1, e2, rfl⟩ := zip_get e
    obtain ⟨v, hv, g1⟩ := r.get_at e1
    obtain ⟨v', hv', g2⟩ := r'.get_at e2
    obtain ⟨T, x1, x2, rfl, hT, rfl, q1, q2⟩ := y
    have q1 := q1 xs (SqL.le sb h)
    have q2 := q2 ys (SqL.le sb h')
    rw [hv] at q1
    rw [hv'] at q2
    cases q1
    cases q2
    exact .inr ⟨rfl, T, v, v', d1, d2, rfl, rfl, hT, rfl, g1, g2⟩
theorem wks_zipT {G : Gh} {a b : Addr} {xs ys : List V} {ds es : List D} (h : SqT K G.I a xs) (r : RDs P w K mg G xs ds) (h' : SqT K G.I b ys) (r' : RDs P w K mg G ys es) : Wks P w K mg (RZ.ItzT K a b) true (zipD ds es) G where
  stop := fun H sb => ⟨xs, ys, SqT.le sb h, SqT.le sb h', by rw [r.length, r'.length]; exact zip_len ds es⟩
  go := fun i d H e sb => by
    obtain ⟨x, y, e1, e2, _⟩ := zip_get e
    obtain ⟨v, hv, _⟩ := r.get_at e1
    obtain ⟨v', hv', _⟩ := r'.get_at e2
    exact ⟨xs, ys, v, v', SqT.le sb h, SqT.le sb h', hv, hv'⟩
  yld := fun i d H x H' e sb y => by
    obtain ⟨d1, d2, e1, e2, rfl⟩ := zip_get e
    obtain ⟨v, hv, g1⟩ := r.get_at e1
    obtain ⟨v', hv', g2⟩ := r'.get_at e2
    obtain ⟨T, x1, x2, rfl, hT, rfl, q1, q2⟩ := y
    have q1 := q1 xs (SqT.le sb h)
    have q2 := q2 ys (SqT.le sb h')
    rw [hv] at q1
    rw [hv'] at q2
    cases q1
    cases q2
    exact .inr ⟨rfl, T, v, v', d1, d2, rfl, rfl, hT, rfl, g1, g2⟩
theorem enum_get : ∀ {ds : List D} {k i : Nat} {d : D}, (enumD k ds)[i]? = some d → ∃ x, ds[i]? = some x ∧ d = .tup [.int ((k + i : Nat) : Int), x]
  | [], _, _, _, h => by simp [enumD] at h
  | x :: xs, k, 0, d, h => by
    simp only [enumD, List.getElem?_cons_zero, Option.some.injEq] at h
    exact ⟨x, rfl, h.symm⟩
  | x :: xs, k, i + 1, d, h => by
    obtain ⟨y, h1, h2⟩ := enum_get (ds := xs) (k := k + 1) (i := i) (by simpa [enumD] using h)
    exact ⟨y, h1, by rw [h2, show k + 1 + i = k + (i + 1) by omega]⟩
theorem enum_len : ∀ (ds : List D) (k : Nat), (enumD k ds).length = ds.length
  | [], _ => rfl
  | _ :: ds, k => by rw [enumD, List.length_cons, enum_len ds, List.length_cons]
theorem wks_enum {G : Gh} {a : Addr} {xs : List V} {ds : List D} (h : SqL K G.I a xs) (r : RDs P w K mg G xs ds) : Wks P w K mg (Ite K a) true (enumD 0 ds) G where
  stop := fun H sb => ⟨xs, SqL.le sb h, by rw [r.length, enum_len]; exact Nat.le_refl _⟩
  go := fun i d H e sb => by
    obtain ⟨x, e1, _⟩ := enum_get e
    obtain ⟨v, hv, _⟩ := r.get_at e1
    exact ⟨xs, v, SqL.le sb h, hv⟩
  yld := fun i d H x H' e sb y => by
    obtain ⟨d1, e1, rfl⟩ := enum_get e
    obtain ⟨v, hv, g1⟩ := r.get_at e1
    obtain ⟨T, x1, rfl, hT, rfl, q1⟩ := y
    have q1 := q1 xs (SqL.le sb h)
    rw [hv] at q1
    cases q1
    refine .inr ⟨rfl, T, .int (i : Nat), v, _, d1, rfl, rfl, hT, rfl, ?_, g1⟩
    rw [Nat.zero_add]
    exact .int _
/-! ### a list, a tuple, a text, as it comes -/
def iAny (K : PySem.W.Frag) (te : TE) : TI := fun σ H R => te σ H fun x H1 => (∃ a xs, x = .ref a ∧ SqL K H1 a xs ∧ R (Itl K a) H1) ∨ (∃ a xs, x = .ref a ∧ SqT K H1 a xs ∧ R (Itt K a) H1) ∨ ∃ t, x = .str t ∧ R (Its t) H1
theorem pi_any {tg e : Expr} {te : TE} (he : PE X e te) : PI X tg e (iAny X.K te) := by
  constructor
  intro pins s σ H R I h
  refine thn (he.run pins s σ H _ I h) fun v s1 hp => ?_
  obtain ⟨x, H1, I1, r1, q⟩ := hp
  rcases q with ⟨a, xs, rfl, hq, q⟩ | ⟨a, xs, rfl, hq, q⟩ | ⟨t, rfl, q⟩
  · obtain rfl : v = .ref a := r1
    obtain ⟨us, _, pl, _⟩ := I1.list hq
    exact wpAny_pyIter_list pl.isList (pi_one (tk := s1.toks) I1 _ (turn_list a _) ⟨_, Heap.get?_push_size _ rfl, rfl, rfl⟩ q)
  · obtain rfl : v = .ref a := r1
    obtain ⟨us, _, pl, _⟩ := I1.tuple hq
    exact wpAny_pyIter_tuple (show s1.heap.IsTuple a us.toArray from pl) (pi_one (tk := s1.toks) I1 _ (turn_tuple a _) ⟨_, Heap.get?_push_size _ rfl, rfl, rfl⟩ q)
  · obtain ⟨k, rfl⟩ := r1
    by_cases ha : t.cps.all (· < 128) = true
    · exact wpAny_pyIter_ascii ha (pi_one (tk := s1.toks) I1 _ (turn_str _ t k "str_ascii_iterator" (.inl rfl)) ⟨_, Heap.get?_push_size _ rfl, rfl, rfl⟩ q)
    · exact wpAny_pyIter_wide (Bool.eq_false_iff.mpr ha) (pi_one (tk := s1.toks) I1 _ (turn_str _ t k "str_iterator" (.inr rfl)) ⟨_, Heap.get?_push_size _ rfl, rfl, rfl⟩ q)
def isPairs : Itx → Bool
  | .enum _ => true
  | .zip _ _ => true
  | _ => false
variable (P w K mg) in
def rdI (Φ : Phi) (E : XK) (it : Itx) : TI := fun σ H R => ∃ B G s, SR P w K mg B G s σ H ∧ pO P w K mg B E G (evIt Φ it s) fun ds s' => ∀ J H' G', G.Le G' → SR P w K mg B G' s' σ H' → Wks P w K mg J (isPairs it) ds G' → R J H'
end
end Pah
end
section
set_option maxHeartbeats 200000
/-! Snd4: states told anew; a list that grows aside; a comprehension's turns. -/
namespace Pah
open PySem PySem.Spec PyProof.Rows L2
section
variable {P : Program} {w : World} {K : PySem.W.Frag} {mg : Str → Option Value} {B : Ba} {G G' : Gh} {s : S} {σ σ' : L2.St} {H H' : Hp} {E : XK} {Φ : Phi}
/-- the slots told anew: each of what everybody has, or as it was -/
theorem SR.re {env : Sl} (R : SR P w K mg B G s σ H) (hl : σ'.length = env.length) (h : ∀ (i : Nat) r, env[i]? = some (some r) → (∃ d v, r = .v d ∧ σ'[i]? = some (some v) ∧ RD P w K mg G v d) ∨ (s.env[i]? = some (some r) ∧ σ'[i]? = σ[i]?)) :
    SR P w K mg B G { s with env := env } σ' H where
  m := R.m
  len := hl
  slot := fun i r e => by
    rcases h i r e with ⟨d, v, rfl, h1, h2⟩ | ⟨h1, h2⟩
    · exact ⟨v, h1, h2⟩
    · obtain ⟨v, g1, g2⟩ := R.slot i r h1
      exact ⟨v, by rw [h2]; exact g1, g2⟩
  apart := fun i j ri rj v n e1 e2 f1 f2 q => by
    rcases h i ri e1 with ⟨d, _, rfl, _, _⟩ | ⟨h1, h2⟩
    · cases f1
    · rcases h j rj e2 with ⟨d, _, rfl, _, _⟩ | ⟨h3, h4⟩
      · cases f2
      · rw [h4]
        exact R.apart i j ri rj v n h1 h3 f1 f2 (by rw [← h2]; exact q)
theorem wipe_len : ∀ (vs : List Nat) (env : Sl), (wipe vs env).length = env.length
  | [], _ => rfl
  | i :: vs, env => by
    show (wipe vs (env.set i none)).length = _
    rw [wipe_len vs, List.length_set]
theorem wipe_none : ∀ (vs : List Nat) (env : Sl) (i : Nat), env[i]? = some none ∨ env[i]? = none → (wipe vs env)[i]? = some none ∨ (wipe vs env)[i]? = none
  | [], _, _, h => h
  | j :: vs, env, i, h => by
    refine wipe_none vs (env.set j none) i ?_
    by_cases e : j = i
    · subst e
      by_cases hl : j < env.length
      · exact .inl (List.getElem?_set_self hl)
      · exact .inr (List.getElem?_eq_none (by simpa using hl))
    · rw [List.getElem?_set_ne e]
      exact h
theorem wipe_at : ∀ {vs : List Nat} {env : Sl} {i : Nat} {r : RV}, (wipe vs env)[i]? = some (some r) → env[i]? = some (some r) ∧ i ∉ vs
  | [], _, _, _, h => ⟨h, by simp⟩
  | j :: vs, env, i, r, h => by
    have h : (wipe vs (env.set j none))[i]? = some (some r) := h
    obtain ⟨h1, h2⟩ := wipe_at h
    by_cases e : j = i
    · subst e
      by_cases hl : j < env.length
      · rw [List.getElem?_set_self hl] at h1; cases h1
      · rw [List.getElem?_eq_none (by simpa using hl)] at h1; cases h1
    · rw [List.getElem?_set_ne e] at h1
      exact ⟨h1, by simp only [List.mem_cons, not_or]; exact ⟨fun q => e q.symm, h2⟩⟩
theorem wipeσ_ne : ∀ {vs : List Nat} {i : Nat}, i ∉ vs → (L2.wipe σ vs)[i]? = σ[i]?
  | [], _, _ => rfl
  | j :: vs, i, h => by
    simp only [List.mem_cons, not_or] at h
    show ((L2.wipe σ vs).set j none)[i]? = _
    rw [List.getElem?_set_ne (Ne.symm h.1), wipeσ_ne h.2]
theorem wipeσ_eq : ∀ {vs : List Nat} {σ σ' : L2.St}, σ'.length = σ.length → (∀ i, i ∉ vs → σ'[i]? = σ[i]?) → L2.wipe σ' vs = L2.wipe σ vs := by
  intro vs
  have key : ∀ {vs : List Nat} {σ : L2.St} {i : Nat}, i ∈ vs → (L2.wipe σ vs)[i]? = if i < σ.length then some none else none := by
    intro vs
    induction vs with
    | nil => intro σ i h; cases h
    | cons j vs ih =>
      intro σ i h
      show ((L2.wipe σ vs).set j none)[i]? = _
      by_cases e : j = i
      · subst e
        by_cases hl : j < σ.length
        · rw [List.getElem?_set_self (by rw [L2.wipe_length]; exact hl), if_pos hl]
        · rw [List.getElem?_eq_none (by rw [List.length_set, L2.wipe_length]; omega), if_neg hl]
      · rw [List.getElem?_set_ne e]
        rcases List.mem_cons.mp h with q | q
        · exact absurd q.symm e
        · exact ih q
  intro σ σ' hl h
  apply List.ext_getElem?
  intro i
  by_cases hi : i ∈ vs
  · rw [key hi, key hi, hl]
  · rw [wipeσ_ne hi, wipeσ_ne hi, h i hi]
theorem SR.wipe {vs : List Nat} (R : SR P w K mg B G s σ H) : SR P w K mg B G { s with env := Pah.wipe vs s.env } (L2.wipe σ vs) H :=
  R.re (by rw [L2.wipe_length, wipe_len]; exact R.len) fun i r e => by
    obtain ⟨h1, h2⟩ := wipe_at e
    exact .inr ⟨h1, wipeσ_ne h2⟩
theorem back_len : ∀ (vs : List Nat) (old env : Sl), (back vs old env).length = env.length
  | [], _, _ => rfl
  | i :: vs, old, env => by
    show (back vs old (env.set i _)).length = _
    rw [back_len vs, List.length_set]
theorem back_at : ∀ {vs : List Nat} {old env : Sl} {i : Nat} {r : RV}, (back vs old env)[i]? = some (some r) → (∃ d, r = .v d ∧ old[i]? = some (some (.v d))) ∨ (env[i]? = some (some r) ∧ i ∉ vs)
  | [], _, _, _, _, h => .inr ⟨h, by simp⟩
  | j :: vs, old, env, i, r, h => by
    have h : (back vs old (env.set j (keptR (old.getD j none))))[i]? = some (some r) := h
    rcases back_at h with h1 | ⟨h1, h2⟩
    · exact .inl h1
    · by_cases e : j = i
      · subst e
        by_cases hl : j < env.length
        · rw [List.getElem?_set_self hl] at h1
          left
          rw [List.getD_eq_getElem?_getD] at h1
          cases q : old[j]? with
          | none => rw [q] at h1; simp [keptR] at h1
          | some x =>
            rw [q] at h1
            cases x with
            | none => simp [keptR] at h1
            | some y =>
              cases y with
              | v d =>
                simp only [Option.getD_some, keptR, Option.some.injEq] at h1
                exact ⟨d, h1.symm, rfl⟩
              | l _ => simp [keptR] at h1
              | m _ _ => simp [keptR] at h1
        · rw [List.getElem?_eq_none (by simpa using hl)] at h1; cases h1
      · rw [List.getElem?_set_ne e] at h1
        exact .inr ⟨h1, by simp only [List.mem_cons, not_or]; exact ⟨fun q => e q.symm, h2⟩⟩
/-- behind a comprehension: its own names as they were -/
theorem SR.back {vs : List Nat} {s0 : S} {G0 : Gh} {H0 : Hp} {B0 : Ba} (R0 : SR P w K mg B0 G0 s0 σ H0) (l : G0.Le G) (R : SR P w K mg B G { s with env := Pah.wipe vs s.env } (L2.wipe σ vs) H) : SR P w K mg B G { s with env := Pah.back vs s0.env s.env } σ H := by
  have hl := R.len
  rw [L2.wipe_length] at hl
  have hl : σ.length = (Pah.wipe vs s.env).length := hl
  rw [wipe_len] at hl
  refine R.re (env := Pah.back vs s0.env s.env) (by rw [back_len]; exact hl) fun i r e => ?_
  rcases back_at e with ⟨d, rfl, h1⟩ | ⟨h1, h2⟩
  · obtain ⟨v, g1, g2⟩ := R0.slot i _ h1
    exact .inl ⟨d, v, rfl, g1, RD.le l g2⟩
  · refine .inr ⟨?_, (wipeσ_ne h2).symm⟩
    show (Pah.wipe vs s.env)[i]? = _
    have key : ∀ {vs : List Nat} {env : Sl} {i : Nat}, i ∉ vs → (Pah.wipe vs env)[i]? = env[i]? := by
      intro vs
      induction vs with
      | nil => intro env i _; rfl
      | cons j vs ih =>
        intro env i h
        simp only [List.mem_cons, not_or] at h
        show (Pah.wipe vs (env.set j none))[i]? = _
        rw [ih h.2, List.getElem?_set_ne (Ne.symm h.1)]
    rw [key h2]
    exact h1

/-! ### a list that grows aside -/
def Bd (B : Ba) (D : Addr) (o : HO) : Ba := { B with H0 := upd B.H0 D o }
theorem bd_ne {D a : Addr} {o : HO} (h : a ≠ D) : (Bd B D o).H0 a = B.H0 a := upd_ne h
theorem Own1.bd {D a : Addr} {o : HO} (ow : Own1 B G a) (h : a ≠ D) : Own1 (Bd B D o) G a := ⟨ow.I, ow.ρ, by rw [bd_ne h]; exact ow.H0, ow.wr⟩
theorem Own1.unbd {D a : Addr} {o : HO} (ow : Own1 (Bd B D o) G a) : a ≠ D ∧ Own1 B G a := by
  have n : a ≠ D := fun z => by
    have := ow.H0
    rw [z] at this
    rw [show (Bd B D o).H0 D = some o from upd_same] at this
    cases this
  exact ⟨n, ow.I, ow.ρ, by have := ow.H0; rw [bd_ne n] at this; exact this, ow.wr⟩
theorem RR.own {r : RV} {v : V} (hr : RR P w K mg B G H r v) {B' : Ba} {H' : Hp} (k : ∀ a o, Own1 B G a → H a = some o → Own1 B' G a ∧ H' a = some o) : RR P w K mg B' G H' r v := by
  cases r with
  | v d => exact hr
  | l ds =>
    obtain ⟨a, vs, rfl, h1, h2, h3⟩ := hr
    obtain ⟨k1, k2⟩ := k a _ h3 h1
    exact ⟨a, vs, rfl, k2, h2, k1⟩
  | m ks ds =>
    obtain ⟨a, vs, rfl, h1, h2, h3⟩ := hr
    obtain ⟨k1, k2⟩ := k a _ h3 h1
    exact ⟨a, vs, rfl, k2, h2, k1⟩
theorem RR.own' {r : RV} {v : V} {a : Addr} (hr : RR P w K mg B G H r v) (hf : isFr r = true) (hv : v = .ref a) {B' : Ba} (k : Own1 B G a → Own1 B' G a) : RR P w K mg B' G H r v := by
  cases r with
  | v d => cases hf
  | l ds =>
    obtain ⟨b, vs, e, h1, h2, h3⟩ := hr
    rw [hv] at e
    cases e
    exact ⟨_, vs, hv, h1, h2, k h3⟩
  | m ks ds =>
    obtain ⟨b, vs, e, h1, h2, h3⟩ := hr
    rw [hv] at e
    cases e
    exact ⟨_, vs, hv, h1, h2, k h3⟩
/-- what stands aside: it is as it was put -/
structure Asd (B : Ba) (D : Addr) : Prop where
  wr : ¬ B.wr D
  H0 : B.H0 D = none
  I0 : B.G0.I D = none
  ρ0 : D ∉ B.G0.ρ
theorem SR.asd {D : Addr} (R : SR P w K mg B G s σ H) (h : H D = none) : Asd B D where
  wr := fun q => R.m.wrH D q h
  H0 := (R.m.fresh h).2.2
  I0 := by
    cases e : B.G0.I D with
    | none => rfl
    | some o =>
      have := R.m.sub _ _ (R.m.ge.I _ _ e)
      rw [h] at this
      cases this
  ρ0 := fun q => by
    obtain ⟨r, e⟩ := R.m.ge.ρ
    exact (R.m.fresh h).2.1 (by rw [e]; exact List.mem_append_left _ q)
/-- what is known of D in any later state -/
theorem SM.aside {D : Addr} {o : HO} {m : Mm} (a : Asd B D) (M : SM P w K mg (Bd B D o) G m H) : H D = some o ∧ G.I D = none ∧ D ∉ G.ρ := by
  refine ⟨M.old D o upd_same a.wr, ?_, fun q => ?_⟩
  · cases e : G.I D with
    | none => rfl
    | some u =>
      rcases M.newI D (by rw [e]; exact fun z => nomatch z) with z | z
      · exact absurd a.I0 z
      · rw [show (Bd B D o).H0 D = some o from upd_same] at z; cases z
  · rcases M.newR D q with z | z
    · exact a.ρ0 z
    · rw [show (Bd B D o).H0 D = some o from upd_same] at z; cases z
theorem SM.bd {D : Addr} {o : HO} {m : Mm} (a : Asd B D) (M : SM P w K mg B G m H) (hI : G.I D = none) (hρ : D ∉ G.ρ) (hT : LamX.Tabs (Tk K) (upd H D o)) (ho : ∀ ps, o ≠ .tbl ps) : SM P w K mg (Bd B D o) G m (upd H D o) := by
  have ne : ∀ b u, G.I b = some u → b ≠ D := fun b u e z => by rw [z, hI] at e; cases e
  refine ⟨fun b u e => by rw [upd_ne (ne b u e)]; exact M.sub b u e, M.len, fun j ds e en => ?_, fun b hb => ⟨(M.memI b hb).1, ?_⟩, M.nd, M.ge, fun b u e nw => ?_, fun b hb => ?_, fun b hb => ?_, fun b hb => ?_, fun b hb => ?_, hT, fun b ps h => ?_, M.ntI⟩
  · obtain ⟨b, vs, h1, h2, h3⟩ := M.mem j ds e en
    have nb : b ≠ D := fun z => hρ (z ▸ List.mem_of_getElem? h1)
    exact ⟨b, vs, h1, by rw [upd_ne nb]; exact h2, h3⟩
  · have nb : b ≠ D := fun z => hρ (z ▸ hb)
    rw [upd_ne nb]; exact (M.memI b hb).2
  · by_cases q : b = D
    · subst q
      rw [show (Bd B b o).H0 b = some o from upd_same] at e
      rw [upd_same]
      exact e
    · rw [bd_ne q] at e
      rw [upd_ne q]
      exact M.old b u e nw
  · have nb : b ≠ D := fun z => a.wr (z ▸ hb)
    rw [upd_ne nb]; exact M.wrH b hb
  · have nb : b ≠ D := fun z => hb (z ▸ hI)
    rw [bd_ne nb]; exact M.newI b hb
  · have nb : b ≠ D := fun z => hρ (z ▸ hb)
    rw [bd_ne nb]; exact M.newR b hb
  · have nb : b ≠ D := fun z => by
      obtain ⟨j, ds, _, _, h2⟩ := hb
      exact hρ (z ▸ List.mem_of_getElem? h2)
    rw [bd_ne nb]; exact M.wrOk b hb
  · by_cases q : b = D
    · subst q
      rw [show (Bd B b o).H0 b = some o from upd_same] at h
      exact absurd (Option.some.inj h) (ho ps)
    · rw [bd_ne q] at h
      exact M.tbO b ps h
theorem SM.unbd {D : Addr} {o : HO} {m : Mm} (a : Asd B D) (M : SM P w K mg (Bd B D o) G m H) : SM P w K mg B G m H := by
  obtain ⟨h1, h2, h3⟩ := M.aside a
  refine ⟨M.sub, M.len, M.mem, M.memI, M.nd, M.ge, fun b u e nw => ?_, M.wrH, fun b hb => ?_, fun b hb => ?_, fun b hb => ?_, M.tab, fun b ps h => M.tbO b ps (by rw [bd_ne fun z => by rw [z, a.H0] at h; cases h]; exact h), M.ntI⟩
  · have nb : b ≠ D := fun z => by rw [z, a.H0] at e; cases e
    exact M.old b u (by rw [bd_ne nb]; exact e) nw
  · have nb : b ≠ D := fun z => hb (z ▸ h2)
    have := M.newI b hb
    rw [bd_ne nb] at this
    exact this
  · have nb : b ≠ D := fun z => h3 (z ▸ hb)
    have := M.newR b hb
    rw [bd_ne nb] at this
    exact this
  · have nb : b ≠ D := fun z => by
      obtain ⟨j, ds, _, _, h2⟩ := hb
      exact h3 (z ▸ List.mem_of_getElem? h2)
    have := M.wrOk b hb
    rw [bd_ne nb] at this
    exact this
theorem SR.bd {D : Addr} {o : HO} (a : Asd B D) (R : SR P w K mg B G s σ H) (h : H D = none) (ho : ∀ ps, o ≠ .tbl ps := by intro _ z; first | (cases z; done) | (unfold DicO at z; cases z; done)) : SR P w K mg (Bd B D o) G s σ (upd H D o) := by
  obtain ⟨f1, f2, _⟩ := R.m.fresh h
  refine ⟨R.m.bd a f1 f2 (tabs_none R.m.tab h) ho, R.len, fun i r e => ?_, R.apart⟩
  obtain ⟨v, h1, h2⟩ := R.slot i r e
  refine ⟨v, h1, h2.own fun b u ow hb => ?_⟩
  have nb : b ≠ D := ne_of_none hb h
  exact ⟨ow.bd nb, by rw [upd_ne nb]; exact hb⟩
/-- it is put anew -/
theorem SR.rebd {D : Addr} {vs : List V} {o' : HO} (a : Asd B D) (R : SR P w K mg (Bd B D (.lst vs)) G s σ H) (ho : ∀ ps, o' ≠ .tbl ps := by intro _ z; first | (cases z; done) | (unfold DicO at z; cases z; done)) : SR P w K mg (Bd B D o') G s σ (upd H D o') := by
  obtain ⟨h1, h2, h3⟩ := R.m.aside a
  refine ⟨(R.m.unbd a).bd a h2 h3 (tabs_lst R.m.tab h1) ho, R.len, fun i r e => ?_, R.apart⟩
  obtain ⟨v, g1, g2⟩ := R.slot i r e
  refine ⟨v, g1, g2.own fun b u ow hb => ?_⟩
  obtain ⟨nb, ow⟩ := ow.unbd
  exact ⟨ow.bd nb, by rw [upd_ne nb]; exact hb⟩
/-- it is nobody's: handed over -/
theorem SR.unbd {D : Addr} {o : HO} (a : Asd B D) (R : SR P w K mg (Bd B D o) G s σ H) : SR P w K mg B G s σ H ∧ Own1 B G D ∧ H D = some o ∧ ∀ (i : Nat) ri, s.env[i]? = some (some ri) → isFr ri = true → σ[i]? ≠ some (some (.ref D)) := by
  obtain ⟨h1, h2, h3⟩ := R.m.aside a
  refine ⟨⟨R.m.unbd a, R.len, fun i r e => ?_, R.apart⟩, ⟨h2, h3, a.H0, a.wr⟩, h1, fun i ri e hf q => ?_⟩
  · obtain ⟨v, g1, g2⟩ := R.slot i r e
    exact ⟨v, g1, g2.own fun b u ow hb => ⟨ow.unbd.2, hb⟩⟩
  · obtain ⟨v, g1, g2⟩ := R.slot i ri e
    rw [q] at g1
    cases g1
    obtain ⟨b, u, hb, _, ow⟩ := g2.there hf
    cases hb
    exact ow.unbd.1 rfl
/-- a value of one's own stands aside while others are made -/
theorem SR.aside {a : Addr} {o : HO} (R : SR P w K mg B G s σ H) (ow : Own1 B G a) (h : H a = some o) (ns : ∀ (i : Nat) ri, s.env[i]? = some (some ri) → isFr ri = true → σ[i]? ≠ some (some (.ref a))) (ho : ∀ ps, o ≠ .tbl ps := by intro _ z; first | (cases z; done) | (unfold DicO at z; cases z; done)) : Asd B a ∧ SR P w K mg (Bd B a o) G s σ H := by
  have i0 : B.G0.I a = none := by
    cases e : B.G0.I a with
    | none => rfl
    | some u =>
      have := R.m.ge.I _ _ e
      rw [ow.I] at this
      cases this
  have r0 : a ∉ B.G0.ρ := fun q => by
    obtain ⟨r, e⟩ := R.m.ge.ρ
    exact ow.ρ (by rw [e]; exact List.mem_append_left _ q)
  have asd : Asd B a := ⟨ow.wr, ow.H0, i0, r0⟩
  have hH : upd H a o = H := by
    funext b
    by_cases q : b = a
    · subst q; rw [upd_same, h]
    · rw [upd_ne q]
  have M := R.m.bd (o := o) asd ow.I ow.ρ (by rw [hH]; exact R.m.tab) ho
  rw [hH] at M
  refine ⟨asd, M, R.len, fun i r e => ?_, R.apart⟩
  obtain ⟨v, h1, h2⟩ := R.slot i r e
  refine ⟨v, h1, ?_⟩
  cases hf : isFr r with
  | false =>
    cases r with
    | v d => exact h2
    | _ => cases hf
  | true =>
    obtain ⟨b, ob, hb, h3, ow3⟩ := h2.there hf
    have nb : b ≠ a := fun z => ns i r e hf (by rw [h1, hb, z])
    refine h2.own' hf hb fun ow4 => ow4.bd nb
end
end Pah
end
section
set_option maxHeartbeats 200000
/-! Snd5: a comprehension's reading from its evaluation. -/
namespace Pah
open PySem PySem.Spec PyProof.Rows L2
def FX : XK := fun _ _ _ => False
theorem noexn_ok {α : Type} {x : Out α} {a : α} {s : S} (h : noexn x = .ok a s) : x = .ok a s := by
  cases x with
  | ok b t => exact h
  | exn _ _ _ => cases h
  | stuck => cases h
theorem noexn_ne {α : Type} {x : Out α} {c : Str} {p : D} {m : Mm} (h : noexn x = .exn c p m) : False := by
  cases x <;> cases h
theorem bind_inv {α β : Type} {x : Out α} {f : α → S → Out β} {b : β} {s : S} (h : x.bind f = .ok b s) : ∃ a t, x = .ok a t ∧ f a t = .ok b s := by
  cases x with
  | ok a t => exact ⟨a, t, rfl, h⟩
  | exn _ _ _ => cases h
  | stuck => cases h
section
variable {vs : List Nat} {tg : Tg} {cond : S → Out Bool} {elt : S → Out (List D)}
theorem loop_cons {d : D} {ds : List D} {s sE : S} {ys : List D} (h : loopC vs tg cond elt (d :: ds) s = .ok ys sE) :
    ∃ env b s1, asgT tg (.v d) (wipe vs s.env) = some env ∧ cond { env, mem := s.mem } = .ok b s1 ∧
      ((b = true ∧ ∃ xs s2 zs, elt s1 = .ok xs s2 ∧ loopC vs tg cond elt ds s2 = .ok zs sE ∧ ys = xs ++ zs ∧ xs.length + zs.length ≤ lim) ∨ (b = false ∧ loopC vs tg cond elt ds s1 = .ok ys sE)) := by
  unfold loopC at h
  cases e1 : asgT tg (.v d) (wipe vs s.env) with
  | none => rw [e1] at h; cases h
  | some env =>
    rw [e1] at h
    obtain ⟨b, s1, e2, h⟩ := bind_inv h
    refine ⟨env, b, s1, rfl, noexn_ok e2, ?_⟩
    cases b with
    | true =>
      rw [if_pos rfl] at h
      obtain ⟨xs, s2, e3, h⟩ := bind_inv h
      obtain ⟨zs, s3, e4, h⟩ := bind_inv h
      by_cases hl : xs.length + zs.length ≤ lim
      · rw [if_pos hl] at h
        cases h
        exact .inl ⟨rfl, xs, s2, zs, noexn_ok e3, e4, rfl, hl⟩
      · rw [if_neg hl] at h; cases h
    | false =>
      rw [if_neg Bool.false_ne_true] at h
      exact .inr ⟨rfl, h⟩
theorem loop_len : ∀ {ds : List D} {s sE : S} {ys : List D}, loopC vs tg cond elt ds s = .ok ys sE → ys.length ≤ lim
  | [], s, sE, ys, h => by cases h; exact Nat.zero_le _
  | d :: ds, s, sE, ys, h => by
    obtain ⟨env, b, s1, _, _, ⟨_, xs, s2, zs, _, _, rfl, hl⟩ | ⟨_, h⟩⟩ := loop_cons h
    · rw [List.length_append]; exact hl
    · exact loop_len h
theorem loop_noexn : ∀ {ds : List D} {s : S} {c : Str} {p : D} {m : Mm}, loopC vs tg cond elt ds s ≠ .exn c p m
  | [], _, _, _, _ => fun h => by cases h
  | d :: ds, s, c, p, m => fun h => by
    unfold loopC at h
    cases e1 : asgT tg (.v d) (wipe vs s.env) with
    | none => rw [e1] at h; cases h
    | some env =>
      rw [e1] at h
      cases e2 : noexn (cond { env, mem := s.mem }) with
      | stuck => simp only [e2] at h; cases h
      | exn _ _ _ => exact noexn_ne e2
      | ok b s1 =>
        simp only [e2, bind_ok] at h
        cases b with
        | false =>
          rw [if_neg Bool.false_ne_true] at h
          exact loop_noexn h
        | true =>
          rw [if_pos rfl] at h
          cases e3 : noexn (elt s1) with
          | stuck => simp only [e3] at h; cases h
          | exn _ _ _ => exact noexn_ne e3
          | ok xs s2 =>
            simp only [e3, bind_ok] at h
            cases e4 : loopC vs tg cond elt ds s2 with
            | stuck => simp only [e4] at h; cases h
            | exn _ _ _ => exact loop_noexn e4
            | ok zs s3 =>
              simp only [e4, bind_ok] at h
              split at h <;> cases h
end
section
variable {P : Program} {w : World} {K : PySem.W.Frag} {mg : Str → Option Value} {B : Ba} {G G' : Gh} {s : S} {σ σ' : L2.St} {H H' : Hp} {E : XK} {Φ : Phi}
variable (P w K mg) in
/-- a test -/
def rdT (Φ : Phi) (E : XK) (e : Ex) : TT := fun σ H Q => ∃ B G s, SR P w K mg B G s σ H ∧ pO P w K mg B E G ((evE Φ e s).bind asBool) fun b s' => ∀ H' G', G.Le G' → SR P w K mg B G' s' σ H' → Q b H'
variable (P w K mg) in
/-- ready for a target -/
def Rdy (tg : Tg) (B : Ba) (G : Gh) (s : S) (σ : L2.St) (H : Hp) (r : RV) (v : V) : Prop := (RR P w K mg B G H r v ∧ Alone s σ r v) ∨ ((∀ i, tg ≠ .nm i) ∧ ∃ ds a xs, r = .v (.tup ds) ∧ v = .ref a ∧ SqT K H a xs ∧ RDs P w K mg G xs ds)
/-- an item as it is yielded -/
theorem Wks.take {J : It} {ds : List D} {G0 : Gh} {i : Nat} {d : D} {x : V} {tg : Tg} {pr : Bool} (W : Wks P w K mg J pr ds G0) (ht : pr = true → ∀ i, tg ≠ .nm i) (l : G0.Le G) (R : SR P w K mg B G s σ H) (e : ds[i]? = some d) (y : J.yld i H x H') : ∃ G', G.Le G' ∧ SR P w K mg B G' s σ H' ∧ Rdy P w K mg tg B G' s σ H' (.v d) x := by
  have sb : Sub G0 H := fun a o q => R.m.sub a o (l.I a o q)
  rcases W.yld i d H x H' e sb y with ⟨rfl, h⟩ | ⟨hp, T, x1, x2, d1, d2, rfl, rfl, hT, rfl, h1, h2⟩
  · exact ⟨G, .rfl, R, .inl ⟨RD.le l h, fun z => nomatch z⟩⟩
  · exact ⟨G, .rfl, R.new hT, .inr ⟨ht hp, _, T, [x1, x2], rfl, rfl, SqT.of upd_same, .cons (RD.le l h1) (.cons (RD.le l h2) .nil)⟩⟩
def notLive : Itx → Bool
  | .live _ => false
  | _ => true
theorem lock_id {it : Itx} (h : notLive it = true) (s : S) : lockS it s = s := by
  cases it <;> first | rfl | cases h
theorem unlock_id {it : Itx} (h : notLive it = true) (s0 s : S) : unlockS it s0 s = s := by
  cases it <;> first | rfl | cases h
theorem comp_read {elt cond : Ex} {tg : Tg} {it : Itx} {Q : VK} (hl : notLive it = true) (ht : isPairs it = true → ∀ i, tg ≠ .nm i) (h : rdE P w K mg Φ E (.comp elt tg it cond) σ H Q) :
    tLc (rdI P w K mg Φ E it) (rdG P w K mg tg) (rdT P w K mg Φ FX cond) (rdE P w K mg Φ FX elt) tg.vars σ H Q := by
  obtain ⟨B, G, s, R, q⟩ := h
  have q : pO P w K mg B E G ((evIt Φ it s).bind fun ds s0 => (loopC tg.vars tg (fun s => (evE Φ cond s).bind asBool) (fun s => (evE Φ elt s).bind fun x s => .ok [x.d] s) ds (lockS it s0)).bind fun xs s => .ok (.l xs) (unlockS it s0 { s with env := Pah.back tg.vars s0.env s.env })) (kV P w K mg B G σ Q) := q
  refine ⟨B, G, s, R, ?_⟩
  cases e0 : evIt Φ it s with
  | stuck => rw [e0] at q; exact q
  | exn c p m => rw [e0] at q; exact q
  | ok ds s0 =>
    rw [e0] at q
    simp only [bind_ok, lock_id hl, unlock_id hl] at q
    intro J H1 G1 l1 R1 Wk ad hD
    cases eL : loopC tg.vars tg (fun s => (evE Φ cond s).bind asBool) (fun s => (evE Φ elt s).bind fun x s => .ok [x.d] s) ds s0 with
    | stuck => rw [eL] at q; exact q.elim
    | exn c p m => exact absurd eL loop_noexn
    | ok xs sE =>
      rw [eL] at q
      simp only [bind_ok] at q
      have asd := R1.asd hD
      have hxs := loop_len eL
      refine ⟨fun i m H => m = ds.length - i ∧ i ≤ ds.length ∧ ∃ (G' : Gh) (s' : S) (accV : List V) (acc ys : List D), G1.Le G' ∧ SR P w K mg (Bd B ad (.lst accV)) G' { s' with env := Pah.wipe tg.vars s'.env } (L2.wipe σ tg.vars) H ∧ RDs P w K mg G' accV acc ∧
        loopC tg.vars tg (fun s => (evE Φ cond s).bind asBool) (fun s => (evE Φ elt s).bind fun x s => .ok [x.d] s) (ds.drop i) s' = .ok ys sE ∧ acc ++ ys = xs,
        ⟨ds.length, by simp, Nat.zero_le _, G1, s0, [], [], xs, .rfl, (SR.bd asd R1 hD).wipe, .nil, eL, rfl⟩, ?_⟩
      rintro i m H2 ⟨rfl, hi, G2, s2, accV, acc, ys, l2, R2, ra, eL2, ex⟩
      have sb2 : Sub G1 H2 := fun a o z => R2.m.sub a o (l2.I a o z)
      by_cases hlt : i < ds.length
      · right
        have hd : ds[i]? = some ds[i] := List.getElem?_eq_getElem hlt
        rw [List.drop_eq_getElem_cons hlt] at eL2
        obtain ⟨env, b, s3, ea, ec, rest⟩ := loop_cons eL2
        refine ⟨Wk.go i _ H2 hd sb2, fun H' => ∃ m', m' < ds.length - i ∧ (m' = ds.length - (i + 1) ∧ i + 1 ≤ ds.length ∧ ∃ (G' : Gh) (s' : S) (accV : List V) (acc ys : List D), G1.Le G' ∧ SR P w K mg (Bd B ad (.lst accV)) G' { s' with env := Pah.wipe tg.vars s'.env } (L2.wipe σ tg.vars) H' ∧ RDs P w K mg G' accV acc ∧
          loopC tg.vars tg (fun s => (evE Φ cond s).bind asBool) (fun s => (evE Φ elt s).bind fun x s => .ok [x.d] s) (ds.drop (i + 1)) s' = .ok ys sE ∧ acc ++ ys = xs), fun H' z => z, fun x H3 y => ?_⟩
        obtain ⟨G3, l3, R3, hx⟩ := Wk.take ht l2 R2 hd y
        refine ⟨_, G3, _, .v ds[i], env, R3, hx, ea, fun σ2 R4 D4 => ?_⟩
        have hw : L2.wipe σ2 tg.vars = L2.wipe σ tg.vars := by
          rw [wipeσ_eq D4.1 D4.2]
          refine wipeσ_eq (by rw [L2.wipe_length]) fun j hj => wipeσ_ne hj
        refine ⟨hw, _, G3, _, R4, ?_⟩
        rw [ec]
        intro H5 G5 l5 R5
        rcases rest with ⟨rfl, xs1, s4, zs, e4, eL4, rfl, _⟩ | ⟨rfl, eL4⟩
        · rw [if_pos rfl]
          obtain ⟨r, s5, e5, e6⟩ := bind_inv e4
          cases e6
          refine ⟨_, G5, s3, R5, ?_⟩
          rw [e5]
          intro v H6 G6 l6 R6 hr al
          obtain ⟨G7, l7, R7, hd7⟩ := R6.share hr al
          obtain ⟨hD6, _, _⟩ := R7.m.aside asd
          have ll := l3.trans (l5.trans (l6.trans l7))
          refine ⟨accV, hD6, ?_, _, Nat.sub_succ_lt_self _ _ hlt, rfl, hlt, G7, s4, accV ++ [v], acc ++ [r.d], zs, l2.trans ll, ?_, (ra.le ll).append (.cons hd7 .nil), eL4, ?_⟩
          · rw [← lim_eq, ra.length]
            have z := congrArg List.length ex
            simp only [List.length_append, List.length_singleton] at z
            omega
          · have z := (SR.rebd (o' := .lst (accV ++ [v])) asd R7).wipe (vs := tg.vars)
            rw [hw] at z
            exact z
          · rw [← ex, List.append_assoc]
        · rw [if_neg Bool.false_ne_true]
          refine ⟨_, Nat.sub_succ_lt_self _ _ hlt, rfl, hlt, G5, s3, accV, acc, ys, l2.trans (l3.trans l5), ?_, ra.le (l3.trans l5), eL4, ex⟩
          have z := R5.wipe (vs := tg.vars)
          rw [hw] at z
          exact z
      · have ei : i = ds.length := by omega
        subst ei
        rw [List.drop_length] at eL2
        cases eL2
        refine .inl ⟨Wk.stop H2 sb2, ?_⟩
        rw [List.append_nil] at ex
        subst ex
        have Rb := SR.back R1 l2 R2
        obtain ⟨Ru, ow, hD2, ns⟩ := SR.unbd asd Rb
        exact q (.ref ad) H2 G2 (l1.trans l2) Ru ⟨ad, accV, rfl, hD2, ra, ow⟩ fun _ => ns
end
end Pah
end
section
set_option maxHeartbeats 200000
/-! Snd6: the check of expressions against the program's tree; steps of evaluation. -/
namespace Pah
open PySem PySem.Spec PyProof.Rows L2
section
variable {P : Program} {w : World} {K : PySem.W.Frag} {mg : Str → Option Value} {B : Ba} {G G' : Gh} {s : S} {σ σ' : L2.St} {H H' : Hp} {E : XK} {Φ : Phi}
theorem bind_assoc {α β γ : Type} (x : Out α) (f : α → S → Out β) (g : β → S → Out γ) : (x.bind f).bind g = x.bind fun a s => (f a s).bind g := by cases x <;> rfl
variable (P w K mg) in
def rdEs (Φ : Phi) (E : XK) (es : Exs) : TA := fun σ H Q => ∃ B G s, SR P w K mg B G s σ H ∧ pO P w K mg B E G (evEs Φ es s) fun ds s' => ∀ vs H' G', G.Le G' → SR P w K mg B G' s' σ H' → RDs P w K mg G' vs ds → Q vs H'
theorem rdEs_step {β : Type} {es : Exs} {f : List D → S → Out β} {k : β → S → Prop} {Q : List V → Hp → Prop} (R : SR P w K mg B G s σ H) (h : pO P w K mg B E G ((evEs Φ es s).bind f) k)
    (hk : ∀ ds s1 vs H1 G1, G.Le G1 → SR P w K mg B G1 s1 σ H1 → RDs P w K mg G1 vs ds → pO P w K mg B E G1 (f ds s1) k → Q vs H1) : rdEs P w K mg Φ E es σ H Q := by
  refine ⟨B, G, s, R, ?_⟩
  cases e1 : evEs Φ es s with
  | ok ds s1 =>
    rw [e1] at h
    exact fun vs H1 G1 l R1 hr => hk ds s1 vs H1 G1 l R1 hr (pO_le h l)
  | exn c p m => rw [e1] at h; exact h
  | stuck => rw [e1] at h; exact h
theorem rdEs_nil {Q : List V → Hp → Prop} (h : rdEs P w K mg Φ E .nil σ H Q) : tNil σ H Q := by
  obtain ⟨B, G, s, R, q⟩ := h
  exact q [] H G .rfl R .nil
theorem rdEs_cons {e : Ex} {es : Exs} {Q : List V → Hp → Prop} (h : rdEs P w K mg Φ E (.cons e es) σ H Q) : tCons (rdE P w K mg Φ E e) (rdEs P w K mg Φ E es) σ H Q := by
  obtain ⟨B, G, s, R, q⟩ := h
  have q : pO P w K mg B E G ((evE Φ e s).bind fun x s => (evEs Φ es s).bind fun xs s => .ok (x.d :: xs) s) _ := q
  refine rdE_stepD R q fun r s1 v H1 G1 l1 R1 hd q1 => ?_
  refine rdEs_step R1 q1 fun ds s2 vs H2 G2 l2 R2 hds q2 => ?_
  exact q2 (v :: vs) H2 G2 (l1.trans l2) R2 (.cons (RD.le l2 hd) hds)
/-- a constant -/
theorem rd_const {e : Ex} {d : D} {v : V} {Q : VK} (he : ∀ s, evE Φ e s = .ok (.v d) s) (hv : ∀ G, RD P w K mg G v d) (h : rdE P w K mg Φ E e σ H Q) : tC v σ H Q := by
  obtain ⟨B, G, s, R, q⟩ := h
  rw [he] at q
  exact q v H G .rfl R (hv G) fun z => nomatch z
theorem rd_var {i : Nat} {Q : VK} (h : rdE P w K mg Φ E (.var i) σ H Q) : tVar i σ H Q := by
  obtain ⟨B, G, s, R, q⟩ := h
  have q : pO P w K mg B E G (readV i s) (kV P w K mg B G σ Q) := q
  unfold readV at q
  split at q
  · rename_i d e
    obtain ⟨v, hv, hr⟩ := R.slot i _ e
    exact ⟨v, hv, q v H G .rfl R hr fun z => nomatch z⟩
  · rename_i r _ e
    obtain ⟨G', v, l, R', hv, hd⟩ := R.shareSlot e
    exact ⟨v, hv, q v H G' l R' hd fun z => nomatch z⟩
  · exact q.elim
theorem Vw.deref {m : Mm} {v : V} {d : D} (M : SM P w K mg B G m H) (h : Vw P w K mg G H v d) : Vw P w K mg G H v (deref m d) := by
  cases d with
  | ref j =>
    unfold Pah.deref
    simp only
    split
    · rename_i ds e
      rcases h with h | ⟨_, _, _, _, z, _⟩ | ⟨_, _, _, _, _, z, _⟩
      · cases h with
        | ref hj =>
          obtain ⟨a, vs, h1, h2, h3⟩ := M.lst e
          rw [hj] at h1
          cases h1
          exact .inr (.inl ⟨_, vs, ds, rfl, rfl, h2, h3⟩)
      · cases z
      · cases z
    · exact h
  | _ => exact h
/-- an operation on two -/
theorem rd_op {e a b : Ex} {r : R2} {g : D × D → S → Option RV} {Q : VK} (he : ∀ s, evE Φ e s = (asB2 a b (evE Φ a) (evE Φ b) s).bind fun xy s => Out.of (g xy s) s)
    (hr : ∀ (G : Gh) (s1 : S) (d1 d2 : D) (v1 v2 : V) (H1 : Hp) (B : Ba) (rv : RV) (Q : VK), SR P w K mg B G s1 σ H1 → Vw P w K mg G H1 v1 d1 → Vw P w K mg G H1 v2 d2 → g (d1, d2) s1 = some rv → (∀ v H', Rs P w K mg G H1 rv v H' → Q v H') → r v1 v2 H1 Q)
    (h : rdE P w K mg Φ E e σ H Q) : tOp r (rdB P w K mg Φ E a) (rdB P w K mg Φ E b) σ H Q := by
  obtain ⟨B, G, s, R, q⟩ := h
  rw [he] at q
  refine rdB2_step R q fun d1 d2 s1 v1 v2 H1 G1 l R1 h1 h2 q1 => ?_
  cases e1 : g (d1, d2) s1 with
  | none => simp only [e1, of_none] at q1; exact q1.elim
  | some rv =>
    simp only [e1, of_some] at q1
    exact hr G1 s1 d1 d2 v1 v2 H1 B rv Q R1 h1 h2 e1 fun v H' rs => kV_res q1 l R1 rs
end
end Pah
end
section
set_option maxHeartbeats 200000
/-! Snd7: chkE: a term is what the tree says; then its evaluation is the tree's reading. -/
namespace Pah
open PySem PySem.Spec PyProof.Rows L2

def visB (sc : Scope) (x : Str) : Bool := match sc.names.lookup x with
  | some .local => true
  | some .cell => true
  | some .free => true
  | _ => false
def glB (sc : Scope) (x : Str) : Bool := decide (sc.names.lookup x = some .globalImplicit)
def okName (x : Str) : Bool := !(x == ("__debug__" : Str)) && !(x == ("__classdict__" : Str)) && decide (x ≠ "__name__")
def isAnd : Ex → Bool
  | .and _ _ => true
  | _ => false
def isOr : Ex → Bool
  | .or _ _ => true
  | _ => false
/-- as a test -/
def tst : Ex → Bool
  | .and a b => tst a && tst b
  | .or a b => tst a && tst b
  | .not a => tst a
  | .ite _ _ _ => false
  | .no => false
  | _ => true
def biName : BI → Str
  | .len => "len" | .all => "all" | .any => "any" | .sum => "sum" | .list => "list" | .tuple => "tuple" | .sorted => "sorted" | .sortedset => "sorted" | .int => "int" | .max => "max" | .min => "min" | .listrange => "list" | .dict => "dict"
/-- built-in functions that take values alone -/
def biFn : BI → Bool
  | .len => true | .all => true | .any => true | .sum => true | .list => true | .tuple => true | .int => true | .max => true | .min => true | .sorted => true | .dict => true
  | _ => false
def biVal : BI → Value
  | .dict => .type "dict" | .list => .type "list" | .tuple => .type "tuple" | .int => .type "int"
  | .len => .builtin "len" | .all => .builtin "all" | .any => .builtin "any" | .sum => .builtin "sum" | .max => .builtin "max" | .sorted => .builtin "sorted" | _ => .builtin "min"
/-- those that are served while an exception is handled -/
def biHot : BI → Bool
  | .len => true | .list => true | .tuple => true | .int => true
  | _ => false
def isEl : Itx → Bool
  | .el _ => true
  | _ => false
def ownOf (N : List Str) (vs : List Nat) : List (Str × Nat) := vs.map fun i => (N.getD i "", i)
theorem ownOf_snd (N : List Str) (vs : List Nat) : (ownOf N vs).map (·.2) = vs := by simp [ownOf, List.map_map, Function.comp_def]
def Ck.blk (c : Ck) (scope : Scope) : Ck := { c with sc := relS scope c.sc, fn := fun x => scope.names.lookup x == some .cell, xs := [], lm := false, er := false }
def isYes : Ex → Bool
  | .bl true => true
  | _ => false
/-- .no or an expression -/
def isNoE : Ex → Bool
  | .no => true
  | _ => false
mutual
def chkE (c : Ck) : Ex → Expr → Bool
  | .var i, .Name x _ => decide (c.N[i]? = some x) && visB c.sc x && okName x
  | .int i, .Constant (.int j) _ _ => decide (i = j)
  | .str x, .Constant (.str y) _ _ => decide (x = y)
  | .bl b, .Constant (.bool d) _ _ => decide (b = d)
  | .non, .Constant .none _ _ => true
  | .gl x, .Name y _ => decide (x = y) && glB c.sc y && okName y && decide (y ∈ c.cs)
  | .tup es, .Tuple xs _ _ => chkEs c es xs
  | .lst es, .List xs _ => chkEs c es xs
  | .lstM es, .List xs _ => chkEs c es xs
  | .dic0, .Dict [] [] _ => true
  | .bin o a b, .BinOp x p y _ => decide (p = bop o) && chkE c a x && chkE c b y
  | .neg a, .UnaryOp .USub x _ => chkE c a x
  | .cmp o a b, .Compare x [p] [y] _ => decide (p = cop o) && !isSet y && chkE c a x && chkE c b y
  | .cmp2 o1 o2 a b d, .Compare x [p, q] [y, z] _ => decide (p = cop o1) && decide (q = cop o2) && !isSet z && chkE c a x && chkE c b y && chkE c d z
  | .isnon ng a, .Compare x [p] [.Constant .none _ _] _ => decide (p = if ng = true then .IsNot else .Is) && chkE c a x
  | .and a b, .BoolOp .And (x :: y :: rest) p => chkE c a x && (match rest with
    | [] => chkE c b y
    | _ => isAnd b && chkE c b (.BoolOp .And (y :: rest) p))
  | .or a b, .BoolOp .Or (x :: y :: rest) p => chkE c a x && (match rest with
    | [] => chkE c b y
    | _ => isOr b && chkE c b (.BoolOp .Or (y :: rest) p))
  | .not a, .UnaryOp .Not x _ => chkE c a x
  | .ite t a b, .IfExp u x y _ => tst t && chkE c t u && chkE c a x && chkE c b y
  | .isx C (.var i), .Call (.Name f _) [.Name x xp, .Name T _] [] _ => decide (f = "isinstance") && glB c.sc f && decide (T = C) && glB c.sc T && okName T && decide (C ∈ c.xs) && chkE c (.var i) (.Name x xp)
  | .isty t a, .Call (.Name f _) [x, .Name T _] [] _ => decide (f = "isinstance") && glB c.sc f && decide (T = (tyS t : Str)) && glB c.sc T && !star x && chkE c a x
  | .call f es, .Call (.Name g _) xs [] _ => !c.hot && decide (f = g) && glB c.sc g && okName g && chkEs c es xs && decide ((f, xs.length) ∈ c.fs)
  | .callV i es, .Call (.Name y _) (z :: zs) [] _ => !c.hot && decide (c.N[i]? = some y) && visB c.sc y && okName y && chkEs c es (z :: zs)
  | .refd a, .Call (.Name g _) [.Lambda ⟨[], [], none, [], [], none, []⟩ body scope _] [] _ => c.lm && !c.hot && decide (g = "_law_refused") && glB c.sc g && LamX.lamSB c.sc scope && chkE (c.lamC scope) a body
  | .bi .listrange (.cons a .nil), .Call (.Name g _) [.Call (.Name h _) [x] [] _] [] _ => !c.hot && decide (g = "list") && decide (h = "range") && glB c.sc g && glB c.sc h && !star x && chkE c a x
  | .bi .sortedset (.cons a .nil), .Call (.Name g _) [.Call (.Name h _) [x] [] _] [] _ => !c.hot && decide (g = "sorted") && decide (h = "set") && glB c.sc g && glB c.sc h && !star x && chkE c a x
  | .bi f (.cons a .nil), .Call (.Name g _) [x] [] _ => biFn f && (!c.hot || biHot f) && decide (g = biName f) && glB c.sc g && !star x && chkE c a x
  | .bi f (.cons a (.cons b es)), .Call (.Name g _) (x :: y :: xs) [] _ => biFn f && (!c.hot || biHot f) && decide (g = biName f) && glB c.sc g && !star x && chkE c a x && !star y && chkE c b y && chkEs c es xs
  | .mth f o a, .Call (.Attribute x m ap) [y] [] cp => decide (m = mname f) && decide (f ≠ .count) && (ap.endLine == cp.line) && noSuper x && !star y && chkE c o x && chkE c a y
  | .pop i, .Call (.Attribute (.Name x _) m ap) [] [] cp => decide (m = "pop") && (ap.endLine == cp.line) && decide (c.N[i]? = some x) && visB c.sc x && okName x
  | .idx a i, .Subscript x y _ => !isSlice y && chkE c a x && chkE c i y
  | .upper a, .Call (.Attribute x m ap) [] [] cp => decide (m = "upper") && (ap.endLine == cp.line) && noSuper x && chkE c a x
  | .get i k, .Call (.Attribute (.Name y _) m ap) [z, .Constant .none _ _] [] cp => decide (m = "get") && (ap.endLine == cp.line) && decide (c.N[i]? = some y) && visB c.sc y && okName y && !star z && chkE c k z
  | .fld cl a f, .Attribute x g _ => decide (g = f) && decide ((cl, f) ∈ c.fa) && noSuper x && chkE c a x
  | .prop cl a f, .Attribute x g _ => !c.hot && decide (g = f) && decide ((cl, f) ∈ c.pr) && noSuper x && chkE c a x
  | .cm cl m a, .Call (.Attribute (.Name y _) g ap) [x] [] cp => !c.hot && decide (y = cl) && decide (g = m) && glB c.sc y && okName y && decide ((cl, m) ∈ c.cm) && (ap.endLine == cp.line) && !star x && chkE c a x
  | .mkS cl a, .Call (.Name y _) [.Starred x _] [] _ => !c.hot && decide (y = cl) && glB c.sc y && okName y && decide (cl ∈ c.mks) && chkE c a x
  | .mkV cl i a, .Call (.Name y _) [.Starred x _] [] _ => !c.hot && decide (c.N[i]? = some y) && visB c.sc y && okName y && decide (cl ∈ c.mks) && chkE c a x
  | .rev a, .Subscript x (.Slice none none (some (.UnaryOp .USub (.Constant (.int j) _ _) _)) _) _ => decide (j = 1) && chkE c a x
  | .slice a lo hi, .Subscript x (.Slice l h none _) _ => chkE c a x && (match l with
    | none => isNoE lo
    | some y => !isNoE lo && chkE c lo y) && (match h with
    | none => isNoE hi
    | some y => !isNoE hi && chkE c hi y)
  | .comp elt tg it cond, .ListComp x [⟨t, y, ifs, z⟩] scope _ => (!c.hot || isEl it && !c.xs.isEmpty) && decide (z = 0) && notLive it && !isSet y && blkC c.N c.sc scope (ownOf c.N tg.vars) && chkT (c.blk scope) tg (.inl t) && chkI c it t y && chkE (c.blk scope) elt x && tst cond && (match ifs with
    | [] => isYes cond
    | [u] => chkE (c.blk scope) cond u
    | _ => false)
  | _, _ => false
def chkEs (c : Ck) : Exs → List Expr → Bool
  | .nil, [] => true
  | .cons e es, x :: xs => !star x && chkE c e x && chkEs c es xs
  | _, _ => false
/-- what is walked; t: the target -/
def chkI (c : Ck) : Itx → Expr → Expr → Bool
  | .range1 a, _, .Call (.Name g _) [x] [] _ => decide (g = "range") && glB c.sc g && !star x && chkE c a x
  | .range2 a b, _, .Call (.Name g _) [x, y] [] _ => decide (g = "range") && glB c.sc g && !star x && !star y && chkE c a x && chkE c b y
  | .enum a, .Tuple _ _ _, .Call (.Name g _) [x] [] _ => decide (g = "enumerate") && glB c.sc g && !star x && chkE c a x
  | .zip a b, .Tuple _ _ _, .Call (.Name g _) [x, y] [] _ => decide (g = "zip") && glB c.sc g && !star x && !star y && chkE c a x && chkE c b y
  | .e a, _, x => chkE c a x
  | .el a, _, x => chkE c a x
  | _, _, _ => false
end
end Pah
end
section
set_option maxHeartbeats 200000
/-! Snd8: the readings of expressions, one by one. -/
namespace Pah
open PySem PySem.Spec PyProof.Rows L2
section
variable {P : Program} {w : World} {K : PySem.W.Frag} {mg : Str → Option Value} {B : Ba} {G G' : Gh} {s : S} {σ σ' : L2.St} {H H' : Hp} {E : XK} {Φ : Phi} {X : Cx} {n : Nat} {c : Ck}
theorem okName_of {x : Str} (h : okName x = true) : (x == ("__debug__" : Str)) = false ∧ (x == ("__classdict__" : Str)) = false ∧ x ≠ "__name__" := by
  unfold okName at h
  simp only [Bool.and_eq_true, Bool.not_eq_true', decide_eq_true_eq] at h
  exact ⟨h.1.1, h.1.2, h.2⟩
theorem vis_of {x : Str} (C : CtxOk P w K mg Φ n X c E) (h : visB c.sc x = true) : Vis X.env.scope x := by
  unfold visB at h
  rw [C.sc]
  unfold Vis
  split at h
  · rename_i e; exact .inl e
  · rename_i e; exact .inr (.inl e)
  · rename_i e; exact .inr (.inr e)
  · cases h
theorem gl_of {x : Str} (C : CtxOk P w K mg Φ n X c E) (h : glB c.sc x = true) : Gl X x := by
  show X.env.scope.names.lookup x = _
  rw [C.sc]
  exact of_decide_eq_true h
theorem pe_v {i : Nat} {x : Str} {p : Pos} (C : CtxOk P w K mg Φ n X c E) (h1 : c.N[i]? = some x) (h2 : visB c.sc x = true) (h3 : okName x = true) : PE X (.Name x p) (tVar i) :=
  pe_var (by rw [C.N]; exact h1) (vis_of C h2) (okName_of h3).1 (okName_of h3).2.1
/-- a name is looked at, or the rest is evaluated -/
theorem pe_b {e : Ex} {x : Expr} (C : CtxOk P w K mg Φ n X c E) (h : chkE c e x = true) (pe : PE X x (rdE P w K mg Φ E e)) : PE X x (rdB P w K mg Φ E e) := by
  rcases isVar e with ⟨i, rfl⟩ | ne
  · cases x with
    | Name y p =>
      simp only [chkE, Bool.and_eq_true, decide_eq_true_eq] at h
      exact pe_v C h.1.1 h.1.2 h.2
    | _ => simp [chkE] at h
  · rw [rdB_ne ne]
    exact pe
theorem Vw.sub_int {v : V} {d : D} {i : Int} (e : d = .int i) (h : Vw P w K mg G H v d) : v = .int i := by subst e; exact h.int
/-! tests -/
theorem asBool_inv {r : RV} {s s' : S} {b : Bool} (h : asBool r s = .ok b s') : r = .v (.bl b) ∧ s' = s := by
  unfold asBool at h
  split at h
  · cases h; exact ⟨rfl, rfl⟩
  · cases h
theorem asBool_ne {r : RV} {s : S} {c : Str} {p : D} {m : Mm} (h : asBool r s = .exn c p m) : False := by
  unfold asBool at h
  split at h <;> cases h
/-- a test by its value -/
theorem rdT_val {e : Ex} {Q : Bool → Hp → Prop} (h : rdT P w K mg Φ E e σ H Q) : tTest (rdE P w K mg Φ E e) σ H Q := by
  obtain ⟨B, G, s, R, q⟩ := h
  refine ⟨B, G, s, R, ?_⟩
  cases e1 : evE Φ e s with
  | stuck => rw [e1] at q; exact q
  | exn c p m => rw [e1] at q; exact q
  | ok r s1 =>
    rw [e1] at q
    simp only [bind_ok] at q
    cases e2 : asBool r s1 with
    | stuck => rw [e2] at q; exact q.elim
    | exn c p m => exact (asBool_ne e2).elim
    | ok b s2 =>
      rw [e2] at q
      obtain ⟨rfl, rfl⟩ := asBool_inv e2
      intro v H1 G1 l1 R1 hr _
      have hr : RD P w K mg G1 v (.bl b) := hr
      exact ⟨b, hr.bl_inv, q H1 G1 l1 R1⟩
theorem rdT_step {β : Type} {e : Ex} {f : Bool → S → Out β} {k : β → S → Prop} {Q : Bool → Hp → Prop} (R : SR P w K mg B G s σ H) (h : pO P w K mg B E G (((evE Φ e s).bind asBool).bind f) k)
    (hk : ∀ b s1 H1 G1, G.Le G1 → SR P w K mg B G1 s1 σ H1 → pO P w K mg B E G1 (f b s1) k → Q b H1) : rdT P w K mg Φ E e σ H Q := by
  refine ⟨B, G, s, R, ?_⟩
  cases e1 : (evE Φ e s).bind asBool with
  | ok b s1 =>
    rw [e1] at h
    exact fun H1 G1 l R1 => hk b s1 H1 G1 l R1 (pO_le h l)
  | exn c p m => rw [e1] at h; exact h
  | stuck => rw [e1] at h; exact h
/-- and, as a test -/
theorem rdT_and {a b : Ex} {Q : Bool → Hp → Prop} (h : rdT P w K mg Φ E (.and a b) σ H Q) : tAnd (rdT P w K mg Φ E a) (rdT P w K mg Φ E b) σ H Q := by
  obtain ⟨B, G, s, R, q⟩ := h
  have q : pO P w K mg B E G (((evE Φ a s).bind fun x s => (asBool x s).bind fun t s => if t = true then evE Φ b s else .ok (.v (.bl false)) s).bind asBool) _ := q
  rw [bind_assoc] at q
  have q : pO P w K mg B E G ((evE Φ a s).bind fun x s => ((asBool x s).bind fun t s => if t = true then evE Φ b s else .ok (.v (.bl false)) s).bind asBool) _ := q
  simp only [bind_assoc] at q
  rw [← bind_assoc] at q
  refine rdT_step R q fun t s1 H1 G1 l1 R1 q1 => ?_
  cases t with
  | true =>
    rw [if_pos rfl] at q1 ⊢
    exact ⟨B, G1, s1, R1, pO_mono q1 fun b s2 k H2 G2 l2 R2 => k H2 G2 (l1.trans l2) R2⟩
  | false =>
    rw [if_neg Bool.false_ne_true] at q1 ⊢
    exact q1 H1 G1 l1 R1
theorem rdT_or {a b : Ex} {Q : Bool → Hp → Prop} (h : rdT P w K mg Φ E (.or a b) σ H Q) : tOr (rdT P w K mg Φ E a) (rdT P w K mg Φ E b) σ H Q := by
  obtain ⟨B, G, s, R, q⟩ := h
  have q : pO P w K mg B E G (((evE Φ a s).bind fun x s => (asBool x s).bind fun t s => if t = true then .ok (.v (.bl true)) s else evE Φ b s).bind asBool) _ := q
  simp only [bind_assoc] at q
  rw [← bind_assoc] at q
  refine rdT_step R q fun t s1 H1 G1 l1 R1 q1 => ?_
  cases t with
  | true =>
    rw [if_pos rfl] at q1 ⊢
    exact q1 H1 G1 l1 R1
  | false =>
    rw [if_neg Bool.false_ne_true] at q1 ⊢
    exact ⟨B, G1, s1, R1, pO_mono q1 fun b s2 k H2 G2 l2 R2 => k H2 G2 (l1.trans l2) R2⟩
theorem rdT_not {a : Ex} {Q : Bool → Hp → Prop} (h : rdT P w K mg Φ E (.not a) σ H Q) : tNot (rdT P w K mg Φ E a) σ H Q := by
  obtain ⟨B, G, s, R, q⟩ := h
  have q : pO P w K mg B E G (((evE Φ a s).bind fun x s => (asBool x s).bind fun t s => .ok (.v (.bl (!t))) s).bind asBool) _ := q
  simp only [bind_assoc] at q
  rw [← bind_assoc] at q
  refine rdT_step R q fun t s1 H1 G1 l1 R1 q1 => ?_
  exact q1 H1 G1 l1 R1
/-- and, as a value -/
theorem kV_le {r : RV} {s' : S} {Q : VK} {G1 : Gh} (l : G.Le G1) (k : kV P w K mg B G σ Q r s') : kV P w K mg B G1 σ Q r s' := fun v H' G' l' R' hr al => k v H' G' (l.trans l') R' hr al
theorem rdE_bool {e : Ex} {f : Bool → S → Out RV} {Q : VK} {R2 : Bool → Hp → Prop} (R : SR P w K mg B G s σ H) (h : pO P w K mg B E G ((evE Φ e s).bind fun x s => (asBool x s).bind f) (kV P w K mg B G σ Q))
    (hk : ∀ b s1 H1 G1, G.Le G1 → SR P w K mg B G1 s1 σ H1 → pO P w K mg B E G1 (f b s1) (kV P w K mg B G1 σ Q) → R2 b H1) : rdE P w K mg Φ E e σ H fun x H1 => ∃ c, x = .bl c ∧ R2 c H1 := by
  refine rdE_step R h fun r s1 v H1 G1 l1 R1 hr al q => ?_
  cases e2 : asBool r s1 with
  | stuck => rw [e2] at q; exact q.elim
  | exn c p m => exact (asBool_ne e2).elim
  | ok b s2 =>
    rw [e2] at q
    obtain ⟨rfl, rfl⟩ := asBool_inv e2
    have hr : RD P w K mg G1 v (.bl b) := hr
    exact ⟨b, hr.bl_inv, hk b _ H1 G1 l1 R1 (pO_mono q fun _ _ k => kV_le l1 k)⟩
theorem rdE_and {a b : Ex} {Q : VK} (h : rdE P w K mg Φ E (.and a b) σ H Q) : tAndV (rdE P w K mg Φ E a) (rdE P w K mg Φ E b) σ H Q := by
  obtain ⟨B, G, s, R, q⟩ := h
  refine rdE_bool R q fun t s1 H1 G1 l1 R1 q1 => ?_
  cases t with
  | true =>
    rw [if_pos rfl] at q1 ⊢
    exact ⟨B, G1, s1, R1, q1⟩
  | false =>
    rw [if_neg Bool.false_ne_true] at q1 ⊢
    exact q1 _ H1 G1 .rfl R1 (.bl false) fun z => nomatch z
theorem rdE_or {a b : Ex} {Q : VK} (h : rdE P w K mg Φ E (.or a b) σ H Q) : tOrV (rdE P w K mg Φ E a) (rdE P w K mg Φ E b) σ H Q := by
  obtain ⟨B, G, s, R, q⟩ := h
  refine rdE_bool R q fun t s1 H1 G1 l1 R1 q1 => ?_
  cases t with
  | true =>
    rw [if_pos rfl] at q1 ⊢
    exact q1 _ H1 G1 .rfl R1 (.bl true) fun z => nomatch z
  | false =>
    rw [if_neg Bool.false_ne_true] at q1 ⊢
    exact ⟨B, G1, s1, R1, q1⟩
theorem rdE_not {a : Ex} {Q : VK} (h : rdE P w K mg Φ E (.not a) σ H Q) : tNotV (rdE P w K mg Φ E a) σ H Q := by
  obtain ⟨B, G, s, R, q⟩ := h
  refine rdE_bool R q fun t s1 H1 G1 l1 R1 q1 => ?_
  exact q1 _ H1 G1 .rfl R1 (.bl (!t)) fun z => nomatch z
theorem rdE_ite {t a b : Ex} {Q : VK} (h : rdE P w K mg Φ E (.ite t a b) σ H Q) : tIf (rdT P w K mg Φ E t) (rdE P w K mg Φ E a) (rdE P w K mg Φ E b) σ H Q := by
  obtain ⟨B, G, s, R, q⟩ := h
  have q : pO P w K mg B E G ((evE Φ t s).bind fun x s => (asBool x s).bind fun t s => if t = true then evE Φ a s else evE Φ b s) _ := q
  rw [← bind_assoc] at q
  refine rdT_step R q fun t s1 H1 G1 l1 R1 q1 => ?_
  cases t with
  | true =>
    rw [if_pos rfl] at q1 ⊢
    exact ⟨B, G1, s1, R1, pO_mono q1 fun _ _ k => kV_le l1 k⟩
  | false =>
    rw [if_neg Bool.false_ne_true] at q1 ⊢
    exact ⟨B, G1, s1, R1, pO_mono q1 fun _ _ k => kV_le l1 k⟩
/-! displays -/
theorem rdE_tup {es : Exs} {Q : VK} (h : rdE P w K mg Φ E (.tup es) σ H Q) : tTupN (rdEs P w K mg Φ E es) σ H Q := by
  obtain ⟨B, G, s, R, q⟩ := h
  refine rdEs_step R q fun ds s1 vs H1 G1 l1 R1 hr q1 => ?_
  by_cases hl : ds.length ≤ lim
  · rw [if_pos hl] at q1
    refine ⟨by rw [hr.length, ← lim_eq]; exact hl, fun p o hd hp => ?_⟩
    exact kV_res q1 l1 R1 (.tup hp hd hr)
  · rw [if_neg hl] at q1; exact q1.elim
theorem rdE_lst {es : Exs} {Q : VK} (h : rdE P w K mg Φ E (.lst es) σ H Q) : tLst (rdEs P w K mg Φ E es) σ H Q := by
  obtain ⟨B, G, s, R, q⟩ := h
  refine rdEs_step R q fun ds s1 vs H1 G1 l1 R1 hr q1 => ?_
  by_cases hl : ds.length ≤ lim
  · rw [if_pos hl] at q1
    refine ⟨by rw [hr.length, ← lim_eq]; exact hl, fun p hp => ?_⟩
    exact kV_res q1 l1 R1 (.lst hp hr)
  · rw [if_neg hl] at q1; exact q1.elim
theorem rdE_lstM {es : Exs} {Q : VK} (h : rdE P w K mg Φ E (.lstM es) σ H Q) : tLst (rdEs P w K mg Φ E es) σ H Q := by
  obtain ⟨B, G, s, R, q⟩ := h
  refine rdEs_step R q fun ds s1 vs H1 G1 l1 R1 hr q1 => ?_
  by_cases hl : ds.length ≤ lim
  · rw [if_pos hl] at q1
    refine ⟨by rw [hr.length, ← lim_eq]; exact hl, fun p hp => ?_⟩
    obtain ⟨R2, l2⟩ := R1.newRef hp (.lst hr)
    refine q1 (.ref p) _ _ (l1.trans l2) R2 ?_ fun z => nomatch z
    show RD P w K mg _ (.ref p) (.ref s1.mem.length)
    refine .ref ?_
    show (G1.ρ ++ [p])[s1.mem.length]? = some p
    rw [← R1.m.len, List.getElem?_append_right (Nat.le_refl _), Nat.sub_self]
    rfl
  · rw [if_neg hl] at q1; exact q1.elim
/-- {} -/
def tDic0 (P : Program) (w : World) : TE := fun _ H Q => ∀ p, H p = none → Q (.ref p) (upd H p (DicO P w p []))
theorem pe_dic0 {p : Pos} : PE X (.Dict [] [] p) (tDic0 X.prog X.w) := by
  constructor
  intro pins s σ H Q I h
  refine wpAny_Dict_empty ⟨.ref s.heap.objs.size, _, I.laid (a := s.heap.objs.size) (o := DicO X.prog X.w s.heap.objs.size []) (t' := s.toks) (fun _ _ q => Heap.get?_push_of_some _ q) (Nat.le_refl _) ?_, rfl, h _ (I.hok.fresh (Nat.le_refl _))⟩
  have e := Heap.get?_push_size s.heap (o := ({ cls := .type "dict", data := .dict #[] } : Obj)) rfl
  refine ⟨⟨beq_eq_false_iff_ne.mpr (Ne.symm (Nat.ne_of_lt I.big)), Nat.zero_le _, _, #[], 0, e, ⟨rfl, rfl, rfl⟩, rfl, rfl, List.nodup_nil⟩, ⟨_, e⟩, fun h1 h2 ⟨a1, a2, o, es, ep, a3, a4⟩ k => ⟨a1, a2, o, es, ep, k _ a3, a4⟩⟩
theorem rdE_dic0 {Q : VK} (h : rdE P w K mg Φ E .dic0 σ H Q) : tDic0 P w σ H Q := by
  obtain ⟨B, G, s, R, q⟩ := h
  intro p hp
  have q : kV P w K mg B G σ Q (.m [] []) s := q
  refine q _ _ G .rfl (R.new hp) ⟨p, [], rfl, upd_same, .nil, R.own1 hp⟩ fun _ i ri e hf => R.noslot hp i ri e hf
end
end Pah
end
section
set_option maxHeartbeats 2000000
/-! Srt: sorted lists; lists of things that all differ. -/
namespace Pah
open PySem PySem.Spec PyProof.Rows L2 PySem.W
theorem sortD_some {ds es : List D} (h : sortD ds = some es) : es = ds.mergeSort leD ∧ ds.length ≤ lim ∧ plains ds = true ∧ (∀ a ∈ ds, ∀ b ∈ ds, alike a.py b.py = true) ∧ (ds.all isTup1 = true ∨ ds.all isIntD = true) := by
  unfold sortD at h
  split at h
  · rename_i hs
    cases h
    unfold sortable at hs
    simp only [Bool.and_eq_true, decide_eq_true_eq, List.all_eq_true, Bool.or_eq_true] at hs
    obtain ⟨⟨⟨h1, h2⟩, h3⟩, h4⟩ := hs
    exact ⟨rfl, h1, h2, h3, by simpa only [List.all_eq_true] using h4⟩
  · cases h
/-- alike values of which neither is less are equal -/
theorem eqv_of_toks {x y : PyData} (h : alike x y = true) (e : keyToks x = keyToks y) : PyData.eqv x y = true := by
  cases c : PyData.eqv x y with
  | true => rfl
  | false =>
    have z := (toks_eqv x y h).2 c
    rw [← e] at z
    have z1 := z [] [Sum.inl 0]
    have z2 := z [] []
    rw [lex_pre] at z1 z2
    rw [← z2] at z1
    exact absurd z1 (by decide)
theorem leD_anti {a b : D} (h : alike a.py b.py = true) (h1 : leD a b = true) (h2 : leD b a = true) : PyData.eqv a.py b.py = true := by
  unfold leD at h1 h2
  have e1 : dataLt b.py a.py = false := by simpa using h1
  have e2 : dataLt a.py b.py = false := by simpa using h2
  exact eqv_of_toks h (lex_total _ _ e2 e1)
theorem leD_trans {a b c : D} (h1 : leD a b = true) (h2 : leD b c = true) : leD a c = true := by
  unfold leD at *
  have e1 : dataLt b.py a.py = false := by simpa using h1
  have e2 : dataLt c.py b.py = false := by simpa using h2
  cases z : dataLt c.py a.py with
  | false => rfl
  | true =>
    exfalso
    cases y : dataLt a.py b.py with
    | true =>
      have : dataLt c.py b.py = true := lex_trans _ _ _ z y
      rw [e2] at this
      cases this
    | false =>
      have e : keyToks a.py = keyToks b.py := lex_total _ _ y e1
      unfold dataLt at z e2
      rw [e] at z
      rw [z] at e2
      cases e2
theorem leD_total (a b : D) : (leD a b || leD b a) = true := by
  unfold leD
  cases z : dataLt b.py a.py with
  | false => rfl
  | true =>
    cases y : dataLt a.py b.py with
    | false => rfl
    | true =>
      have q : dataLt a.py a.py = true := lex_trans _ _ _ y z
      exact absurd (q.symm.trans (lex_irrefl _)) (by decide)
mutual
theorem nk_eqv : ∀ (a b : D) (n m : Nat), D.keyN n a = true → D.keyN m b = true → PyData.eqv a.py b.py = true → a.nk = b.nk
  | .non, b, n, m, _, hb, e => by
    cases b with
    | non => rfl
    | bl _ => simp [D.py, PyData.eqv] at e
    | int _ => simp [D.py, PyData.eqv] at e
    | str _ => simp [D.py, PyData.eqv] at e
    | tup _ => simp [D.py, PyData.eqv] at e
    | _ => cases m <;> simp [D.keyN] at hb
  | .bl x, b, n, m, _, hb, e => by
    cases b with
    | non => simp [D.py, PyData.eqv] at e
    | bl y => simp [D.py, PyData.eqv] at e; simp [D.nk, e]
    | int y => simp [D.py, PyData.eqv] at e; simp [D.nk, e]
    | str _ => simp [D.py, PyData.eqv] at e
    | tup _ => simp [D.py, PyData.eqv] at e
    | _ => cases m <;> simp [D.keyN] at hb
  | .int x, b, n, m, _, hb, e => by
    cases b with
    | non => simp [D.py, PyData.eqv] at e
    | bl y => simp [D.py, PyData.eqv] at e; simp [D.nk, e]
    | int y => simp [D.py, PyData.eqv] at e; simp [D.nk, e]
    | str _ => simp [D.py, PyData.eqv] at e
    | tup _ => simp [D.py, PyData.eqv] at e
    | _ => cases m <;> simp [D.keyN] at hb
  | .str x, b, n, m, _, hb, e => by
    cases b with
    | non => simp [D.py, PyData.eqv] at e
    | bl y => simp [D.py, PyData.eqv] at e
    | int y => simp [D.py, PyData.eqv] at e
    | str _ => simp [D.py, PyData.eqv] at e; simp [D.nk, e]
    | tup _ => simp [D.py, PyData.eqv] at e
    | _ => cases m <;> simp [D.keyN] at hb
  | .tup x, b, n, m, ha, hb, e => by
    cases b with
    | non => simp [D.py, PyData.eqv] at e
    | bl y => simp [D.py, PyData.eqv] at e
    | int y => simp [D.py, PyData.eqv] at e
    | str _ => simp [D.py, PyData.eqv] at e
    | tup y =>
      cases n with
      | zero => simp [D.keyN] at ha
      | succ n =>
        cases m with
        | zero => simp [D.keyN] at hb
        | succ m =>
          simp only [D.keyN] at ha hb
          simp only [D.py, PyData.eqv] at e
          simp only [D.nk]
          rw [nks_eqv x y n m ha hb e]
    | _ => cases m <;> simp [D.keyN] at hb
  | .lst x, b, n, m, ha, hb, e => by cases n <;> simp [D.keyN] at ha
  | .dic _ _, b, n, m, ha, hb, e => by cases n <;> simp [D.keyN] at ha
  | .ref x, b, n, m, ha, hb, e => by cases n <;> simp [D.keyN] at ha
  | .fn x, b, n, m, ha, hb, e => by cases n <;> simp [D.keyN] at ha
theorem nks_eqv : ∀ (a b : List D) (n m : Nat), keysN n a = true → keysN m b = true → PyData.eqvAll (pys a) (pys b) = true → nks a = nks b
  | [], [], _, _, _, _, _ => rfl
  | [], _ :: _, _, _, _, _, e => by simp [pys, PyData.eqvAll] at e
  | _ :: _, [], _, _, _, _, e => by simp [pys, PyData.eqvAll] at e
  | x :: xs, y :: ys, n, m, ha, hb, e => by
    simp only [keysN, Bool.and_eq_true] at ha hb
    simp only [pys, PyData.eqvAll, Bool.and_eq_true] at e
    simp only [nks]
    rw [nk_eqv x y n m ha.1 hb.1 e.1, nks_eqv xs ys n m ha.2 hb.2 e.2]
end
theorem plainsN_all (n : Nat) : ∀ ds : List D, plainsN n ds = ds.all (D.plainN n)
  | [] => rfl
  | d :: ds => by rw [plainsN, List.all_cons, plainsN_all n ds]
theorem all_perm {α : Type} {p : α → Bool} {l m : List α} (h : l.Perm m) (e : m.all p = true) : l.all p = true := by
  rw [List.all_eq_true] at *
  exact fun x hx => e x (h.mem_iff.mp hx)
/-- the order in which things come does not matter -/
theorem sortD_perm {l m es : List D} (p : m.Perm l) (hk : ∀ a ∈ l, ∃ n, D.keyN n a = true) (nd : (l.map D.nk).Nodup) (h : sortD l = some es) : sortD m = some es := by
  obtain ⟨rfl, hl, hp, hal, ht⟩ := sortD_some h
  have hs : sortable m = true := by
    unfold sortable plains
    rw [plainsN_all]
    simp only [Bool.and_eq_true, decide_eq_true_eq, Bool.or_eq_true]
    refine ⟨⟨⟨by rw [p.length_eq]; exact hl, all_perm p (by rw [← plainsN_all]; exact hp)⟩, ?_⟩, ?_⟩
    · rw [List.all_eq_true]
      intro a ha
      rw [List.all_eq_true]
      exact fun b hb => hal a (p.mem_iff.mp ha) b (p.mem_iff.mp hb)
    · exact ht.imp (all_perm p) (all_perm p)
  unfold sortD
  rw [if_pos hs]
  have inj : ∀ a ∈ l, ∀ b ∈ l, a.nk = b.nk → a = b := by
    intro a ha b hb e
    obtain ⟨i, hi, rfl⟩ := List.getElem_of_mem ha
    obtain ⟨j, hj, rfl⟩ := List.getElem_of_mem hb
    have z := (List.getElem?_inj (i := i) (j := j) (by simpa using hi) nd).mp (by rw [List.getElem?_map, List.getElem?_map, List.getElem?_eq_getElem hi, List.getElem?_eq_getElem hj]; exact congrArg some e)
    subst z
    rfl
  have pm := List.mergeSort_perm m leD
  have pl := List.mergeSort_perm l leD
  refine congrArg some (List.Perm.eq_of_pairwise (le := fun a b => leD a b = true) (fun a b ha hb h1 h2 => ?_) (List.pairwise_mergeSort (le := leD) (fun _ _ _ => leD_trans) leD_total m) (List.pairwise_mergeSort (le := leD) (fun _ _ _ => leD_trans) leD_total l) ((pm.trans p).trans pl.symm))
  have ha' := p.mem_iff.mp (pm.mem_iff.mp ha)
  have hb' := pl.mem_iff.mp hb
  obtain ⟨n, hn⟩ := hk a ha'
  obtain ⟨k, hk'⟩ := hk b hb'
  exact inj a ha' b hb' (nk_eqv a b n k hn hk' (leD_anti (hal a ha' b hb') h1 h2))
theorem dedupD_sub : ∀ {ds : List D} {d : D}, d ∈ dedupD ds → d ∈ ds
  | [], _, h => nomatch h
  | x :: ds, d, h => by
    unfold dedupD at h
    split at h
    · exact List.mem_cons_of_mem _ (dedupD_sub h)
    · rcases List.mem_cons.mp h with e | h
      · rw [e]; exact List.mem_cons_self
      · exact List.mem_cons_of_mem _ (dedupD_sub h)
theorem dedupD_nd : ∀ ds : List D, ((dedupD ds).map D.nk).Nodup
  | [] => List.nodup_nil
  | x :: ds => by
    unfold dedupD
    split
    · exact dedupD_nd ds
    · rename_i h
      rw [List.map_cons, List.nodup_cons]
      refine ⟨fun hm => h ?_, dedupD_nd ds⟩
      obtain ⟨z, hz, e⟩ := List.mem_map.mp hm
      exact List.any_eq_true.mpr ⟨z, dedupD_sub hz, decide_eq_true e⟩
theorem dedupD_all : ∀ {ds : List D} {d : D}, d ∈ ds → d.nk ∈ (dedupD ds).map D.nk
  | [], _, h => nomatch h
  | x :: ds, d, h => by
    unfold dedupD
    split
    · rename_i hx
      rcases List.mem_cons.mp h with e | h
      · obtain ⟨z, hz, e2⟩ := List.any_eq_true.mp hx
        rw [e, ← of_decide_eq_true e2]
        exact dedupD_all hz
      · exact dedupD_all h
    · rcases List.mem_cons.mp h with e | h
      · rw [e]; exact List.mem_cons_self
      · exact List.mem_cons_of_mem _ (dedupD_all h)
theorem nodup_len {α : Type} [DecidableEq α] : ∀ (l m : List α), l.Nodup → (∀ x ∈ l, x ∈ m) → l.length ≤ m.length
  | [], _, _, _ => Nat.zero_le _
  | x :: l, m, hn, hs => by
    obtain ⟨h1, h2⟩ := List.nodup_cons.mp hn
    have hx := hs x List.mem_cons_self
    have ih := nodup_len l (m.erase x) h2 fun y hy => (List.mem_erase_of_ne (fun e : y = x => h1 (e ▸ hy))).2 (hs y (List.mem_cons_of_mem _ hy))
    have e := List.length_erase_of_mem hx
    have hp := List.length_pos_of_mem hx
    rw [List.length_cons]
    omega
theorem nodup_map_of {α β : Type} {f : α → β} {l : List α} (h : (l.map f).Nodup) : l.Nodup := List.Pairwise.of_map f (fun _ _ hne e => hne (congrArg f e)) h
/-- what a set has of ds -/
theorem dedupD_perm {ds M : List D} (inj : ∀ a ∈ ds, ∀ b ∈ ds, a.nk = b.nk → a = b) (nd : (M.map D.nk).Nodup) (sub : ∀ d ∈ M, d ∈ ds) (all : ∀ d ∈ ds, d.nk ∈ M.map D.nk) : M.Perm (dedupD ds) := by
  refine (List.perm_ext_iff_of_nodup (nodup_map_of nd) (nodup_map_of (dedupD_nd ds))).mpr fun d => ⟨fun hd => ?_, fun hd => ?_⟩
  · obtain ⟨z, hz, e⟩ := List.mem_map.mp (dedupD_all (sub d hd))
    rw [← inj z (dedupD_sub hz) d (sub d hd) e]
    exact hz
  · obtain ⟨z, hz, e⟩ := List.mem_map.mp (all d (dedupD_sub hd))
    rw [← inj z (sub z hz) d (dedupD_sub hd) e]
    exact hz
end Pah
end
section
set_option maxHeartbeats 2000000
/-! OpsS: sorted. -/
namespace Pah
open PySem PySem.Spec PyProof.Rows L2 PySem.W
section
variable {P : Program} {w : World} {K : PySem.W.Frag} {mg : Str → Option Value} {G : Gh} {H : Hp}
theorem plain_mem : ∀ {ds : List D} {n : Nat}, plainsN n ds = true → ∀ d ∈ ds, D.plainN n d = true
  | [], _, _, d, h => nomatch h
  | x :: xs, n, h, d, hd => by
    rw [plainsN, Bool.and_eq_true] at h
    rcases List.mem_cons.mp hd with e | hd
    · rw [e]; exact h.1
    · exact plain_mem h.2 d hd
/-- the values beside what they stand for -/
theorem pairs_rel {R : Value → V × D → Prop} : ∀ {xs : List V} {ds : List D} {us : List Value}, Vals xs us → xs.length = ds.length → (∀ x u d, (x, d) ∈ xs.zip ds → RelV x u → R u (x, d)) → EachIs R us (xs.zip ds)
  | _, [], _, .nil, _, _ => .nil
  | _, d :: ds, _, .cons r t, hl, h => .cons (h _ _ _ List.mem_cons_self r) (pairs_rel t (Nat.succ.inj hl) fun x u d hm => h x u d (List.mem_cons_of_mem _ hm))
theorem rel_vals : ∀ {ps : List (V × D)} {us : List Value}, EachIs (fun u p => RelV p.1 u) us ps → Vals (ps.map (·.1)) us
  | _, _, .nil => .nil
  | _, _, .cons r t => .cons r (rel_vals t)
theorem zip_rds : ∀ {xs : List V} {ds : List D}, RDs P w K mg G xs ds → ∀ p ∈ xs.zip ds, RD P w K mg G p.1 p.2
  | _, _, .nil, _, h => nomatch h
  | _, _, .cons r t, p, h => by
    rcases List.mem_cons.mp h with e | h
    · rw [e]; exact r
    · exact zip_rds t p h
theorem rds_of_all : ∀ {ps : List (V × D)}, (∀ p ∈ ps, RD P w K mg G p.1 p.2) → RDs P w K mg G (ps.map (·.1)) (ps.map (·.2))
  | [], _ => .nil
  | p :: ps, h => .cons (h p List.mem_cons_self) (rds_of_all fun q hq => h q (List.mem_cons_of_mem _ hq))
/-- sorted's own list.sort: the new list -/
theorem sort_fin {X : Cx} {A : Around} {pins : List (Addr × Obj)} {σ : L2.St} {s : Shared} {vs : List Value} {xs : List V} {ds es : List D} {Q : VK} (hA : A.units ≤ X.A.units + 1) (hu : X.A.units + 100 < cLine) (I : L2.Inv X pins σ H s) (rv : Vals xs vs) (sb : Sub G H) (r : RDs X.prog X.w X.K mg G xs ds)
    (hs : sortD ds = some es) (q : ∀ p ys, H p = none → RDs X.prog X.w X.K mg G ys es → Q (.ref p) (upd H p (.lst ys))) :
    wpAny (model X.prog X.w) A (call (.builtin "list.sort") [.ref s.heap.objs.size]) (fun _ s' => EP X pins σ Q (.ref s.heap.objs.size) s') X.xe { s with heap := s.heap.push (seqObj "list" vs.toArray 0) } := by
  obtain ⟨rfl, hl, hp, hal0, hk0⟩ := sortD_some hs
  have ho : ({ s with heap := s.heap.push (seqObj "list" vs.toArray 0) } : Shared).heap.get? s.heap.objs.size = some (seqObj "list" vs.toArray 0) := Heap.get?_push_size _ rfl
  have hz := sizeLine_eq
  have hlim : lim = 16777216 := rfl
  have lx : xs.length = ds.length := r.length
  have lv : xs.length = vs.length := rv.length
  have hal : AllAlike ((xs.zip ds).map fun p => p.2.py) := fun d hd d' hd' => by
    obtain ⟨p, hp1, rfl⟩ := List.mem_map.mp hd
    obtain ⟨p', hp2, rfl⟩ := List.mem_map.mp hd'
    exact hal0 _ (List.of_mem_zip hp1).2 _ (List.of_mem_zip hp2).2
  have hk : Sortable ((xs.zip ds).map fun p => p.2.py) := by
    rcases hk0 with hk0 | hk0
    · refine .inl fun d hd => ?_
      obtain ⟨p, hp1, rfl⟩ := List.mem_map.mp hd
      have := List.all_eq_true.mp hk0 _ (List.of_mem_zip hp1).2
      cases e : p.2 with
      | tup l =>
        rw [e] at this
        cases l with
        | nil => cases this
        | cons a b => exact ⟨a.py, pys b, rfl⟩
      | _ => rw [e] at this; cases this
    · refine .inr fun d hd => ?_
      obtain ⟨p, hp1, rfl⟩ := List.mem_map.mp hd
      have := List.all_eq_true.mp hk0 _ (List.of_mem_zip hp1).2
      cases e : p.2 with
      | int l => exact ⟨(fun z => nomatch z), fun _ z => nomatch z⟩
      | _ => rw [e] at this; cases this
  have e1 : EachIs (fun u (p : V × D) => RelV p.1 u) vs (xs.zip ds) := pairs_rel rv lx fun x u d _ h => h
  have er : EachIs (fun u (p : V × D) => ∃ as, Reads (sortingHeap (s.heap.push (seqObj "list" vs.toArray 0)) s.heap.objs.size vs) u p.2.py as) vs (xs.zip ds) := pairs_rel rv lx fun x u d hm h => by
    have hd : RD X.prog X.w X.K mg G x d := zip_rds r _ hm
    obtain ⟨as, rr⟩ := Dp.reads I d.py x u (RD.dp sb 20 (plain_mem hp d (List.of_mem_zip hm).2) hd) h
    exact ⟨as, PyProof.Rows.Reads.keeps (fun b o k => sortingHeap_old (Nat.ne_of_lt (Heap.lt_size k)) (Heap.get?_push_of_some _ k)) rr⟩
  have hub : ∀ d, d ∈ (xs.zip ds).map (fun p => p.2.py) → A.in1.units + d.depth < cLine := fun d hd => by
    obtain ⟨p, hp1, rfl⟩ := List.mem_map.mp hd
    have h20 := plain_shaped (d := p.2) (plain_mem hp p.2 (List.of_mem_zip hp1).2)
    have hd2 : p.2.py.depth ≤ 64 := SeqAt.depth_of_shaped h20
    show A.units + 1 + p.2.py.depth < cLine
    omega
  refine wpAny_call_entry PyProof.Rows.slot_list_sort ⟨_, ho, rfl⟩ PyProof.Rows.entry_list_sort (list_sort_vals (κ := dataKind (sortingHeap (s.heap.push (seqObj "list" vs.toArray 0)) s.heap.objs.size vs) ((xs.zip ds).map fun p => p.2.py)) ho
    (SortsAt.data (s := { s with heap := sortingHeap (s.heap.push (seqObj "list" vs.toArray 0)) s.heap.objs.size vs }) (each_map (fun p : V × D => p.2.py) er) hal hk hub) (by omega) ⟨.none, rfl, ?_⟩) (PyProof.Rows.args_list_sort _)
  have eo := sortVals_data (enc := fun p : V × D => p.2.py) false e1 er hal
  have rvo := rel_vals eo
  have hperm := List.mergeSort_perm (xs.zip ds) (dataLe false fun p : V × D => p.2.py)
  have hrd : RDs X.prog X.w X.K mg G (((xs.zip ds).mergeSort (dataLe false fun p : V × D => p.2.py)).map (·.1)) (ds.mergeSort leD) := by
    have z := rds_of_all (P := X.prog) (w := X.w) (K := X.K) (mg := mg) (G := G) (ps := (xs.zip ds).mergeSort (dataLe false fun p : V × D => p.2.py)) fun p hp => zip_rds r p (hperm.mem_iff.mp hp)
    have e2 : ((xs.zip ds).mergeSort (dataLe false fun p : V × D => p.2.py)).map (·.2) = ds.mergeSort leD := by
      rw [List.map_mergeSort (s := leD) (f := fun p : V × D => p.2) fun a _ b _ => by rw [dataLe_eq]; rfl]
      rw [List.map_snd_zip (by omega)]
    rw [e2] at z
    exact z
  obtain ⟨ep, he⟩ := PyProof.Rows.sortedHeap_at (out := (sortVals (dataKind (sortingHeap (s.heap.push (seqObj "list" vs.toArray 0)) s.heap.objs.size vs) ((xs.zip ds).map fun p => p.2.py)) false vs vs).toArray) ho
  refine ⟨.ref s.heap.objs.size, _, I.laid (a := s.heap.objs.size) (o := .lst (((xs.zip ds).mergeSort (dataLe false fun p : V × D => p.2.py)).map (·.1))) (t' := s.toks) (fun b o k => ?_) (Nat.le_refl _) ⟨?_, _, ep, rvo, he⟩, rfl, q _ _ (I.hok.fresh (Nat.le_refl _)) hrd⟩
  · have hlt := Heap.lt_size k
    exact (PyProof.Rows.sortedHeap_old (Nat.ne_of_lt hlt) (by rw [size_push']; exact Nat.lt_succ_of_lt hlt)).trans (Heap.get?_push_of_some _ k)
  · rw [List.length_map, hperm.length_eq, List.length_zip]
    omega
variable (P w K mg) in
/-- sorted(x) -/
def rSrt : List V → Hp → VK → Prop := fun xs H Q => ∃ (G : Gh) (x : V) (d : D) (ds es : List D), xs = [x] ∧ Sub G H ∧ Vw P w K mg G H x d ∧ itemsQ d = some ds ∧ sortD ds = some es ∧ ∀ v H', Rs P w K mg G H (.l es) v H' → Q v H'
theorem keys_rds : ∀ {xs : List (NestedKey × Addr × Value)} {ks vs : List D}, RKs P w K mg G xs ks vs → RDs P w K mg G (xs.map fun x => V.ref x.2.1) ks
  | _, _, _, .nil => .nil
  | _, _, _, .cons _ h _ _ r => .cons h (keys_rds r)
theorem ref_vals : ∀ as : List (NestedKey × Addr × Value), Vals (as.map fun x => V.ref x.2.1) (as.map fun x => Value.ref x.2.1)
  | [] => .nil
  | _ :: r => .cons rfl (ref_vals r)
theorem biSorted {X : Cx} (hP : X.prog = P) (hw : X.w = w) (hK : X.K = K) (hc : X.calm = true) (hu : X.A.units + 100 < cLine) : CallR X (.builtin "sorted") (rSrt P w K mg) := by
  subst hP hw hK
  intro pins s σ H xs us Q I rs h
  obtain ⟨G, x, d, ds, es, rfl, sb, hv, hi, hsd, q⟩ := h
  obtain ⟨u, rfl, rx⟩ := vals1 rs
  have hlen := (sortD_some hsd).2.1
  have hlim : lim = 16777216 := rfl
  have hz := sizeLine_eq
  -- what is collected
  have col : ∀ (R : List Value → Shared → Prop), (∀ (h' : Heap) (tk : Nat) (vs : List Value) (ys : List V), (∀ b o, s.heap.get? b = some o → h'.get? b = some o) → Vals ys vs → RDs X.prog X.w X.K mg G ys ds → R vs { s with heap := h', toks := tk }) → wpAny (model X.prog X.w) X.A.in1 (collect u) R X.xe s := by
    intro R k
    cases d with
    | tup l =>
      cases hi
      obtain ⟨a, ys, rfl, h1, _, r1⟩ := hv.tuple sb
      cases rx
      obtain ⟨vs, r2, ⟨o, ho, hcl, n, hd⟩, hzz⟩ := I.tuple h1
      have lx := r2.length
      have ly := r1.length
      refine wpAny_collect_seq a (.inr rfl) ho hcl hd (fun h' hk => ?_) (by rw [List.size_toArray]; omega)
      exact k h' s.toks vs ys hk r2 r1
    | lst l =>
      cases hi
      obtain ⟨a, ys, rfl, h1, r1⟩ := hv.list sb
      cases rx
      obtain ⟨vs, r2, ⟨o, n, ho, hcl, _, hd⟩, hzz⟩ := I.list h1
      have lx := r2.length
      have ly := r1.length
      refine wpAny_collect_seq a (.inl rfl) ho hcl hd (fun h' hk => ?_) (by rw [List.size_toArray]; omega)
      exact k h' s.toks vs ys hk r2 r1
    | dic ks vv =>
      cases hi
      obtain ⟨a, ys, rfl, h1, r1⟩ := hv.dict sb
      cases rx
      obtain ⟨⟨g1, g2, o, es', ep, e1, e2, e3, e4, e5⟩, _, _⟩ := I.hok a _ h1
      have l1 : es'.size = ys.length := size_of_entries e4
      refine kdu_collect (A := X.A.in1) (kdl_raw g1 e2 e3) (I.ok.hd hc) e1 (by omega) fun h' tk acc hk hacc => ?_
      have ea : acc.toList = ys.map fun x => Value.ref x.2.1 := by
        apply List.ext_getElem?
        intro j
        rw [List.getElem?_map]
        cases hj : acc.toList[j]? with
        | none =>
          have z := List.getElem?_eq_none_iff.mp hj
          rw [Array.length_toList, hacc.1] at z
          rw [List.getElem?_eq_none (by omega)]
          rfl
        | some v =>
          obtain ⟨en, hen, hv'⟩ := hacc.2 j v (by rw [← Array.getElem?_toList]; exact hj)
          have qe := entry_at e4 j
          rw [hen] at qe
          cases hb : ys[j]? with
          | none => rw [hb] at qe; exact nomatch (show some en = none from qe)
          | some b =>
            rw [hb] at qe
            have e6 : en = entryOfKey (nestedKind X.prog X.w) b := Option.some.inj qe
            rw [hv', e6]
            rfl
      rw [ea]
      exact k h' tk _ _ hk (ref_vals ys) (keys_rds r1)
    | _ => cases hi
  refine PySem.Calls.call_function_entry PyProof.Rows.kind_sorted PyProof.Rows.plain_sorted PyProof.Rows.entry_sorted (PyProof.Rows.args_sorted1 _) ?_
  unfold Builtin.«sorted»
  refine wpAny_bind (m := checkCount "sorted" 1 1 _) (wpAny_pure ?_)
  refine wpAny_bind (col _ fun h' tk vs ys hk rv rd => ?_)
  have ll : vs.length = ds.length := by rw [← rv.length, rd.length]
  refine wpAny_bind (wpAny_newList ?_ (by rw [ll]; omega))
  have I1 : L2.Inv X pins σ H { s with heap := h', toks := tk } := I.kept hk
  refine wpAny_bind (wpAny_holding (thn (sort_fin (A := X.A.in1) (s := { s with heap := h', toks := tk }) (Nat.le_refl _) hu I1 rv sb rd hsd fun p zs hp hr => q _ _ (.lst hp hr)) fun _ s' hf => ?_))
  exact wpAny_pure ⟨_, rfl, hf⟩
theorem biSrt {X : Cx} (hP : X.prog = P) (hw : X.w = w) (hK : X.K = K) (hc : X.calm = true) (hu : X.A.units + 100 < cLine) : CallR X (.builtin "sorted") (rBi P w K mg .sorted) := by
  refine CallR.imp (biSorted (mg := mg) hP hw hK hc hu) fun xs H Q h => ?_
  obtain ⟨G, ds0, r, sb, vv, e, q⟩ := h
  obtain ⟨d, rfl⟩ := bi1 (by decide) e
  obtain ⟨x, rfl, v1⟩ := vv.one
  simp only [biD] at e
  cases e1 : itemsQ d with
  | none => rw [e1] at e; cases e
  | some l =>
    rw [e1] at e
    simp only [Option.bind_some] at e
    cases e2 : sortD l with
    | none => rw [e2] at e; cases e
    | some es =>
      rw [e2] at e
      cases e
      exact ⟨G, x, d, l, es, rfl, sb, v1, e1, e2, q⟩
end
end Pah
end
section
set_option maxHeartbeats 200000
/-! Snd9: further readings of expressions; of what is walked. -/
namespace Pah
open PySem PySem.Spec PyProof.Rows L2
section
variable {P : Program} {w : World} {K : PySem.W.Frag} {mg : Str → Option Value} {B : Ba} {G G' : Gh} {s : S} {σ σ' : L2.St} {H H' : Hp} {E : XK} {Φ : Phi} {X : Cx} {n : Nat} {c : Ck}
theorem rdE_bin {o : BOp} {a b : Ex} {Q : VK} (h : rdE P w K mg Φ E (.bin o a b) σ H Q) : tOp (rBin P w K mg o) (rdB P w K mg Φ E a) (rdB P w K mg Φ E b) σ H Q :=
  rd_op (g := fun xy _ => binop o xy.1 xy.2) (fun _ => rfl) (fun G s1 d1 d2 v1 v2 H1 B rv Q R h1 h2 e k => ⟨G, d1, d2, rv, R.sub, h1, h2, e, k⟩) h
theorem rdE_cmp {o : COp} {a b : Ex} {Q : VK} (h : rdE P w K mg Φ E (.cmp o a b) σ H Q) : tOp (rCmp P w K mg o) (rdB P w K mg Φ E a) (rdB P w K mg Φ E b) σ H Q := by
  refine rd_op (g := fun xy _ => (cmpop o xy.1 xy.2).map fun b => .v (.bl b)) (fun _ => rfl) (fun G s1 d1 d2 v1 v2 H1 B rv Q R h1 h2 e k => ?_) h
  cases e1 : cmpop o d1 d2 with
  | none => rw [e1] at e; cases e
  | some t =>
    rw [e1] at e
    cases e
    exact ⟨G, d1, d2, t, R.sub, h1, h2, e1, k _ _ (.same (.bl t))⟩
theorem rdE_idx {a b : Ex} {Q : VK} (h : rdE P w K mg Φ E (.idx a b) σ H Q) : tOp (rIdx P w K mg) (rdB P w K mg Φ E a) (rdB P w K mg Φ E b) σ H Q := by
  refine rd_op (g := fun xy s => (idxD (deref s.mem xy.1) xy.2).map .v) (fun _ => rfl) (fun G s1 d1 d2 v1 v2 H1 B rv Q R h1 h2 e k => ?_) h
  cases e1 : idxD (deref s1.mem d1) d2 with
  | none => rw [e1] at e; cases e
  | some t =>
    rw [e1] at e
    cases e
    exact ⟨G, _, d2, t, R.sub, h1.deref R.m, h2, e1, fun v hv => k _ _ (.same hv)⟩
theorem rdE_neg {a : Ex} {Q : VK} (h : rdE P w K mg Φ E (.neg a) σ H Q) : tUn (rU fun i => .int (-i)) (rdE P w K mg Φ E a) σ H Q := by
  obtain ⟨B, G, s, R, q⟩ := h
  refine rdE_step R q fun r s1 v H1 G1 l1 R1 hr al q1 => ?_
  match r, q1, hr with
  | .v (.int i), q1, hr =>
    have hr : RD P w K mg G1 v (.int i) := hr
    exact ⟨i, hr.int_inv, q1 _ H1 G1 l1 R1 (.int (-i)) fun z => nomatch z⟩
theorem rdE_cmp2 {o1 o2 : COp} {a b d : Ex} {Q : VK} (h : rdE P w K mg Φ E (.cmp2 o1 o2 a b d) σ H Q) : tChain (rCmp P w K mg o1) (rCmp P w K mg o2) (rdE P w K mg Φ E a) (rdE P w K mg Φ E b) (rdE P w K mg Φ E d) σ H Q := by
  obtain ⟨B, G, s, R, q⟩ := h
  refine rdE_step R q fun x s1 v1 H1 G1 l1 R1 hr1 al1 q1 => ?_
  obtain ⟨G1', l1', R1', hd1⟩ := R1.share hr1 al1
  refine rdE_step R1' (pO_le q1 l1') fun y s2 v2 H2 G2 l2 R2 hr2 al2 q2 => ?_
  match x, y, q2, hd1, hr2 with
  | .v (.int i), .v (.int j), q2, hd1, hr2 =>
    have hr2 : RD P w K mg G2 v2 (.int j) := hr2
    have hd1 : RD P w K mg G2 v1 (.int i) := RD.le l2 hd1
    cases e1 : cmpop o1 (.int i) (.int j) with
    | none => simp only [e1, of_none, bind_stuck] at q2; exact q2.elim
    | some t =>
      simp only [e1, of_some, bind_ok] at q2
      refine ⟨G2, _, _, t, R2.sub, .inl hd1, .inl hr2, e1, t, rfl, ?_⟩
      have ll := l1.trans (l1'.trans l2)
      cases t with
      | false =>
        rw [if_neg Bool.false_ne_true] at q2 ⊢
        exact q2 _ H2 G2 ll R2 (.bl false) fun z => nomatch z
      | true =>
        rw [if_pos rfl] at q2 ⊢
        refine rdE_step R2 q2 fun z s3 v3 H3 G3 l3 R3 hr3 al3 q3 => ?_
        match z, q3, hr3 with
        | .v (.int k), q3, hr3 =>
          have hr3 : RD P w K mg G3 v3 (.int k) := hr3
          cases e2 : cmpop o2 (.int j) (.int k) with
          | none => simp only [e2, Option.map_none, of_none] at q3; exact q3.elim
          | some t2 =>
            simp only [e2, Option.map_some, of_some] at q3
            exact ⟨G3, _, _, t2, R3.sub, .inl (RD.le l3 hr2), .inl hr3, e2, q3 _ H3 G3 (ll.trans l3) R3 (.bl t2) fun z => nomatch z⟩
theorem Vw.non_iff {v : V} {d : D} (h : Vw P w K mg G H v d) : (v = .non) ↔ (d = .non) := by
  rcases h with h | ⟨a, vs, ds, rfl, rfl, _⟩ | ⟨a, xs, ks, vs, rfl, rfl, _⟩
  · cases h <;> simp
  · simp
  · simp
theorem rdE_isnon {ng : Bool} {a : Ex} {Q : VK} (h : rdE P w K mg Φ E (.isnon ng a) σ H Q) : rdB P w K mg Φ E a σ H fun x H1 => Q (.bl (if ng = true then !decide (x = .non) else decide (x = .non))) H1 := by
  obtain ⟨B, G, s, R, q⟩ := h
  refine rdB_step R q fun d s1 v H1 G1 l1 R1 hv q1 => ?_
  have hn := hv.non_iff
  by_cases hd : d = .non
  · subst hd
    have hv2 := hn.mpr rfl
    have q1 : kV P w K mg B G σ Q (.v (.bl (!ng))) s1 := q1
    have e : (if ng = true then !decide (v = V.non) else decide (v = V.non)) = !ng := by cases ng <;> simp [hv2]
    rw [e]
    exact q1 _ H1 G1 l1 R1 (.bl _) fun z => nomatch z
  · have hv2 : v ≠ .non := fun z => hd (hn.mp z)
    have q1 : kV P w K mg B G σ Q (.v (.bl ng)) s1 := by
      cases d <;> first | exact q1 | exact absurd rfl hd
    have e : (if ng = true then !decide (v = V.non) else decide (v = V.non)) = ng := by cases ng <;> simp [hv2]
    rw [e]
    exact q1 _ H1 G1 l1 R1 (.bl _) fun z => nomatch z
theorem rdE_isty {t : Ty} {a : Ex} {Q : VK} (h : rdE P w K mg Φ E (.isty t a) σ H Q) : tCB (fun xs H Q => ∃ (G : Gh) (x : V) (d : D) (b : Bool), xs = [x, .ty (tyS t)] ∧ Sub G H ∧ Vw P w K mg G H x d ∧ isTy t d = some b ∧ Q (.bl b) H)
    (tCons (rdB P w K mg Φ E a) (tCons (tC (.ty (tyS t))) tNil)) σ H Q := by
  obtain ⟨B, G, s, R, q⟩ := h
  refine rdB_step R q fun d s1 v H1 G1 l1 R1 hv q1 => ?_
  cases e : isTy t d with
  | none => simp only [e, Option.map_none, of_none] at q1; exact q1.elim
  | some b =>
    simp only [e, Option.map_some, of_some] at q1
    exact ⟨G1, v, d, b, rfl, R1.sub, hv, e, q1 _ H1 G1 l1 R1 (.bl b) fun z => nomatch z⟩
theorem kept_get {env : Sl} {i : Nat} {r : RV} (h : (env.map keptR)[i]? = some (some r)) : ∃ d, r = .v d ∧ env[i]? = some (some (.v d)) := by
  rw [List.getElem?_map] at h
  cases e : env[i]? with
  | none => rw [e] at h; cases h
  | some o =>
    rw [e] at h
    cases o with
    | none => simp [keptR] at h
    | some r' =>
      cases r' with
      | v d =>
        simp only [Option.map_some, keptR, Option.some.injEq] at h
        exact ⟨d, h.symm, rfl⟩
      | _ => simp [keptR] at h
/-- the call of a def -/
theorem call_end {f : Str} {np : Nat} {ds : List D} {s1 : S} {vs : List V} {Q : VK} (R : SR P w K mg B G s1 σ H) (hr : RDs P w K mg G vs ds) (hl : ds.length = np) (l : G'.Le G) (q : pO P w K mg B E G (callOut (Φ.call f ds s1.mem) s1.env) (kV P w K mg B G' σ Q)) :
    spF P w K mg Φ f np vs H Q E := by
  refine ⟨G, s1.mem, ds, hr, R.m.entry, hl, ?_⟩
  cases e : Φ.call f ds s1.mem with
  | stuck => rw [e] at q; exact q
  | exn cc p m =>
    rw [e] at q
    exact fun H' G' l' N => q H' G' l' (R.m.leave N)
  | ok r s2 =>
    rw [e] at q
    intro v H' G1 l' N hr'
    have q : kV P w K mg B G' σ Q r { env := s1.env, mem := s2.mem } := q
    refine q v H' G1 (l.trans l') (R.leave N) (hr'.own fun a o ow ha => ⟨⟨ow.I, ow.ρ, ?_, ?_⟩, ha⟩) fun hf i ri e1 hf1 z => ?_
    · have : H a = none := ow.H0
      exact (R.m.fresh this).2.2
    · have : H a = none := ow.H0
      exact fun q => R.m.wrH a q this
    · obtain ⟨u, hu, hru⟩ := R.slot i ri e1
      rw [z] at hu
      cases hu
      obtain ⟨a, o, rfl, ha, _⟩ := hru.there hf1
      obtain ⟨b, o', hb, _, ow⟩ := hr'.there hf
      cases hb
      have : H a = none := ow.H0
      rw [ha] at this
      cases this
theorem rdE_call {f : Str} {np : Nat} {es : Exs} {Q : VK} (hn : ∀ (s s1 : S) (ds : List D), evEs Φ es s = .ok ds s1 → ds.length = np) (h : rdE P w K mg Φ E (.call f es) σ H Q) : tCall (spF P w K mg Φ f np) [] E (rdEs P w K mg Φ E es) σ H Q := by
  obtain ⟨B, G, s, R, q⟩ := h
  have q : pO P w K mg B E G ((evEs Φ es s).bind fun ds s => callOut (Φ.call f ds s.mem) s.env) (kV P w K mg B G σ Q) := q
  refine ⟨B, G, s, R, ?_⟩
  cases e : evEs Φ es s with
  | stuck => rw [e] at q; exact q
  | exn cc p m => rw [e] at q; exact q
  | ok ds s1 =>
    rw [e] at q
    intro vs H1 G1 l1 R1 hr
    rw [List.append_nil]
    exact call_end R1 hr (hn s s1 ds e) l1 (pO_le q l1)
/-- the call of what a name holds -/
theorem rdE_callV {i : Nat} {es : Exs} {Q : VK} (h : rdE P w K mg Φ E (.callV i es) σ H Q) : ∃ (f : Str) (a : Addr), σ[i]? = some (some (.ref a)) ∧ mg f = some (.ref a) ∧ PySem.W.keepIn K (.ref a) = true ∧
    rdEs P w K mg Φ E es σ H fun vs H1 => ∃ np, (∃ ds m, Φ.call f ds m ≠ .stuck ∧ ds.length = np) ∧ spF P w K mg Φ f np vs H1 Q E := by
  obtain ⟨B, G, s, R, q⟩ := h
  have q : pO P w K mg B E G ((lookV i s).bind fun f s => match f with
    | .fn f => (evEs Φ es s).bind fun ds s => callOut (Φ.call f ds s.mem) s.env
    | _ => .stuck) (kV P w K mg B G σ Q) := q
  obtain ⟨r, e1, q1⟩ := lookV_bind q
  obtain ⟨v, hv, hr⟩ := R.slot i r e1
  cases hd : r.d with
  | fn f =>
    rw [hd] at q1
    cases r with
    | l ds => cases hd
    | m ks vs => cases hd
    | v d =>
      have hd : d = .fn f := hd
      subst hd
      have hr : RD P w K mg G v (.fn f) := hr
      cases hr with
      | fn h1 h2 =>
        refine ⟨f, _, hv, h1, h2, B, G, s, R, ?_⟩
        have q1 : pO P w K mg B E G ((evEs Φ es s).bind fun ds s => callOut (Φ.call f ds s.mem) s.env) (kV P w K mg B G σ Q) := q1
        cases e : evEs Φ es s with
        | stuck => rw [e] at q1; exact q1
        | exn cc p m => rw [e] at q1; exact q1
        | ok ds s1 =>
          rw [e] at q1
          intro vs H1 G1 l1 R1 hrs
          refine ⟨ds.length, ⟨ds, s1.mem, fun z => ?_, rfl⟩, call_end R1 hrs rfl l1 (pO_le q1 l1)⟩
          have q1 : pO P w K mg B E G (callOut (Φ.call f ds s1.mem) s1.env) (kV P w K mg B G σ Q) := q1
          rw [z] at q1
          exact q1
  | _ =>
    rw [hd] at q1
    exact q1.elim
theorem rdE_refd {a : Ex} {Q : VK} (h : rdE P w K mg Φ E (.refd a) σ H Q) : tLamN (Tk K) (TTr K mg) (fun E' => rdE P w K mg Φ E' a) σ H Q := by
  obtain ⟨B, G, s, R, q⟩ := h
  refine ⟨R.m.tab, fun H1 eN th T1 => ⟨B, G, s, R.grow eN th T1, ?_⟩⟩
  have q : pO P w K mg B E G (match evE Φ a s with
    | .ok _ s' => .ok (.v (.str "")) s'
    | .exn c .non m => match errW c with
      | some w => .ok (.v (.str w)) ⟨s.env.map keptR, m⟩
      | none => .stuck
    | _ => .stuck) (kV P w K mg B G σ Q) := q
  cases e : evE Φ a s with
  | stuck => rw [e] at q; exact q
  | ok r s1 =>
    rw [e] at q
    have q : kV P w K mg B G σ Q (.v (.str "")) s1 := q
    exact fun v H' G' l R' hr al => q (.str "") H' G' l R' (.str _) fun z => nomatch z
  | exn c p m =>
    rw [e] at q
    cases p with
    | non =>
      cases ew : errW c with
      | none =>
        have q : pO P w K mg B E G (match errW c with
          | some w => .ok (.v (.str w)) ⟨s.env.map keptR, m⟩
          | none => .stuck) (kV P w K mg B G σ Q) := q
        rw [ew] at q
        exact q.elim
      | some z =>
        have q : pO P w K mg B E G (match errW c with
          | some w => .ok (.v (.str w)) ⟨s.env.map keptR, m⟩
          | none => .stuck) (kV P w K mg B G σ Q) := q
        rw [ew] at q
        have q : kV P w K mg B G σ Q (.v (.str z)) ⟨s.env.map keptR, m⟩ := q
        intro H' G' l M Ca hC
        refine ⟨c, Ca, z, hC, rfl, rfl, ew, M.tab, fun H2 x1 x2 x3 => q (.str z) H2 G' l ⟨M.grow x1 x2 x3, by simpa using R.len, fun i r ei => ?_, fun i j ri rj v _ ei _ fi _ => ?_⟩ (.str _) fun z => nomatch z⟩
        · obtain ⟨d, rfl, e0⟩ := kept_get ei
          obtain ⟨v, hv, hr⟩ := R.slot i _ e0
          exact ⟨v, hv, RD.le l hr⟩
        · obtain ⟨d, rfl, _⟩ := kept_get ei
          cases fi
    | _ => exact q.elim
def Exs.len : Exs → Nat
  | .nil => 0
  | .cons _ es => es.len + 1
theorem evEs_len : ∀ {es : Exs} {s s1 : S} {ds : List D}, evEs Φ es s = .ok ds s1 → ds.length = es.len
  | .nil, _, _, _, h => by cases h; rfl
  | .cons e es, s, s1, ds, h => by
    have h : ((evE Φ e s).bind fun x s => (evEs Φ es s).bind fun xs s => .ok (x.d :: xs) s) = .ok ds s1 := h
    obtain ⟨x, s2, _, h⟩ := bind_inv h
    obtain ⟨xs, s3, e2, h⟩ := bind_inv h
    cases h
    show xs.length + 1 = es.len + 1
    rw [evEs_len e2]
theorem chkEs_len : ∀ {es : Exs} {xs : List Expr}, chkEs c es xs = true → xs.length = es.len
  | .nil, [], _ => rfl
  | .cons e es, x :: xs, h => by
    simp only [chkEs, Bool.and_eq_true] at h
    show xs.length + 1 = es.len + 1
    rw [chkEs_len h.2]
  | .nil, _ :: _, h => by simp [chkEs] at h
  | .cons _ _, [], h => by simp [chkEs] at h
theorem chkEs_star : ∀ {es : Exs} {xs : List Expr}, chkEs c es xs = true → xs.all (fun e => !star e) = true
  | .nil, [], _ => rfl
  | .cons e es, x :: xs, h => by
    simp only [chkEs, Bool.and_eq_true, Bool.not_eq_true'] at h
    simp only [List.all_cons, Bool.and_eq_true, Bool.not_eq_true']
    exact ⟨h.1.1, chkEs_star h.2⟩
  | .nil, _ :: _, h => by simp [chkEs] at h
  | .cons _ _, [], h => by simp [chkEs] at h
/-! built-in functions -/
theorem bi_ok (f : BI) (hf : biFn f = true) (hh : (!c.hot || biHot f) = true) (C : CtxOk P w K mg Φ n X c E) : CallR X (biVal f) (rBi P w K mg f) := by
  have cool : biHot f = false → c.hot = false := fun e => by
    rw [e, Bool.or_false] at hh
    simpa using hh
  cases f with
  | len => exact biLen C.eP C.ew C.eK C.units
  | all => exact biAll C.eK (C.calm (cool rfl))
  | any => exact biAny C.eK (C.calm (cool rfl))
  | sum => exact biSum C.eK (C.calm (cool rfl))
  | list => exact biList C.eK
  | tuple => exact biTuple C.eK
  | int => exact biInt
  | max => exact biMax (C.calm (cool rfl))
  | min => exact biMin (C.calm (cool rfl))
  | sorted => exact biSrt C.eP C.ew C.eK (C.calm (cool rfl)) (by have := C.un; omega)
  | sortedset => cases hf
  | listrange => cases hf
  | dict => exact biDict C.eK (C.calm (cool rfl))
theorem bi_boot (f : BI) (hf : biFn f = true) : bootBuiltins (biName f) = some (biVal f) := by
  cases f <;> first | (cases hf; done) | (show bootBuiltins _ = _; decide +kernel)
theorem bi_name (f : BI) : biName f ∈ bNames := by cases f <;> decide
theorem bi_names (f : BI) : biName f ≠ "__name__" ∧ (biName f == ("__debug__" : Str)) = false := by cases f <;> exact ⟨by decide, by decide⟩
theorem pe_bi {f : BI} {e : Expr} {es : List Expr} {t : TA} {p pos : Pos} (hf : biFn f = true) (hh : (!c.hot || biHot f) = true) (C : CtxOk P w K mg Φ n X c E) (hg : Gl X (biName f)) (ha : PA X (e :: es) t) (he : star e = false) (hes : es.all (fun e => !star e) = true) :
    PE X (.Call (.Name (biName f) p) (e :: es) [] pos) (tCB (rBi P w K mg f) t) := by
  have hm : X.mg (biName f) = none := by rw [C.em]; exact C.blt _ (bi_name f)
  have hb := bi_boot f hf
  have hc := bi_ok f hf hh C
  have h1 := (bi_names f).1
  have h2 := (bi_names f).2
  cases f <;> first
    | (cases hf; done)
    | exact pe_callB hc hg hm hb ha h1 h2 (star_each he) (star_all hes pos)
    | exact pe_callTy hc hg hm hb ha h1 h2 (star_each he) (star_all hes pos)
theorem rdE_bi1 {f : BI} {a : Ex} {Q : VK} (h : rdE P w K mg Φ E (.bi f (.cons a .nil)) σ H Q) : tCB (rBi P w K mg f) (tCons (rdB P w K mg Φ E a) tNil) σ H Q := by
  obtain ⟨B, G, s, R, q⟩ := h
  have q : pO P w K mg B E G (((asB a (evE Φ a) s).bind fun x s => .ok [x] s).bind fun ds s => Out.of (biD f (ds.map (deref s.mem))) s) (kV P w K mg B G σ Q) := q
  rw [bind_assoc] at q
  refine rdB_step R q fun d s1 v H1 G1 l1 R1 hv q1 => ?_
  simp only [bind_ok, List.map_cons, List.map_nil] at q1
  cases e : biD f [deref s1.mem d] with
  | none => rw [e] at q1; exact q1.elim
  | some r =>
    rw [e] at q1
    exact ⟨G1, _, r, R1.sub, .cons (hv.deref R1.m) .nil, e, fun v' H' rs => kV_res q1 l1 R1 rs⟩
theorem vws_of {m : Mm} (M : SM P w K mg B G m H) : ∀ {vs : List V} {ds : List D}, RDs P w K mg G vs ds → Vws P w K mg G H vs (ds.map (deref m))
  | _, _, .nil => .nil
  | _, _, .cons h r => .cons (Vw.deref M (.inl h)) (vws_of M r)
theorem rdE_bi2 {f : BI} {a b : Ex} {es : Exs} {Q : VK} (h : rdE P w K mg Φ E (.bi f (.cons a (.cons b es))) σ H Q) : tCB (rBi P w K mg f) (tCons (rdE P w K mg Φ E a) (rdEs P w K mg Φ E (.cons b es))) σ H Q := by
  obtain ⟨B, G, s, R, q⟩ := h
  have q : pO P w K mg B E G (((evE Φ a s).bind fun x s => (evEs Φ (.cons b es) s).bind fun xs s => .ok (x.d :: xs) s).bind fun ds s => Out.of (biD f (ds.map (deref s.mem))) s) (kV P w K mg B G σ Q) := q
  rw [bind_assoc] at q
  refine rdE_stepD R q fun r s1 v H1 G1 l1 R1 hd q1 => ?_
  rw [bind_assoc] at q1
  refine rdEs_step R1 q1 fun ds s2 vs H2 G2 l2 R2 hds q2 => ?_
  simp only [bind_ok] at q2
  cases e : biD f ((r.d :: ds).map (deref s2.mem)) with
  | none => rw [e] at q2; exact q2.elim
  | some r' =>
    rw [e] at q2
    exact ⟨G2, _, r', R2.sub, vws_of R2.m (.cons (RD.le l2 hd) hds), e, fun v' H' rs => kV_res q2 (l1.trans l2) R2 rs⟩
theorem rdE_listrange {a : Ex} {Q : VK} (h : rdE P w K mg Φ E (.bi .listrange (.cons a .nil)) σ H Q) : tLstRg (tRg1 (rdB P w K mg Φ E a)) σ H Q := by
  obtain ⟨B, G, s, R, q⟩ := h
  have q : pO P w K mg B E G (((asB a (evE Φ a) s).bind fun x s => .ok [x] s).bind fun ds s => Out.of (biD .listrange (ds.map (deref s.mem))) s) (kV P w K mg B G σ Q) := q
  rw [bind_assoc] at q
  refine rdB_step R q fun d s1 v H1 G1 l1 R1 hv q1 => ?_
  simp only [bind_ok, List.map_cons, List.map_nil] at q1
  have hv := hv.deref R1.m
  cases e0 : deref s1.mem d with
  | int j =>
    rw [e0] at q1 hv
    simp only [biD] at q1
    obtain rfl := hv.int
    by_cases hj : 0 ≤ j ∧ j ≤ ((lim : Nat) : Int)
    · rw [if_pos hj] at q1
      have h1 : j ≤ 16777216 := hj.2
      have h0 := hj.1
      refine ⟨j, rfl, ⟨by omega, by omega, by omega, by omega, by omega⟩, fun p hp => kV_res q1 l1 R1 (.lst hp ?_)⟩
      have e2 : (j - 0).toNat = j.toNat := by omega
      unfold rgV
      rw [e2]
      exact RDs.of _ _ (fun i => by rw [Int.zero_add]; exact .int _) _
    · rw [if_neg hj] at q1; exact q1.elim
  | _ => simp [e0, biD] at q1; exact q1.elim
/-! methods -/
theorem mok_ty {f : Mth} {v : V} {d : D} (h : mok f d = true) (sb : Sub G H) (hv : Vw P w K mg G H v d) : ∃ T id, mid f (kd d) = some (T, id) ∧ tyW K T v H := by
  cases f with
  | index =>
    cases d with
    | lst ds =>
      obtain ⟨a, xs, rfl, h1, _⟩ := hv.list sb
      exact ⟨_, _, rfl, .inl (.inl ⟨rfl, xs, h1⟩)⟩
    | tup ds =>
      obtain ⟨a, xs, rfl, _, h1, _⟩ := hv.tuple sb
      exact ⟨_, _, rfl, .inr ⟨rfl, a, xs, rfl, h1.le sb⟩⟩
    | _ => cases h
  | join =>
    cases d with
    | str t =>
      obtain rfl := hv.str
      exact ⟨_, _, rfl, .inl rfl⟩
    | _ => cases h
  | count => cases d <;> cases h
  | split =>
    cases d with
    | str t =>
      obtain rfl := hv.str
      exact ⟨_, _, rfl, .inl rfl⟩
    | _ => cases h
theorem rdE_mth {f : Mth} {o a : Ex} {Q : VK} (h : rdE P w K mg Φ E (.mth f o a) σ H Q) : tM P w K mg f (rdB P w K mg Φ E o) (rdB P w K mg Φ E a) σ H Q := by
  obtain ⟨B, G, s, R, q⟩ := h
  have q : pO P w K mg B E G ((asM f o a (evE Φ o) (evE Φ a) s).bind fun xy s => Out.of (mthD f xy.1 xy.2) s) (kV P w K mg B G σ Q) := q
  rcases isVar o with ⟨i, rfl⟩ | ne
  · have q : pO P w K mg B E G (((lookV i s).bind fun x0 s => if mok f x0 = true then (asB a (evE Φ a) s).bind fun y s => (lookV i s).bind fun x s => if kd x0 = kd x then .ok (x, y) s else .stuck else .stuck).bind fun xy s => Out.of (mthD f xy.1 xy.2) s) (kV P w K mg B G σ Q) := q
    rw [bind_assoc] at q
    obtain ⟨r, e1, q1⟩ := lookV_bind q
    obtain ⟨v, hv, hr⟩ := R.slot i r e1
    by_cases hm : mok f r.d = true
    · rw [if_pos hm] at q1
      obtain ⟨T, id, hmid, ty⟩ := mok_ty hm R.sub hr.vw
      refine ⟨v, hv, _, T, id, hmid, ty, ?_⟩
      rw [bind_assoc] at q1
      refine rdB_step R q1 fun d s1 u H1 G1 l R1 hu q2 => ?_
      rw [bind_assoc] at q2
      obtain ⟨r1, e2, q3⟩ := lookV_bind q2
      obtain ⟨v', hv', hr'⟩ := R1.slot i r1 e2
      rw [hv] at hv'
      cases hv'
      by_cases hk : kd r.d = kd r1.d
      · rw [if_pos hk] at q3
        simp only [bind_ok] at q3
        cases e3 : mthD f r1.d d with
        | none => rw [e3] at q3; exact q3.elim
        | some rv =>
          rw [e3] at q3
          exact ⟨G1, u, r1.d, d, rv, rfl, R1.sub, hr'.vw, hu, hk.symm, e3, fun v' H' rs => kV_res q3 l R1 rs⟩
      · rw [if_neg hk] at q3; exact q3.elim
    · rw [if_neg hm] at q1; exact q1.elim
  · have ha : asM f o a (evE Φ o) (evE Φ a) s = ((evE Φ o s).bind fun x s => if mok f x.d = true then (asB a (evE Φ a) s).bind fun y s => .ok (x.d, y) s else .stuck) := by
      cases o <;> first | rfl | exact absurd rfl (ne _)
    rw [ha, bind_assoc] at q
    rw [show rdB P w K mg Φ E o = rdE P w K mg Φ E o from rdB_ne ne]
    refine rdE_stepD R q fun r s1 v H1 G1 l R1 hd q1 => ?_
    by_cases hm : mok f r.d = true
    · rw [if_pos hm] at q1
      obtain ⟨T, id, hmid, ty⟩ := mok_ty hm R1.sub (.inl hd)
      refine ⟨_, T, id, hmid, ty, ?_⟩
      rw [bind_assoc] at q1
      refine rdB_step R1 q1 fun d s2 u H2 G2 l2 R2 hu q2 => ?_
      simp only [bind_ok] at q2
      cases e3 : mthD f r.d d with
      | none => rw [e3] at q2; exact q2.elim
      | some rv =>
        rw [e3] at q2
        exact ⟨G2, u, r.d, d, rv, rfl, R2.sub, .inl (RD.le l2 hd), hu, rfl, e3, fun v' H' rs => kV_res q2 (l.trans l2) R2 rs⟩
    · rw [if_neg hm] at q1; exact q1.elim
theorem rdE_pop {i : Nat} {Q : VK} (hK : X.K = K) (h : rdE P w K mg Φ E (.pop i) σ H Q) : tBM0 X.K "list" rPop (tVar i) σ H Q := by
  obtain ⟨B, G, s, R, q⟩ := h
  have q : pO P w K mg B E G (match s.env[i]? with
    | some (some (.l ds)) => match ds.getLast? with
      | some d => .ok (.v d) { s with env := s.env.set i (some (.l ds.dropLast)) }
      | none => .stuck
    | _ => .stuck) (kV P w K mg B G σ Q) := q
  split at q
  · rename_i ds e
    split at q
    · rename_i d ed
      obtain ⟨v, hv, a, vs, rfl, ha, hr, ow⟩ := R.slot i _ e
      rw [List.getLast?_eq_getElem?] at ed
      obtain ⟨y, hy, hyd⟩ := hr.get ed
      rw [← hr.length] at hy
      refine ⟨_, hv, .inl ⟨rfl, vs, SqL.of ha⟩, a, vs, y, rfl, rfl, ha, hy, ?_⟩
      refine q y _ G .rfl (R.writeOwn e rfl rfl hv fun G2 H2 h2 ow2 l2 => ⟨a, _, rfl, h2, ?_, ow2⟩) hyd fun z => nomatch z
      rw [List.dropLast_eq_take, List.dropLast_eq_take, hr.length]
      exact (hr.le l2).take _
    · exact q.elim
  · exact q.elim
/-! slices -/
variable (P w K mg) in
def rdO (Φ : Phi) (E : XK) (e : Ex) : TO := fun σ H R => ∃ B G s, SR P w K mg B G s σ H ∧ pO P w K mg B E G (evO e (evE Φ e) s) fun i s' => ∀ H' G', G.Le G' → SR P w K mg B G' s' σ H' → R i H'
theorem PO.imp {e : Option Expr} {t t' : TO} (h : PO X e t) (i : ∀ σ H R, t' σ H R → t σ H R) : PO X e t' := ⟨fun pins s σ H Q I hw => h.run pins s σ H Q I (i σ H Q hw)⟩
end
end Pah
end
section
set_option maxHeartbeats 4000000
/-! Snd10: an expression that is checked reads as it evaluates. -/
namespace Pah
open PySem PySem.Spec PyProof.Rows L2
section
variable {P : Program} {w : World} {K : PySem.W.Frag} {mg : Str → Option Value} {B : Ba} {G G' : Gh} {s : S} {σ σ' : L2.St} {H H' : Hp} {E : XK} {Φ : Phi}
theorem rdO_step {β : Type} {e : Ex} {f : Option Int → S → Out β} {k : β → S → Prop} {Q : Option Int → Hp → Prop} (R : SR P w K mg B G s σ H) (h : pO P w K mg B E G ((evO e (evE Φ e) s).bind f) k)
    (hk : ∀ b s1 H1 G1, G.Le G1 → SR P w K mg B G1 s1 σ H1 → pO P w K mg B E G1 (f b s1) k → Q b H1) : rdO P w K mg Φ E e σ H Q := by
  refine ⟨B, G, s, R, ?_⟩
  cases e1 : evO e (evE Φ e) s with
  | ok b s1 =>
    rw [e1] at h
    exact fun H1 G1 l R1 => hk b s1 H1 G1 l R1 (pO_le h l)
  | exn c p m => rw [e1] at h; exact h
  | stuck => rw [e1] at h; exact h
theorem rdO_none {e : Ex} {Q : Option Int → Hp → Prop} (he : isNoE e = true) (h : rdO P w K mg Φ E e σ H Q) : tNoPart σ H Q := by
  cases e with
  | no =>
    obtain ⟨B, G, s, R, q⟩ := h
    exact q H G .rfl R
  | _ => cases he
theorem rdE_slice {a lo hi : Ex} {Q : VK} (h : rdE P w K mg Φ E (.slice a lo hi) σ H Q) : tSl (rSlice P w K mg) (rdB P w K mg Φ E a) (rdO P w K mg Φ E lo) (rdO P w K mg Φ E hi) σ H Q := by
  obtain ⟨B, G, s, R, q⟩ := h
  have q : pO P w K mg B E G ((asS a (evE Φ a) (evO lo (evE Φ lo)) (evO hi (evE Φ hi)) s).bind fun t s => Out.of (sliceD t.1 t.2.1 t.2.2) s) (kV P w K mg B G σ Q) := q
  have fin : ∀ {G3 : Gh} {s3 : S} {H3 : Hp} {v : V} {d : D} {i j : Option Int}, G.Le G3 → SR P w K mg B G3 s3 σ H3 → Vw P w K mg G3 H3 v d → pO P w K mg B E G3 (Out.of (sliceD d i j) s3) (kV P w K mg B G σ Q) → rSlice P w K mg v i j H3 Q := fun {G3 s3 H3 v d i j} l3 R3 hv q3 => by
    cases e : sliceD d i j with
    | none => rw [e] at q3; exact q3.elim
    | some r =>
      rw [e] at q3
      exact ⟨G3, d, r, R3.sub, hv, e, fun v' H' rs => kV_res q3 l3 R3 rs⟩
  rcases isVar a with ⟨i, rfl⟩ | ne
  · have q : pO P w K mg B E G (((lookV i s).bind fun _ s => (evO lo (evE Φ lo) s).bind fun y s => (evO hi (evE Φ hi) s).bind fun z s => (lookV i s).bind fun x s => .ok (x, y, z) s).bind fun t s => Out.of (sliceD t.1 t.2.1 t.2.2) s) (kV P w K mg B G σ Q) := q
    rw [bind_assoc] at q
    obtain ⟨r, e1, q1⟩ := lookV_bind q
    obtain ⟨v, hv, hr⟩ := R.slot i r e1
    refine ⟨v, hv, ?_⟩
    rw [bind_assoc] at q1
    refine rdO_step R q1 fun y s1 H1 G1 l1 R1 q2 => ?_
    rw [bind_assoc] at q2
    refine rdO_step R1 q2 fun z s2 H2 G2 l2 R2 q3 => ?_
    rw [bind_assoc] at q3
    obtain ⟨r1, e2, q4⟩ := lookV_bind q3
    obtain ⟨v', hv', hr'⟩ := R2.slot i r1 e2
    rw [hv] at hv'
    cases hv'
    exact fin (l1.trans l2) R2 hr'.vw q4
  · have ha : asS a (evE Φ a) (evO lo (evE Φ lo)) (evO hi (evE Φ hi)) s = ((evE Φ a s).bind fun x s => (evO lo (evE Φ lo) s).bind fun y s => (evO hi (evE Φ hi) s).bind fun z s => .ok (x.d, y, z) s) := by
      cases a <;> first | rfl | exact absurd rfl (ne _)
    rw [ha, bind_assoc] at q
    rw [show rdB P w K mg Φ E a = rdE P w K mg Φ E a from rdB_ne ne]
    refine rdE_stepD R q fun r s1 v H1 G1 l1 R1 hd q1 => ?_
    rw [bind_assoc] at q1
    refine rdO_step R1 q1 fun y s2 H2 G2 l2 R2 q2 => ?_
    rw [bind_assoc] at q2
    refine rdO_step R2 q2 fun z s3 H3 G3 l3 R3 q3 => ?_
    exact fin (l1.trans (l2.trans l3)) R3 (.inl (RD.le (l2.trans l3) hd)) q3
theorem rdO_some {e : Ex} {Q : Option Int → Hp → Prop} (hne : isNoE e = false) (h : rdO P w K mg Φ E e σ H Q) : tPart (rdE P w K mg Φ E e) σ H Q := by
  obtain ⟨B, G, s, R, q⟩ := h
  have ev : evO e (evE Φ e) s = (evE Φ e s).bind fun x s => Out.of (optInt x.d) s := by
    cases e <;> first | rfl | cases hne
  rw [ev] at q
  refine rdE_stepD R q fun r s1 v H1 G1 l1 R1 hd q1 => ?_
  cases e1 : r.d with
  | int i =>
    simp only [e1, optInt, of_some] at q1
    rw [e1] at hd
    obtain rfl := hd.int_inv
    exact ⟨i, rfl, q1 H1 G1 l1 R1⟩
  | _ => simp only [e1, optInt, of_none] at q1; exact q1.elim
/-! ### what is walked -/
theorem rdI_e {a : Ex} {R' : It → Hp → Prop} (h : rdI P w K mg Φ E (.e a) σ H R') : iAny K (rdE P w K mg Φ E a) σ H R' := by
  obtain ⟨B, G, s, R, q⟩ := h
  have q : pO P w K mg B E G ((evE Φ a s).bind fun x s => Out.of (itemsV x) s) _ := q
  refine rdE_step R q fun r s1 v H1 G1 l1 R1 hr al q1 => ?_
  obtain ⟨G2, l2, R2, hd⟩ := R1.share hr al
  match r, hd, q1 with
  | .v (.tup ds), hd, q1 =>
    cases hd with
    | tup h1 h2 => exact .inr (.inl ⟨_, _, rfl, SqT.le R2.sub h1.sq, q1 _ H1 G2 (l1.trans l2) R2 (wks_tup h1.sq h2)⟩)
  | .v (.lst ds), hd, q1 =>
    cases hd with
    | lst h1 h2 => exact .inl ⟨_, _, rfl, SqL.le R2.sub h1, q1 _ H1 G2 (l1.trans l2) R2 (wks_list h1 h2)⟩
  | .l ds, hd, q1 =>
    have hd : RD P w K mg G2 v (.lst ds) := hd
    cases hd with
    | lst h1 h2 => exact .inl ⟨_, _, rfl, SqL.le R2.sub h1, q1 _ H1 G2 (l1.trans l2) R2 (wks_list h1 h2)⟩
  | .v (.str t), hd, q1 =>
    cases hd with
    | str _ => exact .inr (.inr ⟨t, rfl, q1 _ H1 G2 (l1.trans l2) R2 wks_str⟩)
theorem rdI_el {a : Ex} {R' : It → Hp → Prop} (h : rdI P w K mg Φ E (.el a) σ H R') : iList K (rdE P w K mg Φ E a) σ H R' := by
  obtain ⟨B, G, s, R, q⟩ := h
  have q : pO P w K mg B E G ((evE Φ a s).bind fun x s => match x.d with
    | .lst ds => .ok ds s
    | _ => .stuck) _ := q
  refine rdE_stepD R q fun r s1 v H1 G1 l1 R1 hd q1 => ?_
  cases e : r.d with
  | lst ds =>
    rw [e] at hd q1
    cases hd with
    | lst h1 h2 => exact ⟨_, rfl, ⟨_, SqL.le R1.sub h1⟩, q1 _ H1 G1 l1 R1 (wks_list h1 h2)⟩
  | _ => rw [e] at q1; exact q1.elim
theorem rdI_r1 {a : Ex} {R' : It → Hp → Prop} (h : rdI P w K mg Φ E (.range1 a) σ H R') : iRng1 (tCons (rdE P w K mg Φ E a) tNil) σ H R' := by
  obtain ⟨B, G, s, R, q⟩ := h
  refine rdE_step R q fun r s1 v H1 G1 l1 R1 hr al q1 => ?_
  match r, hr, q1 with
  | .v (.int j), hr, q1 =>
    have hr : RD P w K mg G1 v (.int j) := hr
    obtain rfl := hr.int_inv
    have q1 : pO P w K mg B E G1 (Out.of (rangeD 0 j) s1) _ := q1
    unfold rangeD at q1
    by_cases hj : -(2 ^ 62) ≤ (0 : Int) ∧ (0 : Int) < 2 ^ 62 ∧ -(2 ^ 62) ≤ j ∧ j < 2 ^ 62
    · rw [if_pos hj] at q1
      have z := q1 (Itr 0 (j - 0).toNat) H1 G1 l1 R1 wks_range
      rw [Int.sub_zero] at z
      exact ⟨j, rfl, hj.2.2.1, hj.2.2.2, z⟩
    · rw [if_neg hj] at q1; exact q1.elim
theorem rdI_r2 {a b : Ex} {R' : It → Hp → Prop} (h : rdI P w K mg Φ E (.range2 a b) σ H R') : iRng2 (tCons (rdE P w K mg Φ E a) (tCons (rdE P w K mg Φ E b) tNil)) σ H R' := by
  obtain ⟨B, G, s, R, q⟩ := h
  refine rdE_stepD R q fun r s1 v H1 G1 l1 R1 hd q1 => ?_
  refine rdE_stepD R1 q1 fun r2 s2 v2 H2 G2 l2 R2 hd2 q2 => ?_
  match r, r2, hd, hd2, q2 with
  | .v (.int i), .v (.int j), hd, hd2, q2 =>
    have hd : RD P w K mg G1 v (.int i) := hd
    have hd2 : RD P w K mg G2 v2 (.int j) := hd2
    obtain rfl := hd.int_inv
    obtain rfl := hd2.int_inv
    have q2 : pO P w K mg B E G2 (Out.of (rangeD i j) s2) _ := q2
    unfold rangeD at q2
    by_cases hj : -(2 ^ 62) ≤ i ∧ i < 2 ^ 62 ∧ -(2 ^ 62) ≤ j ∧ j < 2 ^ 62
    · rw [if_pos hj] at q2
      exact ⟨i, j, rfl, hj, q2 _ H2 G2 (l1.trans l2) R2 wks_range⟩
    · rw [if_neg hj] at q2; exact q2.elim
theorem rdI_enum {a : Ex} {R' : It → Hp → Prop} (h : rdI P w K mg Φ E (.enum a) σ H R') : iEnum K (tCons (rdE P w K mg Φ E a) tNil) σ H R' := by
  obtain ⟨B, G, s, R, q⟩ := h
  refine rdE_stepD R q fun r s1 v H1 G1 l1 R1 hd q1 => ?_
  cases e : r.d with
  | lst ds =>
    simp only [e] at q1 hd
    cases hd with
    | lst h1 h2 => exact ⟨_, _, rfl, SqL.le R1.sub h1, q1 _ H1 G1 l1 R1 (wks_enum h1 h2)⟩
  | _ => simp only [e] at q1; exact q1.elim
theorem rdI_zip {a b : Ex} {R' : It → Hp → Prop} (h : rdI P w K mg Φ E (.zip a b) σ H R') : RZ.iZipA K (tCons (rdE P w K mg Φ E a) (tCons (rdE P w K mg Φ E b) tNil)) σ H R' := by
  obtain ⟨B, G, s, R, q⟩ := h
  refine rdE_stepD R q fun r s1 v H1 G1 l1 R1 hd q1 => ?_
  refine rdE_stepD R1 q1 fun r2 s2 v2 H2 G2 l2 R2 hd2 q2 => ?_
  have hd := RD.le l2 hd
  cases e : r.d with
  | lst ds =>
    cases e2 : r2.d with
    | lst es =>
      simp only [e, e2] at q2 hd hd2
      cases hd with
      | lst h1 h2 =>
        cases hd2 with
        | lst h3 h4 => exact ⟨_, _, _, _, rfl, .inl ⟨SqL.le R2.sub h1, SqL.le R2.sub h3, q2 _ H2 G2 (l1.trans l2) R2 (wks_zipL h1 h2 h3 h4)⟩⟩
    | _ => simp only [e, e2] at q2; exact q2.elim
  | tup ds =>
    cases e2 : r2.d with
    | tup es =>
      simp only [e, e2] at q2 hd hd2
      cases hd with
      | tup h1 h2 =>
        cases hd2 with
        | tup h3 h4 => exact ⟨_, _, _, _, rfl, .inr ⟨SqT.le R2.sub h1.sq, SqT.le R2.sub h3.sq, q2 _ H2 G2 (l1.trans l2) R2 (wks_zipT h1.sq h2 h3.sq h4)⟩⟩
    | _ => simp only [e, e2] at q2; exact q2.elim
  | _ => simp only [e] at q2; exact q2.elim
end
end Pah
end
section
set_option maxHeartbeats 4000000
/-! Inv: what the check says of the tree. (printed by geninv.py) -/
namespace Pah
open PySem PySem.Spec PyProof.Rows L2
theorem inv_var {c : Ck} {i : Nat} {x : Expr} (h : chkE c (.var i) x = true) : ∃ (y : Str) (p : Pos), x = .Name y p ∧ (decide (c.N[i]? = some y) && visB c.sc y && okName y) = true := by
  unfold chkE at h
  split at h
  all_goals first
    | (cases h; done)
    | (rename_i e; cases e; done)
    | (rename_i e; cases e; exact ⟨_, _, rfl, h⟩)
    | exact ⟨_, _, rfl, h⟩
theorem inv_int {c : Ck} {i : Int} {x : Expr} (h : chkE c (.int i) x = true) : ∃ (j : Int) (k : Nat) (p : Pos), x = .Constant (.int j) k p ∧ (decide (i = j)) = true := by
  unfold chkE at h
  split at h
  all_goals first
    | (cases h; done)
    | (rename_i e; cases e; done)
    | (rename_i e; cases e; exact ⟨_, _, _, rfl, h⟩)
    | exact ⟨_, _, _, rfl, h⟩
theorem inv_str {c : Ck} {i : Str} {x : Expr} (h : chkE c (.str i) x = true) : ∃ (j : Str) (k : Nat) (p : Pos), x = .Constant (.str j) k p ∧ (decide (i = j)) = true := by
  unfold chkE at h
  split at h
  all_goals first
    | (cases h; done)
    | (rename_i e; cases e; done)
    | (rename_i e; cases e; exact ⟨_, _, _, rfl, h⟩)
    | exact ⟨_, _, _, rfl, h⟩
theorem inv_bl {c : Ck} {i : Bool} {x : Expr} (h : chkE c (.bl i) x = true) : ∃ (j : Bool) (k : Nat) (p : Pos), x = .Constant (.bool j) k p ∧ (decide (i = j)) = true := by
  unfold chkE at h
  split at h
  all_goals first
    | (cases h; done)
    | (rename_i e; cases e; done)
    | (rename_i e; cases e; exact ⟨_, _, _, rfl, h⟩)
    | exact ⟨_, _, _, rfl, h⟩
theorem inv_non {c : Ck}  {x : Expr} (h : chkE c (.non) x = true) : ∃ (k : Nat) (p : Pos), x = .Constant .none k p ∧ True := by
  unfold chkE at h
  split at h
  all_goals first
    | (cases h; done)
    | (rename_i e; cases e; done)
    | (rename_i e; cases e; exact ⟨_, _, rfl, trivial⟩)
    | exact ⟨_, _, rfl, trivial⟩
theorem inv_gl {c : Ck} {i : Str} {x : Expr} (h : chkE c (.gl i) x = true) : ∃ (y : Str) (p : Pos), x = .Name y p ∧ (decide (i = y) && glB c.sc y && okName y && decide (y ∈ c.cs)) = true := by
  unfold chkE at h
  split at h
  all_goals first
    | (cases h; done)
    | (rename_i e; cases e; done)
    | (rename_i e; cases e; exact ⟨_, _, rfl, h⟩)
    | exact ⟨_, _, rfl, h⟩
theorem inv_tup {c : Ck} {es : Exs} {x : Expr} (h : chkE c (.tup es) x = true) : ∃ (xs : List Expr) (k : Nat) (p : Pos), x = .Tuple xs k p ∧ chkEs c es xs = true := by
  unfold chkE at h
  split at h
  all_goals first
    | (cases h; done)
    | (rename_i e; cases e; done)
    | (rename_i e; cases e; exact ⟨_, _, _, rfl, h⟩)
    | exact ⟨_, _, _, rfl, h⟩
theorem inv_lst {c : Ck} {es : Exs} {x : Expr} (h : chkE c (.lst es) x = true) : ∃ (xs : List Expr) (p : Pos), x = .List xs p ∧ chkEs c es xs = true := by
  unfold chkE at h
  split at h
  all_goals first
    | (cases h; done)
    | (rename_i e; cases e; done)
    | (rename_i e; cases e; exact ⟨_, _, rfl, h⟩)
    | exact ⟨_, _, rfl, h⟩
theorem inv_lstM {c : Ck} {es : Exs} {x : Expr} (h : chkE c (.lstM es) x = true) : ∃ (xs : List Expr) (p : Pos), x = .List xs p ∧ chkEs c es xs = true := by
  unfold chkE at h
  split at h
  all_goals first
    | (cases h; done)
    | (rename_i e; cases e; done)
    | (rename_i e; cases e; exact ⟨_, _, rfl, h⟩)
    | exact ⟨_, _, rfl, h⟩
theorem inv_dic0 {c : Ck}  {x : Expr} (h : chkE c (.dic0) x = true) : ∃ (p : Pos), x = .Dict [] [] p ∧ True := by
  unfold chkE at h
  split at h
  all_goals first
    | (cases h; done)
    | (rename_i e; cases e; done)
    | (rename_i e; cases e; exact ⟨_, rfl, trivial⟩)
    | exact ⟨_, rfl, trivial⟩
theorem inv_bin {c : Ck} {o : BOp} {a b : Ex} {x : Expr} (h : chkE c (.bin o a b) x = true) : ∃ (x1 : Expr) (p : Operator) (y : Expr) (pos : Pos), x = .BinOp x1 p y pos ∧ (decide (p = bop o) && chkE c a x1 && chkE c b y) = true := by
  unfold chkE at h
  split at h
  all_goals first
    | (cases h; done)
    | (rename_i e; cases e; done)
    | (rename_i e; cases e; exact ⟨_, _, _, _, rfl, h⟩)
    | exact ⟨_, _, _, _, rfl, h⟩
theorem inv_neg {c : Ck} {a : Ex} {x : Expr} (h : chkE c (.neg a) x = true) : ∃ (x1 : Expr) (pos : Pos), x = .UnaryOp .USub x1 pos ∧ chkE c a x1 = true := by
  unfold chkE at h
  split at h
  all_goals first
    | (cases h; done)
    | (rename_i e; cases e; done)
    | (rename_i e; cases e; exact ⟨_, _, rfl, h⟩)
    | exact ⟨_, _, rfl, h⟩
theorem inv_cmp {c : Ck} {o : COp} {a b : Ex} {x : Expr} (h : chkE c (.cmp o a b) x = true) : ∃ (x1 : Expr) (p : CmpOp) (y : Expr) (pos : Pos), x = .Compare x1 [p] [y] pos ∧ (decide (p = cop o) && !isSet y && chkE c a x1 && chkE c b y) = true := by
  unfold chkE at h
  split at h
  all_goals first
    | (cases h; done)
    | (rename_i e; cases e; done)
    | (rename_i e; cases e; exact ⟨_, _, _, _, rfl, h⟩)
    | exact ⟨_, _, _, _, rfl, h⟩
theorem inv_cmp2 {c : Ck} {o1 o2 : COp} {a b d : Ex} {x : Expr} (h : chkE c (.cmp2 o1 o2 a b d) x = true) : ∃ (x1 : Expr) (p q : CmpOp) (y z : Expr) (pos : Pos), x = .Compare x1 [p, q] [y, z] pos ∧ (decide (p = cop o1) && decide (q = cop o2) && !isSet z && chkE c a x1 && chkE c b y && chkE c d z) = true := by
  unfold chkE at h
  split at h
  all_goals first
    | (cases h; done)
    | (rename_i e; cases e; done)
    | (rename_i e; cases e; exact ⟨_, _, _, _, _, _, rfl, h⟩)
    | exact ⟨_, _, _, _, _, _, rfl, h⟩
theorem inv_isnon {c : Ck} {ng : Bool} {a : Ex} {x : Expr} (h : chkE c (.isnon ng a) x = true) : ∃ (x1 : Expr) (p : CmpOp) (k : Nat) (pp pos : Pos), x = .Compare x1 [p] [.Constant .none k pp] pos ∧ (decide (p = if ng = true then .IsNot else .Is) && chkE c a x1) = true := by
  unfold chkE at h
  split at h
  all_goals first
    | (cases h; done)
    | (rename_i e; cases e; done)
    | (rename_i e; cases e; exact ⟨_, _, _, _, _, rfl, h⟩)
    | exact ⟨_, _, _, _, _, rfl, h⟩
theorem inv_and {c : Ck} {a b : Ex} {x : Expr} (h : chkE c (.and a b) x = true) : ∃ (x1 y : Expr) (rest : List Expr) (p : Pos), x = .BoolOp .And (x1 :: y :: rest) p ∧ (chkE c a x1 && (match rest with
    | [] => chkE c b y
    | _ => isAnd b && chkE c b (.BoolOp .And (y :: rest) p))) = true := by
  unfold chkE at h
  split at h
  all_goals first
    | (cases h; done)
    | (rename_i e; cases e; done)
    | (rename_i e; cases e; exact ⟨_, _, _, _, rfl, h⟩)
    | exact ⟨_, _, _, _, rfl, h⟩
theorem inv_or {c : Ck} {a b : Ex} {x : Expr} (h : chkE c (.or a b) x = true) : ∃ (x1 y : Expr) (rest : List Expr) (p : Pos), x = .BoolOp .Or (x1 :: y :: rest) p ∧ (chkE c a x1 && (match rest with
    | [] => chkE c b y
    | _ => isOr b && chkE c b (.BoolOp .Or (y :: rest) p))) = true := by
  unfold chkE at h
  split at h
  all_goals first
    | (cases h; done)
    | (rename_i e; cases e; done)
    | (rename_i e; cases e; exact ⟨_, _, _, _, rfl, h⟩)
    | exact ⟨_, _, _, _, rfl, h⟩
theorem inv_not {c : Ck} {a : Ex} {x : Expr} (h : chkE c (.not a) x = true) : ∃ (x1 : Expr) (pos : Pos), x = .UnaryOp .Not x1 pos ∧ chkE c a x1 = true := by
  unfold chkE at h
  split at h
  all_goals first
    | (cases h; done)
    | (rename_i e; cases e; done)
    | (rename_i e; cases e; exact ⟨_, _, rfl, h⟩)
    | exact ⟨_, _, rfl, h⟩
theorem inv_ite {c : Ck} {t a b : Ex} {x : Expr} (h : chkE c (.ite t a b) x = true) : ∃ (u x1 y : Expr) (p : Pos), x = .IfExp u x1 y p ∧ (tst t && chkE c t u && chkE c a x1 && chkE c b y) = true := by
  unfold chkE at h
  split at h
  all_goals first
    | (cases h; done)
    | (rename_i e; cases e; done)
    | (rename_i e; cases e; exact ⟨_, _, _, _, rfl, h⟩)
    | exact ⟨_, _, _, _, rfl, h⟩
theorem inv_isty {c : Ck} {t : Ty} {a : Ex} {x : Expr} (h : chkE c (.isty t a) x = true) : ∃ (f : Str) (q : Pos) (x1 : Expr) (T : Str) (q2 p : Pos), x = .Call (.Name f q) [x1, .Name T q2] [] p ∧ (decide (f = "isinstance") && glB c.sc f && decide (T = (tyS t : Str)) && glB c.sc T && !star x1 && chkE c a x1) = true := by
  unfold chkE at h
  split at h
  all_goals first
    | (cases h; done)
    | (rename_i e; cases e; done)
    | (rename_i e; cases e; exact ⟨_, _, _, _, _, _, rfl, h⟩)
    | exact ⟨_, _, _, _, _, _, rfl, h⟩
theorem inv_isx {c : Ck} {C : Str} {a : Ex} {x : Expr} (h : chkE c (.isx C a) x = true) : ∃ (i : Nat) (f : Str) (q : Pos) (nm : Str) (xp : Pos) (T : Str) (q2 p : Pos), x = .Call (.Name f q) [.Name nm xp, .Name T q2] [] p ∧ a = .var i ∧ (decide (f = "isinstance") && glB c.sc f && decide (T = C) && glB c.sc T && okName T && decide (C ∈ c.xs) && chkE c (.var i) (.Name nm xp)) = true := by
  unfold chkE at h
  split at h
  all_goals first
    | (cases h; done)
    | (rename_i e; cases e; done)
    | (rename_i e; cases e; exact ⟨_, _, _, _, _, _, _, _, rfl, rfl, h⟩)
    | exact ⟨_, _, _, _, _, _, _, _, rfl, rfl, h⟩
theorem inv_call {c : Ck} {f : Str} {es : Exs} {x : Expr} (h : chkE c (.call f es) x = true) : ∃ (g : Str) (q : Pos) (xs : List Expr) (p : Pos), x = .Call (.Name g q) xs [] p ∧ (!c.hot && decide (f = g) && glB c.sc g && okName g && chkEs c es xs && decide ((f, xs.length) ∈ c.fs)) = true := by
  unfold chkE at h
  split at h
  all_goals first
    | (cases h; done)
    | (rename_i e; cases e; done)
    | (rename_i e; cases e; exact ⟨_, _, _, _, rfl, h⟩)
    | exact ⟨_, _, _, _, rfl, h⟩
theorem inv_callV {c : Ck} {i : Nat} {es : Exs} {x : Expr} (h : chkE c (.callV i es) x = true) : ∃ (y : Str) (q : Pos) (z : Expr) (zs : List Expr) (p : Pos), x = .Call (.Name y q) (z :: zs) [] p ∧ (!c.hot && decide (c.N[i]? = some y) && visB c.sc y && okName y && chkEs c es (z :: zs)) = true := by
  unfold chkE at h
  split at h
  all_goals first
    | (cases h; done)
    | (rename_i e; cases e; done)
    | (rename_i e; cases e; exact ⟨_, _, _, _, _, rfl, h⟩)
    | exact ⟨_, _, _, _, _, rfl, h⟩
theorem inv_refd {c : Ck} {a : Ex} {x : Expr} (h : chkE c (.refd a) x = true) : ∃ (g : Str) (q : Pos) (body : Expr) (scope : Scope) (lp p : Pos), x = .Call (.Name g q) [.Lambda ⟨[], [], none, [], [], none, []⟩ body scope lp] [] p ∧ (c.lm && !c.hot && decide (g = "_law_refused") && glB c.sc g && LamX.lamSB c.sc scope && chkE (c.lamC scope) a body) = true := by
  unfold chkE at h
  split at h
  all_goals first
    | (cases h; done)
    | (rename_i e; cases e; done)
    | (rename_i e; cases e; exact ⟨_, _, _, _, _, _, rfl, h⟩)
    | exact ⟨_, _, _, _, _, _, rfl, h⟩
theorem inv_mth {c : Ck} {f : Mth} {o a : Ex} {x : Expr} (h : chkE c (.mth f o a) x = true) : ∃ (x1 : Expr) (m : Str) (ap : Pos) (y : Expr) (cp : Pos), x = .Call (.Attribute x1 m ap) [y] [] cp ∧ (decide (m = mname f) && decide (f ≠ .count) && (ap.endLine == cp.line) && noSuper x1 && !star y && chkE c o x1 && chkE c a y) = true := by
  unfold chkE at h
  split at h
  all_goals first
    | (cases h; done)
    | (rename_i e; cases e; done)
    | (rename_i e; cases e; exact ⟨_, _, _, _, _, rfl, h⟩)
    | exact ⟨_, _, _, _, _, rfl, h⟩
theorem inv_pop {c : Ck} {i : Nat} {x : Expr} (h : chkE c (.pop i) x = true) : ∃ (y : Str) (q : Pos) (m : Str) (ap cp : Pos), x = .Call (.Attribute (.Name y q) m ap) [] [] cp ∧ (decide (m = "pop") && (ap.endLine == cp.line) && decide (c.N[i]? = some y) && visB c.sc y && okName y) = true := by
  unfold chkE at h
  split at h
  all_goals first
    | (cases h; done)
    | (rename_i e; cases e; done)
    | (rename_i e; cases e; exact ⟨_, _, _, _, _, rfl, h⟩)
    | exact ⟨_, _, _, _, _, rfl, h⟩
theorem inv_idx {c : Ck} {a i : Ex} {x : Expr} (h : chkE c (.idx a i) x = true) : ∃ (x1 y : Expr) (p : Pos), x = .Subscript x1 y p ∧ (!isSlice y && chkE c a x1 && chkE c i y) = true := by
  unfold chkE at h
  split at h
  all_goals first
    | (cases h; done)
    | (rename_i e; cases e; done)
    | (rename_i e; cases e; exact ⟨_, _, _, rfl, h⟩)
    | exact ⟨_, _, _, rfl, h⟩
theorem inv_upper {c : Ck} {a : Ex} {x : Expr} (h : chkE c (.upper a) x = true) : ∃ (x1 : Expr) (m : Str) (ap cp : Pos), x = .Call (.Attribute x1 m ap) [] [] cp ∧ (decide (m = "upper") && (ap.endLine == cp.line) && noSuper x1 && chkE c a x1) = true := by
  unfold chkE at h
  split at h
  all_goals first
    | (cases h; done)
    | (rename_i e; cases e; done)
    | (rename_i e; cases e; exact ⟨_, _, _, _, rfl, h⟩)
    | exact ⟨_, _, _, _, rfl, h⟩
theorem inv_get {c : Ck} {i : Nat} {k : Ex} {x : Expr} (h : chkE c (.get i k) x = true) : ∃ (y : Str) (q : Pos) (m : Str) (ap : Pos) (z : Expr) (k2 : Nat) (p2 cp : Pos), x = .Call (.Attribute (.Name y q) m ap) [z, .Constant .none k2 p2] [] cp ∧ (decide (m = "get") && (ap.endLine == cp.line) && decide (c.N[i]? = some y) && visB c.sc y && okName y && !star z && chkE c k z) = true := by
  unfold chkE at h
  split at h
  all_goals first
    | (cases h; done)
    | (rename_i e; cases e; done)
    | (rename_i e; cases e; exact ⟨_, _, _, _, _, _, _, _, rfl, h⟩)
    | exact ⟨_, _, _, _, _, _, _, _, rfl, h⟩
theorem inv_fld {c : Ck} {cl : Str} {a : Ex} {f : Str} {x : Expr} (h : chkE c (.fld cl a f) x = true) : ∃ (x1 : Expr) (g : Str) (p : Pos), x = .Attribute x1 g p ∧ (decide (g = f) && decide ((cl, f) ∈ c.fa) && noSuper x1 && chkE c a x1) = true := by
  unfold chkE at h
  split at h
  all_goals first
    | (cases h; done)
    | (rename_i e; cases e; done)
    | (rename_i e; cases e; exact ⟨_, _, _, rfl, h⟩)
    | exact ⟨_, _, _, rfl, h⟩
theorem inv_prop {c : Ck} {cl : Str} {a : Ex} {f : Str} {x : Expr} (h : chkE c (.prop cl a f) x = true) : ∃ (x1 : Expr) (g : Str) (p : Pos), x = .Attribute x1 g p ∧ (!c.hot && decide (g = f) && decide ((cl, f) ∈ c.pr) && noSuper x1 && chkE c a x1) = true := by
  unfold chkE at h
  split at h
  all_goals first
    | (cases h; done)
    | (rename_i e; cases e; done)
    | (rename_i e; cases e; exact ⟨_, _, _, rfl, h⟩)
    | exact ⟨_, _, _, rfl, h⟩
theorem inv_cm {c : Ck} {cl m : Str} {a : Ex} {x : Expr} (h : chkE c (.cm cl m a) x = true) : ∃ (y : Str) (q : Pos) (g : Str) (ap : Pos) (x1 : Expr) (cp : Pos), x = .Call (.Attribute (.Name y q) g ap) [x1] [] cp ∧ (!c.hot && decide (y = cl) && decide (g = m) && glB c.sc y && okName y && decide ((cl, m) ∈ c.cm) && (ap.endLine == cp.line) && !star x1 && chkE c a x1) = true := by
  unfold chkE at h
  split at h
  all_goals first
    | (cases h; done)
    | (rename_i e; cases e; done)
    | (rename_i e; cases e; exact ⟨_, _, _, _, _, _, rfl, h⟩)
    | exact ⟨_, _, _, _, _, _, rfl, h⟩
theorem inv_mkS {c : Ck} {cl : Str} {a : Ex} {x : Expr} (h : chkE c (.mkS cl a) x = true) : ∃ (y : Str) (q : Pos) (x1 : Expr) (p2 cp : Pos), x = .Call (.Name y q) [.Starred x1 p2] [] cp ∧ (!c.hot && decide (y = cl) && glB c.sc y && okName y && decide (cl ∈ c.mks) && chkE c a x1) = true := by
  unfold chkE at h
  split at h
  all_goals first
    | (cases h; done)
    | (rename_i e; cases e; done)
    | (rename_i e; cases e; exact ⟨_, _, _, _, _, rfl, h⟩)
    | exact ⟨_, _, _, _, _, rfl, h⟩
theorem inv_mkV {c : Ck} {cl : Str} {i : Nat} {a : Ex} {x : Expr} (h : chkE c (.mkV cl i a) x = true) : ∃ (y : Str) (q : Pos) (x1 : Expr) (p2 cp : Pos), x = .Call (.Name y q) [.Starred x1 p2] [] cp ∧ (!c.hot && decide (c.N[i]? = some y) && visB c.sc y && okName y && decide (cl ∈ c.mks) && chkE c a x1) = true := by
  unfold chkE at h
  split at h
  all_goals first
    | (cases h; done)
    | (rename_i e; cases e; done)
    | (rename_i e; cases e; exact ⟨_, _, _, _, _, rfl, h⟩)
    | exact ⟨_, _, _, _, _, rfl, h⟩
theorem inv_rev {c : Ck} {a : Ex} {x : Expr} (h : chkE c (.rev a) x = true) : ∃ (x1 : Expr) (j : Int) (k : Nat) (p1 p2 p3 p : Pos), x = .Subscript x1 (.Slice none none (some (.UnaryOp .USub (.Constant (.int j) k p1) p2)) p3) p ∧ (decide (j = 1) && chkE c a x1) = true := by
  unfold chkE at h
  split at h
  all_goals first
    | (cases h; done)
    | (rename_i e; cases e; done)
    | (rename_i e; cases e; exact ⟨_, _, _, _, _, _, _, rfl, h⟩)
    | exact ⟨_, _, _, _, _, _, _, rfl, h⟩
theorem inv_slice {c : Ck} {a lo hi : Ex} {x : Expr} (h : chkE c (.slice a lo hi) x = true) : ∃ (x1 : Expr) (l hh : Option Expr) (p2 p : Pos), x = .Subscript x1 (.Slice l hh none p2) p ∧ (chkE c a x1 && (match l with
    | none => isNoE lo
    | some y => !isNoE lo && chkE c lo y) && (match hh with
    | none => isNoE hi
    | some y => !isNoE hi && chkE c hi y)) = true := by
  unfold chkE at h
  split at h
  all_goals first
    | (cases h; done)
    | (rename_i e; cases e; done)
    | (rename_i e; cases e; exact ⟨_, _, _, _, _, rfl, h⟩)
    | exact ⟨_, _, _, _, _, rfl, h⟩
theorem inv_comp {c : Ck} {elt : Ex} {tg : Tg} {it : Itx} {cond : Ex} {x : Expr} (h : chkE c (.comp elt tg it cond) x = true) : ∃ (x1 t y : Expr) (ifs : List Expr) (z : Int) (scope : Scope) (p : Pos), x = .ListComp x1 [⟨t, y, ifs, z⟩] scope p ∧ ((!c.hot || isEl it && !c.xs.isEmpty) && decide (z = 0) && notLive it && !isSet y && blkC c.N c.sc scope (ownOf c.N tg.vars) && chkT (c.blk scope) tg (.inl t) && chkI c it t y && chkE (c.blk scope) elt x1 && tst cond && (match ifs with
    | [] => isYes cond
    | [u] => chkE (c.blk scope) cond u
    | _ => false)) = true := by
  unfold chkE at h
  split at h
  all_goals first
    | (cases h; done)
    | (rename_i e; cases e; done)
    | (rename_i e; cases e; exact ⟨_, _, _, _, _, _, _, rfl, h⟩)
    | exact ⟨_, _, _, _, _, _, _, rfl, h⟩
theorem inv_dic1 {c : Ck} {k v : Ex} {x : Expr} (h : chkE c (.dic1 k v) x = true) : False := by
  unfold chkE at h
  cases h
theorem inv_isbl {c : Ck} {ng b : Bool} {a : Ex} {x : Expr} (h : chkE c (.isbl ng b a) x = true) : False := by
  unfold chkE at h
  cases h
theorem inv_comp2 {c : Ck} {elt : Ex} {tg : Tg} {it : Itx} {tg2 : Tg} {it2 : Itx} {cond : Ex} {x : Expr} (h : chkE c (.comp2 elt tg it tg2 it2 cond) x = true) : False := by
  unfold chkE at h
  cases h
theorem inv_no {c : Ck}  {x : Expr} (h : chkE c (.no) x = true) : False := by
  unfold chkE at h
  cases h
theorem inv_bi {c : Ck} {f : BI} {es : Exs} {x : Expr} (h : chkE c (.bi f es) x = true) :
    (∃ (a : Ex) (g : Str) (q : Pos) (h : Str) (q2 : Pos) (x1 : Expr) (p2 p : Pos), f = .listrange ∧ es = .cons a .nil ∧ x = .Call (.Name g q) [.Call (.Name h q2) [x1] [] p2] [] p ∧ (!c.hot && decide (g = "list") && decide (h = "range") && glB c.sc g && glB c.sc h && !star x1 && chkE c a x1) = true) ∨
    (∃ (a : Ex) (g : Str) (q : Pos) (h : Str) (q2 : Pos) (x1 : Expr) (p2 p : Pos), f = .sortedset ∧ es = .cons a .nil ∧ x = .Call (.Name g q) [.Call (.Name h q2) [x1] [] p2] [] p ∧ (!c.hot && decide (g = "sorted") && decide (h = "set") && glB c.sc g && glB c.sc h && !star x1 && chkE c a x1) = true) ∨
    (∃ (a : Ex) (g : Str) (q : Pos) (x1 : Expr) (p : Pos), es = .cons a .nil ∧ x = .Call (.Name g q) [x1] [] p ∧ (biFn f && (!c.hot || biHot f) && decide (g = biName f) && glB c.sc g && !star x1 && chkE c a x1) = true) ∨
    ∃ (a b : Ex) (es' : Exs) (g : Str) (q : Pos) (x1 y : Expr) (xs : List Expr) (p : Pos), es = .cons a (.cons b es') ∧ x = .Call (.Name g q) (x1 :: y :: xs) [] p ∧ (biFn f && (!c.hot || biHot f) && decide (g = biName f) && glB c.sc g && !star x1 && chkE c a x1 && !star y && chkE c b y && chkEs c es' xs) = true := by
  unfold chkE at h
  split at h
  all_goals first
    | (cases h; done)
    | (rename_i e; cases e; done)
    | (rename_i e; cases e; exact .inl ⟨_, _, _, _, _, _, _, _, rfl, rfl, rfl, h⟩)
    | (rename_i e; cases e; exact .inr (.inl ⟨_, _, _, _, _, _, _, _, rfl, rfl, rfl, h⟩))
    | (rename_i e; cases e; exact .inr (.inr (.inl ⟨_, _, _, _, _, rfl, rfl, h⟩)))
    | (rename_i e; cases e; exact .inr (.inr (.inr ⟨_, _, _, _, _, _, _, _, _, rfl, rfl, h⟩)))
    | trace_state
theorem inv_range1 {c : Ck} {a : Ex} {t x : Expr} (h : chkI c (.range1 a) t x = true) : ∃ (g : Str) (q : Pos) (x1 : Expr) (p : Pos), x = .Call (.Name g q) [x1] [] p ∧ (decide (g = "range") && glB c.sc g && !star x1 && chkE c a x1) = true := by
  unfold chkI at h
  split at h
  all_goals first
    | (cases h; done)
    | (rename_i e; cases e; done)
    | (rename_i e; cases e; exact ⟨_, _, _, _, rfl, h⟩)
theorem inv_range2 {c : Ck} {a b : Ex} {t x : Expr} (h : chkI c (.range2 a b) t x = true) : ∃ (g : Str) (q : Pos) (x1 y : Expr) (p : Pos), x = .Call (.Name g q) [x1, y] [] p ∧ (decide (g = "range") && glB c.sc g && !star x1 && !star y && chkE c a x1 && chkE c b y) = true := by
  unfold chkI at h
  split at h
  all_goals first
    | (cases h; done)
    | (rename_i e; cases e; done)
    | (rename_i e; cases e; exact ⟨_, _, _, _, _, rfl, h⟩)
theorem inv_enum {c : Ck} {a : Ex} {t x : Expr} (h : chkI c (.enum a) t x = true) : ∃ (ts : List Expr) (k : Nat) (tp : Pos) (g : Str) (q : Pos) (x1 : Expr) (p : Pos), t = .Tuple ts k tp ∧ x = .Call (.Name g q) [x1] [] p ∧ (decide (g = "enumerate") && glB c.sc g && !star x1 && chkE c a x1) = true := by
  unfold chkI at h
  split at h
  all_goals first
    | (cases h; done)
    | (rename_i e; cases e; done)
    | (rename_i e; cases e; exact ⟨_, _, _, _, _, _, _, rfl, rfl, h⟩)
theorem inv_zip {c : Ck} {a b : Ex} {t x : Expr} (h : chkI c (.zip a b) t x = true) : ∃ (ts : List Expr) (k : Nat) (tp : Pos) (g : Str) (q : Pos) (x1 y : Expr) (p : Pos), t = .Tuple ts k tp ∧ x = .Call (.Name g q) [x1, y] [] p ∧ (decide (g = "zip") && glB c.sc g && !star x1 && !star y && chkE c a x1 && chkE c b y) = true := by
  unfold chkI at h
  split at h
  all_goals first
    | (cases h; done)
    | (rename_i e; cases e; done)
    | (rename_i e; cases e; exact ⟨_, _, _, _, _, _, _, _, rfl, rfl, h⟩)
theorem pair_tgt {c : Ck} {it : Itx} {x : Expr} {tn : Str} {tp : Pos} (hp : isPairs it = true) (h : chkI c it (.Name tn tp) x = true) : False := by
  cases it with
  | enum a =>
    obtain ⟨_, _, _, _, _, _, _, e, _⟩ := inv_enum h
    cases e
  | zip a b =>
    obtain ⟨_, _, _, _, _, _, _, _, e, _⟩ := inv_zip h
    cases e
  | _ => cases hp
end Pah
end
section
set_option maxHeartbeats 2000000
/-! SndD: readings of texts' upper, dicts with texts as keys, lists backwards; objects of own classes. -/
namespace Pah
open PySem PySem.Spec PyProof.Rows L2
/-- how the call of an attribute is taken apart -/
theorem meth_ht {o : Expr} {es : List Expr} {m : Str} {ap cp : Pos} {env : Env} (hb : attributeBase o m env (eval o env) = eval o env) (he : es.all (fun e => !star e) = true) (hn : es.length < 29) (hl : (ap.endLine == cp.line) = true) :
    eval (.Call (.Attribute o m ap) es [] cp) env = (do
      let ov ← eval o env
      standAt ap.atName
      let (f, first) ← holding [ov] (getMethod ov m (do return (← importBound o env).getD true))
      callWith cp f first (backTo cp (starEach es env)) (backToKw cp (keywordEach [] env))) := by
  rw [arm_eval_Call, hb]
  have h0 := star_all (env := env) he cp
  have form : methodCallForm (es.length + ([] : List Keyword).length) (backTo cp (starEach es env)) (backToKw cp (keywordEach [] env)) = true := by
    unfold methodCallForm
    have h1 : (backTo cp (starEach es env)).all (fun x => !x.1) = true := by
      rw [List.all_eq_true]
      intro x hx
      cases e : x.1 with
      | false => rfl
      | true =>
        have : (backTo cp (starEach es env)).any (·.1) = true := List.any_eq_true.mpr ⟨x, hx, e⟩
        rw [h0] at this
        cases this
    rw [h1]
    show (true && true && decide (es.length + 0 + 0 < 30)) = true
    rw [decide_eq_true (by omega)]
    rfl
  have mp : methodCallPos true o env ap cp = pure cp := by
    unfold methodCallPos
    rw [hl]
    rfl
  unfold methodCall
  rw [form, mp]
  simp only [pure_bind]
  rfl
section
variable {P : Program} {w : World} {K : PySem.W.Frag} {mg : Str → Option Value} {B : Ba} {G G' : Gh} {s : S} {σ σ' : L2.St} {H H' : Hp} {E : XK} {Φ : Phi} {X : Cx} {n : Nat} {c : Ck}
theorem rdE_upper {a : Ex} {Q : VK} (h : rdE P w K mg Φ E (.upper a) σ H Q) : tM0 (fun x xs H Q => ∃ a, x = .str a ∧ xs = [] ∧ a.length ≤ 5592405 ∧ Q (.str (Txt.upper a)) H) (rdE P w K mg Φ E a) σ H Q := by
  obtain ⟨B, G, s, R, q⟩ := h
  refine rdE_step R q fun r s1 v H1 G1 l1 R1 hr al q1 => ?_
  match r, q1, hr with
  | .v (.str t), q1, hr =>
    have hr : RD P w K mg G1 v (.str t) := hr
    cases hr
    have q1 : pO P w K mg B E G1 (if t.length ≤ 5592405 then .ok (.v (.str (Txt.upper t))) s1 else .stuck) (kV P w K mg B G σ Q) := q1
    by_cases hl : t.length ≤ 5592405
    · rw [if_pos hl] at q1
      exact ⟨⟨_, rfl⟩, t, rfl, rfl, hl, q1 _ H1 G1 l1 R1 (.str _) fun z => nomatch z⟩
    · rw [if_neg hl] at q1; exact q1.elim
theorem rdE_get {i : Nat} {k : Ex} {Q : VK} (h : rdE P w K mg Φ E (.get i k) σ H Q) : tDGet2 (tVar i) (rdE P w K mg Φ E k) (tC .non) σ H Q := by
  obtain ⟨B, G, s, R, q⟩ := h
  have q : pO P w K mg B E G ((lookV i s).bind fun x s => match x with
    | .sd ks vs => (evE Φ k s).bind fun y s => match y with
      | .v (.str t) => .ok (.v ((lookS ks vs t).getD .non)) s
      | _ => .stuck
    | _ => .stuck) (kV P w K mg B G σ Q) := q
  obtain ⟨r, e1, q1⟩ := lookV_bind q
  obtain ⟨v, hv, hr⟩ := R.slot i r e1
  match r, hr, q1 with
  | .v (.sd ks vs), hr, q1 =>
    have hr : RD P w K mg G v (.sd ks vs) := hr
    cases hr with
    | sd h1 h2 =>
      refine ⟨_, hv, _, rfl, .inl ⟨_, .inl (R.sub _ _ h1)⟩, ?_⟩
      refine rdE_step R q1 fun y s1 u H1 G1 l1 R1 hy al q2 => ?_
      match y, hy, q2 with
      | .v (.str t), hy, q2 =>
        have hy : RD P w K mg G1 u (.str t) := hy
        cases hy
        have q2 : kV P w K mg B G σ Q (.v ((lookS ks vs t).getD .non)) s1 := q2
        have hd := R1.sub _ _ (l1.I _ _ h1)
        have z := RSs.val (x := t) h2
        refine ⟨_, DGet.k (k := Sum.inr t) hd, ?_⟩
        cases e : lookS ks vs t with
        | none =>
          rw [e] at z q2
          rw [show valV _ (Sum.inr t) = none from z]
          exact q2 _ H1 G1 l1 R1 .non fun z => nomatch z
        | some d =>
          rw [e] at z q2
          obtain ⟨v2, z1, z2⟩ := z
          rw [z1]
          exact q2 _ H1 G1 l1 R1 (RD.le l1 z2) fun z => nomatch z
theorem rdE_rev {a : Ex} {Q : VK} (h : rdE P w K mg Φ E (.rev a) σ H Q) : tRevL K (rdB P w K mg Φ E a) σ H Q := by
  obtain ⟨B, G, s, R, q⟩ := h
  refine rdB_step R q fun d s1 v H1 G1 l1 R1 hv q1 => ?_
  cases d with
  | lst ds =>
    obtain ⟨a, xs, rfl, h1, h2⟩ := hv.list R1.sub
    exact ⟨a, xs, rfl, h1, fun p hp => kV_res q1 l1 R1 (.lst hp h2.reverse)⟩
  | _ => exact q1.elim
/-! ### objects -/
theorem flds_ok {m : Mm} {d : D} {v : V} {cl : Str} {fs : List (Str × D)} (M : SM P w K mg B G m H) (hr : RD P w K mg G v d) (e : fldsO cl d m = some fs) : ∃ j a C dx gs, d = .ref j ∧ m[j]? = some (.obj cl fs) ∧ G.ρ[j]? = some a ∧ v = .ref a ∧ H a = some (.ins C dx gs) ∧ mg cl = some (.ref C) ∧ RFs P w K mg G gs fs := by
  unfold fldsO at e
  split at e
  · rename_i j
    split at e
    · rename_i c' fs' em
      split at e
      · rename_i ec
        subst ec
        cases e
        obtain ⟨a, C, dx, gs, h1, h2, h3, h4⟩ := M.obj em
        cases hr with
        | ref h5 =>
          rw [h1] at h5
          cases h5
          exact ⟨j, _, C, dx, gs, rfl, em, h1, rfl, h2, h3, h4⟩
      · cases e
    · cases e
  · cases e
theorem rdE_fld {cl f : Str} {a : Ex} {Q : VK} (hf : ∃ C, mg cl = some (.ref C) ∧ Cls K C ∧ NoAttr K C f) (h : rdE P w K mg Φ E (.fld cl a f) σ H Q) : tFld K (rdE P w K mg Φ E a) f σ H Q := by
  obtain ⟨B, G, s, R, q⟩ := h
  obtain ⟨C, m1, m2, m3⟩ := hf
  refine rdE_stepD R q fun r s1 v H1 G1 l1 R1 hd q1 => ?_
  cases e : fldsO cl r.d s1.mem with
  | none => simp only [e, Option.bind_none, of_none] at q1; exact q1.elim
  | some fs =>
    simp only [e, Option.bind_some] at q1
    cases e2 : fs.lookup f with
    | none => simp only [e2, Option.map_none, of_none] at q1; exact q1.elim
    | some d =>
      simp only [e2, Option.map_some, of_some] at q1
      obtain ⟨j, a, C', dx, gs, _, em, g1, rfl, g2, g3, g4⟩ := flds_ok R1.m hd e
      rw [m1] at g3
      cases g3
      obtain ⟨v, hv, hr⟩ := g4.look e2
      exact ⟨a, _, dx, gs, v, rfl, g2, m2, m3, hv, q1 v H1 G1 l1 R1 hr fun z => nomatch z⟩
theorem rdE_prop {cl f : Str} {a : Ex} {Q : VK} (h : rdE P w K mg Φ E (.prop cl a f) σ H Q) : (rdE P w K mg Φ E a) σ H fun x H1 => ∃ a C dx fs, mg cl = some (.ref C) ∧ x = .ref a ∧ H1 a = some (.ins C dx fs) ∧ spF P w K mg Φ (cl ++ "." ++ f) 1 [.ref a] H1 Q FX := by
  obtain ⟨B, G, s, R, q⟩ := h
  refine rdE_stepD R q fun r s1 v H1 G1 l1 R1 hd q1 => ?_
  cases e : fldsO cl r.d s1.mem with
  | none => simp only [e] at q1; exact q1.elim
  | some fs =>
    simp only [e] at q1
    obtain ⟨j, a, C', dx, gs, _, em, g1, rfl, g2, g3, g4⟩ := flds_ok R1.m hd e
    refine ⟨a, C', dx, gs, g3, rfl, g2, call_end R1 (.cons hd .nil) rfl l1 ?_⟩
    cases e2 : callOut (Φ.call (cl ++ "." ++ f) [r.d] s1.mem) s1.env with
    | stuck => rw [e2] at q1; exact q1.elim
    | exn _ _ _ => rw [e2] at q1; exact q1.elim
    | ok r2 s2 => rw [e2] at q1; exact q1
theorem rdE_cm {cl m : Str} {a : Ex} {C : Addr} {Q : VK} (hm : mg cl = some (.ref C)) (hk : PySem.W.keepIn K (.ref C) = true) (h : rdE P w K mg Φ E (.cm cl m a) σ H Q) :
    ClX.tCMeth C (spF P w K mg Φ (cl ++ "." ++ m) 2) E (tC (.ref C)) (tCons (rdE P w K mg Φ E a) tNil) σ H Q := by
  obtain ⟨B, G, s, R, q⟩ := h
  refine ⟨rfl, ?_⟩
  refine rdE_stepD R q fun r s1 v H1 G1 l1 R1 hd q1 => ?_
  exact call_end R1 (.cons (.fn hm hk) (.cons hd .nil)) rfl l1 q1
/-- a new object is made: its __init__'s promise -/
theorem mk_end {cl : Str} {C : Addr} {xs : List V} {ds : List D} {s1 : S} {Q : VK} (R : SR P w K mg B G s1 σ H) (hm : mg cl = some (.ref C)) (hr : RDs P w K mg G xs ds) (hl : ds.length ≤ lim) (l : G'.Le G)
    (q : pO P w K mg B E G (mkO Φ cl [.tup ds] s1) (kV P w K mg B G' σ Q)) (x dx : Addr) (nx : H x = none) (nd : H dx = none) (ne : dx ≠ x) :
    spS P w K mg Φ (cl ++ ".__init__") (.ref x :: xs) (upd (upd H dx (.own x)) x (.ins C dx [])) (fun v H2 => v = .non ∧ Q (.ref x) H2) E := by
  refine ⟨.ref x, xs, rfl, by rw [hr.length, ← lim_eq]; exact hl, fun p o ho np => ?_⟩
  have nx2 : upd H dx (.own x) x = none := by rw [upd_ne (Ne.symm ne)]; exact nx
  obtain ⟨R2, l2⟩ := (R.new (o := .own x) nd).newRef (o := .obj cl []) (h' := .ins C dx []) nx2 (.obj hm .nil)
  have R3 := R2.newI (o := .frz o (.tup xs)) np
  have l3 := R2.leNew (o := .frz o (.tup xs)) np
  have hx : ({ G with ρ := G.ρ ++ [x] } : Gh).ρ[s1.mem.length]? = some x := by
    show (G.ρ ++ [x])[s1.mem.length]? = some x
    rw [List.getElem?_append_right (by rw [R.m.len]; exact Nat.le_refl _), R.m.len, Nat.sub_self]
    rfl
  have hd1 : RD P w K mg (({ G with ρ := G.ρ ++ [x] } : Gh).fz p (.frz o (.tup xs))) (.ref x) (.ref s1.mem.length) := .ref (l3.at hx)
  have hd2 : RD P w K mg (({ G with ρ := G.ρ ++ [x] } : Gh).fz p (.frz o (.tup xs))) (.ref p) (.tup ds) := .tup (.inl ⟨o, Gh.fz_at, ho⟩) ((hr.le l2).le l3)
  refine call_end (s1 := ⟨s1.env, s1.mem ++ [.obj cl []]⟩) R3 (.cons hd1 (.cons hd2 .nil)) rfl .rfl ?_
  unfold mkO at q
  have l4 := l2.trans l3
  have q : pO P w K mg B E G (match Φ.call (cl ++ ".__init__") [.ref s1.mem.length, .tup ds] (s1.mem ++ [.obj cl []]) with
    | .ok (.v .non) s2 => .ok (.v (.ref s1.mem.length)) ⟨s1.env, s2.mem⟩
    | .exn c p m => .exn c p m
    | _ => .stuck) (kV P w K mg B G' σ Q) := q
  show pO P w K mg B E _ (callOut (Φ.call (cl ++ ".__init__") [.ref s1.mem.length, .tup ds] (s1.mem ++ [.obj cl []])) s1.env) _
  cases e : Φ.call (cl ++ ".__init__") [.ref s1.mem.length, .tup ds] (s1.mem ++ [.obj cl []]) with
  | stuck => rw [e] at q; exact q.elim
  | exn cc p m =>
    rw [e] at q
    exact fun H' G2 l' N => q H' G2 (l4.trans l') N
  | ok r s2 =>
    rw [e] at q
    match r, q with
    | .v .non, q =>
      intro v H2 G2 l5 R5 hr5 _
      have hr5 : RD P w K mg G2 v .non := hr5
      cases hr5
      have q : kV P w K mg B G' σ Q (.v (.ref s1.mem.length)) ⟨s1.env, s2.mem⟩ := q
      have hx2 : RD P w K mg G2 (.ref x) (.ref s1.mem.length) := .ref (l5.at (l3.at hx))
      exact ⟨rfl, q (.ref x) H2 G2 ((l.trans l4).trans l5) R5 hx2 fun z => nomatch z⟩
variable (P w K mg) in
/-- C( *e ) -/
def tMkS (cl : Str) (C : Addr) (Φ : Phi) (E : XK) (te : TE) : TE := fun σ H Q => te σ H fun y H1 => ∃ a xs, y = .ref a ∧ (SqT K H1 a xs ∨ SqL K H1 a xs) ∧ ∀ x dx, H1 x = none → H1 dx = none → dx ≠ x →
  spS P w K mg Φ (cl ++ ".__init__") (.ref x :: xs) (upd (upd H1 dx (.own x)) x (.ins C dx [])) (fun v H2 => v = .non ∧ Q (.ref x) H2) E
theorem mkS_end {cl : Str} {C : Addr} {d : D} {v : V} {s1 : S} {Q : VK} (R : SR P w K mg B G s1 σ H) (hm : mg cl = some (.ref C)) (hv : Vw P w K mg G H v d) (l : G'.Le G)
    (q : pO P w K mg B E G (match starD d with
      | some ds => if ds.length ≤ lim then mkO Φ cl [.tup ds] s1 else .stuck
      | none => .stuck) (kV P w K mg B G' σ Q)) : ∃ a xs, v = .ref a ∧ (SqT K H a xs ∨ SqL K H a xs) ∧ ∀ x dx, H x = none → H dx = none → dx ≠ x →
      spS P w K mg Φ (cl ++ ".__init__") (.ref x :: xs) (upd (upd H dx (.own x)) x (.ins C dx [])) (fun v H2 => v = .non ∧ Q (.ref x) H2) E := by
  cases d with
  | tup ds =>
    obtain ⟨a, xs, rfl, h1, _, h2⟩ := hv.tuple R.sub
    have q : pO P w K mg B E G (if ds.length ≤ lim then mkO Φ cl [.tup ds] s1 else .stuck) (kV P w K mg B G' σ Q) := q
    by_cases hl : ds.length ≤ lim
    · rw [if_pos hl] at q
      exact ⟨a, xs, rfl, .inl h1, fun x dx n1 n2 n3 => mk_end R hm h2 hl l q x dx n1 n2 n3⟩
    · rw [if_neg hl] at q; exact q.elim
  | lst ds =>
    obtain ⟨a, xs, rfl, h1, h2⟩ := hv.list R.sub
    have q : pO P w K mg B E G (if ds.length ≤ lim then mkO Φ cl [.tup ds] s1 else .stuck) (kV P w K mg B G' σ Q) := q
    by_cases hl : ds.length ≤ lim
    · rw [if_pos hl] at q
      exact ⟨a, xs, rfl, .inr h1, fun x dx n1 n2 n3 => mk_end R hm h2 hl l q x dx n1 n2 n3⟩
    · rw [if_neg hl] at q; exact q.elim
  | _ => exact q.elim
theorem rdE_mkS {cl : Str} {C : Addr} {a : Ex} {Q : VK} (hm : mg cl = some (.ref C)) (h : rdE P w K mg Φ E (.mkS cl a) σ H Q) : tMkS P w K mg cl C Φ E (rdB P w K mg Φ E a) σ H Q := by
  obtain ⟨B, G, s, R, q⟩ := h
  exact rdB_step R q fun d s1 v H1 G1 l1 R1 hv q1 => mkS_end R1 hm hv l1 q1
theorem rdE_mkV {cl : Str} {C : Addr} {i : Nat} {a : Ex} {Q : VK} (hm : mg cl = some (.ref C)) (h : rdE P w K mg Φ E (.mkV cl i a) σ H Q) : σ[i]? = some (some (.ref C)) ∧ tMkS P w K mg cl C Φ E (rdB P w K mg Φ E a) σ H Q := by
  obtain ⟨B, G, s, R, q⟩ := h
  have q : pO P w K mg B E G ((lookV i s).bind fun c' s => match c' with
    | .fn c' => if c' = cl then (asB a (evE Φ a) s).bind fun x s => match starD x with
      | some ds => if ds.length ≤ lim then mkO Φ cl [.tup ds] s else .stuck
      | none => .stuck
      else .stuck
    | _ => .stuck) (kV P w K mg B G σ Q) := q
  obtain ⟨r, e1, q1⟩ := lookV_bind q
  obtain ⟨v, hv, hr⟩ := R.slot i r e1
  match r, hr, q1 with
  | .v (.fn c'), hr, q1 =>
    have q1 : pO P w K mg B E G (if c' = cl then (asB a (evE Φ a) s).bind fun x s => match starD x with
      | some ds => if ds.length ≤ lim then mkO Φ cl [.tup ds] s else .stuck
      | none => .stuck
      else .stuck) (kV P w K mg B G σ Q) := q1
    by_cases ec : c' = cl
    · subst ec
      rw [if_pos rfl] at q1
      have hr : RD P w K mg G v (.fn c') := hr
      cases hr with
      | fn h1 h2 =>
        rw [hm] at h1
        cases h1
        exact ⟨hv, rdB_step R q1 fun d s1 v H1 G1 l1 R1 hv q2 => mkS_end R1 hm hv l1 q2⟩
    · rw [if_neg ec] at q1; exact q1.elim
/-- the rule: a class's name, its arguments by a star -/
theorem pe_mkS {cl : Str} {C g : Addr} {k : Nat} {e : Expr} {te : TE} {p sp_ pos : Pos} (hP : X.prog = P) (hw : X.w = w) (hK : X.K = K) (hmg : X.mg = mg) (M : Mk X.K C g) (F : FnR X.prog X.w X.K X.mg X.base (L2N.CX P w) k g (spS P w K mg Φ (cl ++ ".__init__"))) (hr : Room (k + 1) X.A) (hg : Gl X cl) (hm : X.mg cl = some (.ref C))
    (hx : Passes (L2N.CX P w) X E) (he : PE X e te) (hd : (cl == ("__debug__" : Str)) = false) : PE X (.Call (.Name cl p) [.Starred e sp_] [] pos) (tMkS P w K mg cl C Φ E te) := by
  subst hP hw hK hmg
  refine ⟨fun pins s σ H Q I h => wpAny_Call_Name_kw (ld_glob I hg hm ?_ hd)⟩
  refine PySem.W.callWith_S (h₀ := X.base) I.ok.mod.kin M.kp (thn (he.run pins s σ H _ I h) fun v s1 ⟨y, H1, I1, ry, a, xs, ey, hxs, q⟩ => ?_) (by rfl)
  subst ey
  obtain rfl : v = Value.ref a := ry
  exact StX.star_any I1 hxs fun us s2 I2 rv => ⟨I2.kIn, StX.run_makeR M F hr hx I2 rv q⟩
theorem pe_mkV {cl y : Str} {C g : Addr} {i k : Nat} {e : Expr} {te : TE} {p sp_ pos : Pos} (hP : X.prog = P) (hw : X.w = w) (hK : X.K = K) (hmg : X.mg = mg) (M : Mk X.K C g) (F : FnR X.prog X.w X.K X.mg X.base (L2N.CX P w) k g (spS P w K mg Φ (cl ++ ".__init__"))) (hr : Room (k + 1) X.A) (hN : X.N[i]? = some y) (hv : Vis X.env.scope y)
    (n1 : (y == ("__debug__" : Str)) = false) (n2 : (y == ("__classdict__" : Str)) = false) (hx : Passes (L2N.CX P w) X E) (he : PE X e te) :
    PE X (.Call (.Name y p) [.Starred e sp_] [] pos) (fun σ H Q => σ[i]? = some (some (.ref C)) ∧ tMkS P w K mg cl C Φ E te σ H Q) := by
  subst hP hw hK hmg
  refine ⟨fun pins s σ H Q I ⟨hs, h⟩ => wpAny_Call_Name_kw (thn ((pe_var (pos := p) hN hv n1 n2).run pins s σ H (fun v H1 => v = .ref C ∧ H1 = H) I ⟨.ref C, hs, rfl, rfl⟩) fun u s0 ⟨v0, H0, I0, r0, ev, eH⟩ => ?_)⟩
  subst ev eH
  cases r0
  refine PySem.W.callWith_S (h₀ := X.base) I0.ok.mod.kin M.kp (thn (he.run pins s0 σ H0 _ I0 h) fun v s1 ⟨y, H1, I1, ry, a, xs, ey, hxs, q⟩ => ?_) (by rfl)
  subst ey
  obtain rfl : v = Value.ref a := ry
  exact StX.star_any I1 hxs fun us s2 I2 rv => ⟨I2.kIn, StX.run_makeR M F hr hx I2 rv q⟩
end
end Pah
end
section
set_option maxHeartbeats 2000000
/-! Set1: tables of up to 512 slots; what a table's order is after laying anew. -/
namespace Pah
open PySem PySem.Spec PyProof.Rows L2 PySem.W
/-- every slot begins one of the runs of each search, early enough -/
structure Full (m : Nat) : Prop where
  le : m ≤ 511
  odd : m % 2 = 1
  met : ∀ (h : Int) (j : Nat), j ≤ m → ∃ n, n ≤ m + 12 ∧ runI m (SetTable.bits h) n = j
theorem Full.small {m : Nat} (h : MaskOk m) : Full m where
  le := by rcases h with e | e | e <;> omega
  odd := mask_odd h
  met := fun x _ hj => run_meets h x hj
/-- the orbit of a number -/
def orb (m : Nat) : Nat → Nat → List Nat
  | 0, _ => []
  | n + 1, x => x :: orb m n ((x * 5 + 1) % (m + 1))
theorem lcgI_shift (m x : Nat) : ∀ k, lcgI m ((x * 5 + 1) % (m + 1)) k = lcgI m x (k + 1)
  | 0 => rfl
  | k + 1 => congrArg (fun z => (z * 5 + 1) % (m + 1)) (lcgI_shift m x k)
theorem lcgI_add (m x a : Nat) : ∀ k, lcgI m (lcgI m x a) k = lcgI m x (a + k)
  | 0 => rfl
  | k + 1 => congrArg (fun z => (z * 5 + 1) % (m + 1)) (lcgI_add m x a k)
theorem orb_mem {m j : Nat} : ∀ (n x : Nat), j ∈ orb m n x → ∃ k, k < n ∧ lcgI m x k = j
  | 0, _, h => nomatch h
  | n + 1, x, h => by
    rcases List.mem_cons.mp h with e | h
    · exact ⟨0, Nat.succ_pos _, e.symm⟩
    · obtain ⟨k, hk, e⟩ := orb_mem n _ h
      exact ⟨k + 1, Nat.succ_lt_succ hk, by rw [← lcgI_shift]; exact e⟩
theorem orb_all : ((List.range 512).all fun j => (orb 511 512 0).any fun x => Nat.beq x j) = true := by decide +kernel
theorem orb_back : lcgI 511 0 512 = 0 := by decide +kernel
theorem orb_meets {j : Nat} (h : j ≤ 511) : ∃ k, k < 512 ∧ lcgI 511 0 k = j := by
  have h1 := List.all_eq_true.mp orb_all j (List.mem_range.mpr (by omega))
  obtain ⟨x, hx, e⟩ := List.any_eq_true.mp h1
  rw [Nat.eq_of_beq_eq_true e] at hx
  exact orb_mem _ _ hx
theorem Full.big : Full 511 where
  le := Nat.le_refl _
  odd := rfl
  met := fun h j hj => by
    obtain ⟨a, ha, ea⟩ := orb_meets (runI_le 511 (SetTable.bits h) 12)
    obtain ⟨b, hb, eb⟩ := orb_meets hj
    have per : ∀ k, lcgI 511 0 (512 + k) = lcgI 511 0 k := fun k => by
      have z := lcgI_add 511 0 512 k
      rw [orb_back] at z
      exact z.symm
    by_cases c : a ≤ b
    · refine ⟨12 + (b - a), by omega, ?_⟩
      rw [runI_tail (bits_lt h), ← ea, lcgI_add, show a + (b - a) = b by omega, eb]
    · refine ⟨12 + (512 + b - a), by omega, ?_⟩
      rw [runI_tail (bits_lt h), ← ea, lcgI_add, show a + (512 + b - a) = 512 + b by omega, per, eb]
theorem way_in (m : Nat) (h : Int) (k : Nat) : way m h k ≤ m := by
  have r := runEnd_bd (m := m) (i := SetTable.bits h % (m + 1)) (Nat.le_of_lt_succ (Nat.mod_lt _ (Nat.succ_pos _)))
  have q := nth_in (m := m) k (runAt m (SetTable.bits h % (m + 1)) (SetTable.bits h)) (by
    show SetTable.bits h % (m + 1) + (SetTable.runEnd m (SetTable.bits h % (m + 1)) - SetTable.bits h % (m + 1)) ≤ m
    omega)
  exact Nat.le_trans (Nat.le_add_right _ _) q
/-- the way meets each slot within the search's bound -/
theorem Full.way {m : Nat} (F : Full m) (h : Int) {j : Nat} (hj : j ≤ m) : ∃ k, k < 10 * SetTable.turns m ∧ L2.way m h k = j := by
  obtain ⟨n, hn, e⟩ := F.met h j hj
  obtain ⟨k, hk, e2⟩ := run_nth m (SetTable.bits h) n
  refine ⟨k, ?_, ?_⟩
  · unfold SetTable.turns
    omega
  · show (nth m (runAt m (SetTable.bits h % (m + 1)) (SetTable.bits h)) k).j = j
    rw [e2]
    exact e
theorem Full.find {m : Nat} (F : Full m) (owner : Array (Option Nat)) (h : Int) {j : Nat} (hj : j ≤ m) (hf : oAt owner j = none) :
    ∃ K, SetTable.layClean.free m owner (SetTable.turns m) (SetTable.bits h % (m + 1)) (SetTable.bits h) = some (L2.way m h K) ∧ oAt owner (L2.way m h K) = none ∧ ∀ k, k < K → oAt owner (L2.way m h k) ≠ none := by
  obtain ⟨n, hn, e⟩ := F.met h j hj
  have hw : oAt owner (L2.way m h (off m (SetTable.bits h % (m + 1)) (SetTable.bits h) n)) = none := by
    have : L2.way m h (off m (SetTable.bits h % (m + 1)) (SetTable.bits h) n) = j := by
      unfold L2.way
      rw [nth_off, itL_run]
      exact e
    rw [this]
    exact hf
  obtain ⟨K, k1, k2, k3⟩ := st_least (p := fun k => oAt owner (L2.way m h k) = none) _ hw
  refine ⟨K, free_spec m owner (SetTable.turns m) n _ _ K (by unfold SetTable.turns; omega) k1 (fun k hk => ?_) ?_, k2, k3⟩
  · cases z : oAt owner (nth m (runAt m (SetTable.bits h % (m + 1)) (SetTable.bits h)) k).j with
    | none => exact absurd z (k3 k hk)
    | some _ => rfl
  · have q : oAt owner (nth m (runAt m (SetTable.bits h % (m + 1)) (SetTable.bits h)) K).j = none := k2
    rw [q]
    rfl
theorem Full.put {m : Nat} (F : Full m) {done : List Int} {owner : Array (Option Nat)} (W : Own m done owner) (hl : done.length ≤ m) (h : Int) :
    ∃ j, SetTable.layClean.free m owner (SetTable.turns m) (SetTable.bits h % (m + 1)) (SetTable.bits h) = some j ∧ Own m (done ++ [h]) (owner.setIfInBounds j (some done.length)) := by
  obtain ⟨ps, hps, hin⟩ := W.ps
  obtain ⟨j0, h0, hn0⟩ := st_missing ps (m + 1) (by omega)
  obtain ⟨K, e1, e2, e3⟩ := F.find owner h (Nat.le_of_lt_succ h0) (by
    cases z : oAt owner j0 with
    | none => rfl
    | some k => exact absurd (hin j0 (Nat.le_of_lt_succ h0) (by rw [z]; simp)) hn0)
  have hjm := way_in m h K
  generalize hw : L2.way m h K = J at *
  have hself : oAt (owner.setIfInBounds J (some done.length)) J = some done.length := oAt_set_self _ (by rw [W.sz]; omega)
  have stay : ∀ {i : Nat}, oAt owner i ≠ none → oAt (owner.setIfInBounds J (some done.length)) i = oAt owner i := fun {i} hi => oAt_set_ne _ (fun c => hi (by rw [c]; exact e2))
  refine ⟨J, e1, ⟨by rw [Array.size_setIfInBounds]; exact W.sz, fun j k hj e => ?_, fun k hk => ?_, ⟨J :: ps, by simp [hps], fun j hj e => ?_⟩⟩⟩
  · by_cases c : j = J
    · subst c
      rw [hself] at e
      cases e
      refine ⟨h, K, by simp, hw, fun k' hk' => ?_⟩
      rw [stay (e3 k' hk')]
      exact e3 k' hk'
    · rw [oAt_set_ne _ c] at e
      obtain ⟨h', K', a1, a2, a3⟩ := W.at_ j k hj e
      refine ⟨h', K', ?_, a2, fun k' hk' => ?_⟩
      · rw [List.getElem?_append_left (List.getElem?_eq_some_iff.mp a1).1]
        exact a1
      · rw [stay (a3 k' hk')]
        exact a3 k' hk'
  · rw [List.length_append, List.length_singleton] at hk
    by_cases c : k < done.length
    · obtain ⟨j, hj, e⟩ := W.all k c
      exact ⟨j, hj, by rw [stay (by rw [e]; simp)]; exact e⟩
    · have ek : k = done.length := by omega
      exact ⟨J, hjm, by rw [ek]; exact hself⟩
  · by_cases c : j = J
    · rw [c]
      exact List.mem_cons_self
    · rw [oAt_set_ne _ c] at e
      exact List.mem_cons_of_mem _ (hin j hj e)
theorem Full.fold {m : Nat} (F : Full m) : ∀ (rest done : List Int) (owner : Array (Option Nat)), Own m done owner → done.length + rest.length ≤ m →
    ∃ owner', rest.foldl (stepF m) (some (owner, done.length)) = some (owner', (done ++ rest).length) ∧ Own m (done ++ rest) owner'
  | [], done, owner, W, _ => ⟨owner, by simp, by rw [List.append_nil]; exact W⟩
  | h :: rest, done, owner, W, hl => by
    rw [List.length_cons] at hl
    obtain ⟨j, e, W'⟩ := F.put W (by omega) h
    obtain ⟨owner', f, W2⟩ := F.fold rest (done ++ [h]) _ W' (by rw [List.length_append, List.length_singleton]; omega)
    rw [List.append_assoc, List.singleton_append] at f W2
    rw [List.length_append (as := done) (bs := [h]), List.length_singleton] at f
    refine ⟨owner', ?_, W2⟩
    rw [List.foldl_cons, stepF_some e]
    exact f
theorem Full.lay {m : Nat} (F : Full m) {hs : Array Int} (hn : hs.size ≤ m) : ∃ owner, SetTable.layClean m hs = some owner ∧ Own m hs.toList owner := by
  obtain ⟨owner, f, W⟩ := F.fold hs.toList [] _ (Own.init m) (by simpa using hn)
  refine ⟨owner, ?_, W⟩
  rw [layClean_eq, show (some (Array.replicate (m + 1) none, 0) : Option (Array (Option Nat) × Nat)) = some (Array.replicate (m + 1) none, ([] : List Int).length) from rfl, f]
  rfl
end Pah
end
section
set_option maxHeartbeats 2000000
/-! Set2: the table's word, with up to 512 slots; keys that are tuples. -/
namespace Pah
open PySem PySem.Spec PyProof.Rows L2 PySem.W
/-- all slots are found again from their hashes -/
structure TabG (t : SetTable) (hs : List Int) : Prop where
  ris : Ris t.place.toList
  dm : t.dummies = #[]
  sz : t.place.size = hs.length
  full : Full t.mask
  reach : ∀ (i : Nat) (h : Int) (j : Nat), hs[i]? = some h → t.place.toList[i]? = some j → ∃ k, L2.way t.mask h k = j ∧ ∀ k', k' < k → L2.way t.mask h k' ∈ t.place.toList
theorem TabG.first {t : SetTable} {hs : List Int} (T : TabG t hs) (hl : hs.length ≤ t.mask) (h : Int) : ∃ K, K < 10 * SetTable.turns t.mask ∧ L2.way t.mask h K ∉ t.place.toList ∧ ∀ k, k < K → L2.way t.mask h k ∈ t.place.toList := by
  have hlen : t.place.toList.length < t.mask + 1 := by
    have := T.sz
    rw [Array.length_toList]
    omega
  obtain ⟨j, hj, hn⟩ := st_missing _ _ hlen
  obtain ⟨k, hk, e⟩ := T.full.way h (Nat.le_of_lt_succ hj)
  obtain ⟨K, h1, h2, h3⟩ := st_least (p := fun k => L2.way t.mask h k ∉ t.place.toList) k (fun z => hn (by rw [← e]; exact z))
  exact ⟨K, by omega, h2, fun k' hk' => Classical.not_not.mp (h3 k' hk')⟩
theorem TabG.before {t : SetTable} {hs : List Int} (T : TabG t hs) {h : Int} {K i j : Nat} (hK : L2.way t.mask h K ∉ t.place.toList) (hi : hs[i]? = some h) (hj : t.place.toList[i]? = some j) : ∃ k, k < K ∧ L2.way t.mask h k = j := by
  obtain ⟨k, e, hb⟩ := T.reach i h j hi hj
  refine ⟨k, Nat.lt_of_not_le fun c => ?_, e⟩
  rcases Nat.lt_or_eq_of_le c with c | c
  · exact hK (hb K c)
  · rw [c, e] at hK
    exact hK (List.mem_of_getElem? hj)
/-- one more -/
theorem TabG.put {t : SetTable} {hs : List Int} (T : TabG t hs) {h : Int} {K p : Nat} {t1 : SetTable} (hK : L2.way t.mask h K ∉ t.place.toList) (hb : ∀ k, k < K → L2.way t.mask h k ∈ t.place.toList)
    (e : t.put (L2.way t.mask h K) = (t1, p)) : p ≤ hs.length ∧ TabG t1 (hs.take p ++ h :: hs.drop p) ∧ t1.mask = t.mask ∧ t1.led = t.led ∧ t1.fill = hs.length + 1 := by
  obtain ⟨j, hj⟩ : ∃ j, j = L2.way t.mask h K := ⟨_, rfl⟩
  rw [← hj] at hK e
  have ep : SetTable.below t.place j = p := congrArg Prod.snd e
  have e1 : (t.put j).1 = t1 := congrArg Prod.fst e
  have hpp := put_place t j
  rw [e1, ep] at hpp
  obtain ⟨c1, _, _⟩ := below_cut T.ris j
  rw [ep] at c1
  have hsz := T.sz
  have hpl : p ≤ t.place.toList.length := by rw [Array.length_toList]; exact c1
  have hph : p ≤ hs.length := by omega
  have hd : t1.dummies = #[] := by rw [← e1]; exact put_dm T.dm j
  have hm : t1.mask = t.mask := by rw [← e1]; rfl
  have hsize : t1.place.size = hs.length + 1 := by
    have z := congrArg List.length hpp
    rw [len_ins _ hpl, Array.length_toList, Array.length_toList] at z
    omega
  have up : ∀ {x : Nat}, x ∈ t.place.toList → x ∈ t1.place.toList := fun {x} hx => by
    rw [hpp]
    exact mem_ins.2 (.inr hx)
  refine ⟨hph, ⟨?_, hd, ?_, by rw [hm]; exact T.full, fun i h' j' h1 h2 => ?_⟩, hm, by rw [← e1]; rfl, ?_⟩
  · have z := ris_insert T.ris (j := j) fun z => hK (List.mem_of_getElem? (by rw [Array.getElem?_toList]; exact z))
    rw [ep] at z
    rw [hpp]
    rw [SetTable.toList_insertAt] at z
    exact z
  · rw [len_ins _ hph]
    exact hsize
  · rw [tins_get hs hph] at h1
    rw [hpp, tins_get _ hpl] at h2
    rw [hm]
    have old : ∀ i', hs[i']? = some h' → t.place.toList[i']? = some j' → ∃ k, L2.way t.mask h' k = j' ∧ ∀ k', k' < k → L2.way t.mask h' k' ∈ t1.place.toList := fun i' a b => by
      obtain ⟨k, e, z⟩ := T.reach i' h' j' a b
      exact ⟨k, e, fun k' hk' => up (z k' hk')⟩
    by_cases c : i < p
    · rw [if_pos c] at h1 h2
      exact old i h1 h2
    · rw [if_neg c] at h1 h2
      by_cases d : i = p
      · rw [if_pos d] at h1 h2
        cases h1
        cases h2
        exact ⟨K, hj.symm, fun k' hk' => up (hb k' hk')⟩
      · rw [if_neg d] at h1 h2
        exact old (i - 1) h1 h2
  · unfold SetTable.fill
    rw [hsize, hd]
    rfl
/-- laid anew -/
theorem TabG.anew (t : SetTable) {hs : Array Int} {wanted M : Nat} (hw : SetTable.sizeAbove wanted - 1 = M) (F : Full M) (hn : hs.size ≤ M) :
    ∃ t' order, t.relaid hs wanted = some (t', order) ∧ order.toList.Perm (List.range hs.size) ∧ TabG t' (order.toList.map fun i => hs.getD i 0) ∧ t'.mask = M ∧ t'.led = t.led := by
  obtain ⟨owner, e, W⟩ := F.lay hn
  have hlh : hs.toList.length = hs.size := Array.length_toList
  obtain ⟨l1, l2⟩ := ris_live (fun j => owner.getD j none) (List.range (M + 1)) (by
    unfold Ris
    first | exact List.pairwise_lt_range | exact List.pairwise_lt_range _)
  change Ris ((liveOf M owner).map (·.1)) at l1
  change ∀ x ∈ (liveOf M owner).map (·.1), x ∈ List.range (M + 1) at l2
  have hlen : (liveOf M owner).length = hs.size := by
    obtain ⟨ps, p1, p2⟩ := W.ps
    have nd : ((liveOf M owner).map (·.1)).Nodup := l1.imp fun h => Nat.ne_of_lt h
    have a := nat_nodup_len _ ps nd fun x hx => by
      obtain ⟨⟨y, k⟩, hq, rfl⟩ := List.mem_map.mp hx
      obtain ⟨b1, b2⟩ := (mem_live W.sz).1 hq
      exact p2 y b1 (by rw [b2]; simp)
    have b := nat_nodup_len (List.range hs.size) ((liveOf M owner).map (·.2)) List.nodup_range fun k hk => by
      obtain ⟨j, b1, b2⟩ := W.all k (by rw [hlh]; exact List.mem_range.mp hk)
      exact List.mem_map.mpr ⟨(j, k), (mem_live W.sz).2 ⟨b1, b2⟩, rfl⟩
    rw [List.length_map] at a
    rw [List.length_map, List.length_range] at b
    omega
  refine ⟨tabOf t M owner, ((liveOf M owner).map (·.2)).toArray, by rw [relaid_eq, hw, e]; rfl, ?_, ⟨l1, rfl, ?_, F, fun i h j h1 h2 => ?_⟩, rfl, rfl⟩
  · refine perm_range hs.size _ (by simpa using hlen) fun k hk => ?_
    obtain ⟨j, b1, b2⟩ := W.all k (by rw [hlh]; exact hk)
    exact List.mem_map.mpr ⟨(j, k), (mem_live W.sz).2 ⟨b1, b2⟩, rfl⟩
  · show ((liveOf M owner).map (·.1)).toArray.size = _
    simp
  · change (((liveOf M owner).map (·.2)).map fun i => hs.getD i 0)[i]? = some h at h1
    change ((liveOf M owner).map (·.1))[i]? = some j at h2
    rw [List.getElem?_map, List.getElem?_map] at h1
    rw [List.getElem?_map] at h2
    cases hq : (liveOf M owner)[i]? with
    | none => rw [hq] at h2; cases h2
    | some q =>
      obtain ⟨y, k⟩ := q
      rw [hq] at h1 h2
      have ej : y = j := Option.some.inj h2
      have eh : hs.getD k 0 = h := Option.some.inj h1
      obtain ⟨b1, b2⟩ := (mem_live W.sz).1 (List.mem_of_getElem? hq)
      obtain ⟨h0, K, a1, a2, a3⟩ := W.at_ y k b1 b2
      have e0 : hs.getD k 0 = h0 := by
        rw [Array.getD_eq_getD_getElem?, ← Array.getElem?_toList, a1]
        rfl
      subst ej
      rw [← eh, e0]
      refine ⟨K, a2, fun k' hk' => ?_⟩
      cases z : oAt owner (L2.way M h0 k') with
      | none => exact absurd z (a3 k' hk')
      | some k2 => exact List.mem_map.mpr ⟨(L2.way M h0 k', k2), (mem_live W.sz).2 ⟨way_in M h0 k', z⟩, rfl⟩
section
variable {P : Program} {w : World} {A : Around} {E : Value → Shared → Prop} {s : Shared}
/-- asking whether hashes go by value ends -/
def ByAt (P : Program) (w : World) (n : Nat) (s : Shared) (v : Value) : Prop := ∀ (A : Around) (E : Value → Shared → Prop) (Q : Bool → Shared → Prop), (∀ b, Q b s) → wpAny (model P w) A (hashByValue n v) Q E s
/-- no class statement made it -/
def PlainAt (P : Program) (w : World) (n : Nat) (s : Shared) (v : Value) : Prop := ∀ (A : Around) (E : Value → Shared → Prop) (Q : Bool → Shared → Prop), Q false s → wpAny (model P w) A (ofAClassStatement n v) Q E s
theorem ByAt.tup {n : Nat} {a : Addr} {o : Obj} {vs : Array Value} {m : Nat} (ho : s.heap.get? a = some o) (hc : o.cls = .type "tuple") (hd : o.data = .seq vs m) (hq : ∀ v ∈ vs.toList, ByAt P w n s v) : ByAt P w (n + 1) s (.ref a) := fun A E Q h => by
  unfold hashByValue
  refine wpAny_bind (wpAny_specialOf ⟨o, ho, hc⟩ F.slot_tuple_hash.lookup ?_)
  show wpAny _ _ (seqItems? (.ref a) >>= _) _ _ s
  refine wpAny_bind (wpAny_seqItems ho hd (wpAny_bind ?_))
  show wpAny _ _ (forIn vs _ _) _ _ s
  rw [← Array.forIn_toList]
  refine wpAny_forIn_list _ (fun rest r s' => s' = s ∧ ∀ v ∈ rest, ByAt P w n s v) _ ?_ ?_ _ _ ⟨rfl, hq⟩
  · rintro v rest r s' ⟨rfl, hall⟩
    refine wpAny_bind (hall v List.mem_cons_self _ _ _ fun b => ?_)
    cases b with
    | true =>
      simp only [Bool.not_true, Bool.false_eq_true, if_false]
      exact wpAny_pure ⟨rfl, fun u hu => hall u (List.mem_cons_of_mem _ hu)⟩
    | false =>
      simp only [Bool.not_false, if_true]
      exact wpAny_pure (wpAny_pure (h _))
  · rintro ⟨r1, r2⟩ s' ⟨rfl, _⟩
    cases r1 with
    | none => exact wpAny_pure (h _)
    | some b => exact wpAny_pure (h _)
theorem ByAt.val {n : Nat} {v : Value} (h : carriedByValue v = true) (hf : ∀ b t, v ≠ .float b t) : ByAt P w n s v := fun A E Q q => by
  cases v with
  | ref a => cases h
  | float b t => exact absurd rfl (hf b t)
  | _ => cases n <;> exact wpAny_pure (q _)
theorem PlainAt.val {n : Nat} {v : Value} (h : carriedByValue v = true) : PlainAt P w n s v := fun A E Q q => by
  cases v with
  | ref a => cases h
  | _ => cases n <;> exact wpAny_pure q
theorem PlainAt.tup {n : Nat} {a : Addr} {o : Obj} {vs : Array Value} {m : Nat} (ho : s.heap.get? a = some o) (hc : o.cls = .type "tuple") (hd : o.data = .seq vs m) (hq : ∀ v ∈ vs.toList, PlainAt P w n s v) : PlainAt P w (n + 1) s (.ref a) := fun A E Q h => by
  unfold ofAClassStatement
  refine wpAny_bind (wpAny_typeOf ⟨o, ho, hc⟩ ?_)
  dsimp only
  have e : (("tuple" : String) == "tuple") = true := by decide
  simp only [e, if_true]
  refine wpAny_bind (wpAny_pure ?_)
  simp only [Bool.not_true, Bool.false_eq_true, if_false]
  show wpAny _ _ (seqItems? (.ref a) >>= _) _ _ s
  refine wpAny_bind (wpAny_seqItems ho hd ?_)
  dsimp only
  refine wpAny_bind ?_
  show wpAny _ _ (forIn vs _ _) _ _ s
  rw [← Array.forIn_toList]
  refine wpAny_forIn_list _ (fun rest r s' => r.1 = none ∧ s' = s ∧ ∀ v ∈ rest, PlainAt P w n s v) _ ?_ ?_ _ _ ⟨rfl, rfl, hq⟩
  · rintro v rest r s' ⟨hr, rfl, hall⟩
    refine wpAny_bind (hall v List.mem_cons_self _ _ _ ?_)
    simp only [Bool.false_eq_true, if_false]
    exact wpAny_pure ⟨rfl, rfl, fun u hu => hall u (List.mem_cons_of_mem _ hu)⟩
  · rintro ⟨r1, r2⟩ s' ⟨hr, rfl, _⟩
    change r1 = none at hr
    subst hr
    exact wpAny_pure h
mutual
theorem by_key : ∀ (k : NestedKey) (v : Value) (n : Nat), NestedIs s.heap k v → k.depth ≤ n → ByAt P w n s v ∧ PlainAt P w n s v
  | .none, _, n, x, _ => by cases x; exact ⟨.val rfl (fun _ _ z => nomatch z), .val rfl⟩
  | .num i, _, n, x, _ => by cases x <;> exact ⟨.val rfl (fun _ _ z => nomatch z), .val rfl⟩
  | .text y, _, n, x, _ => by cases x; exact ⟨.val rfl (fun _ _ z => nomatch z), .val rfl⟩
  | .tup ks, _, n, x, hn => by
    cases x with
    | tup hg hc hd hk =>
      simp only [NestedKey.depth] at hn
      cases n with
      | zero => omega
      | succ n =>
        have z := by_keys ks _ n hk (by omega)
        exact ⟨.tup hg hc hd fun v hv => (z v hv).1, .tup hg hc hd fun v hv => (z v hv).2⟩
theorem by_keys : ∀ (ks : List NestedKey) (vs : List Value) (n : Nat), NestedAll s.heap ks vs → NestedKey.depthAll ks ≤ n → ∀ v ∈ vs, ByAt P w n s v ∧ PlainAt P w n s v
  | [], _, n, x, _, v, hv => by cases x; cases hv
  | k :: ks, _, n, x, hn, v, hv => by
    cases x with
    | cons x1 x2 =>
      simp only [NestedKey.depthAll] at hn
      rcases List.mem_cons.mp hv with e | hv
      · rw [e]; exact by_key k _ n x1 (by omega)
      · exact by_keys ks _ n x2 (by omega) v hv
end
variable (P w) in
/-- the tuple at a is this key -/
abbrev KeyAt (h : Heap) (k : NestedKey) (a : Addr) : Prop := (nestedKind P w).is h k a
/-- a search among such keys shows nothing -/
theorem unseen {k : NestedKey} {b : Addr} {Q : Bool → Shared → Prop} (hk : KeyAt P w s.heap k b) {ys : List Value} (hy : ∀ y ∈ ys, ∃ k' c, y = Value.ref c ∧ KeyAt P w s.heap k' c) (h : Q false s) :
    wpAny (model P w) A (searchCouldBeSeen (.ref b) ys) Q E s := by
  unfold searchCouldBeSeen
  refine wpAny_bind ?_
  refine wpAny_forIn_list _ (fun rest r s' => r.1 = none ∧ s' = s ∧ ∀ y ∈ rest, ∃ k' c, y = Value.ref c ∧ KeyAt P w s.heap k' c) _ ?_ ?_ _ _ ⟨rfl, rfl, hy⟩
  · rintro v rest r s' ⟨hr, rfl, hall⟩
    obtain ⟨k', c, rfl, hc⟩ := hall v List.mem_cons_self
    have more : ∀ y ∈ rest, ∃ k' c, y = Value.ref c ∧ KeyAt P w s'.heap k' c := fun u hu => hall u (List.mem_cons_of_mem _ hu)
    dsimp only
    by_cases hv : (b == c || (carriedByValue (.ref b) && carriedByValue (.ref c))) = true
    · exact wp_if_pos hv (wpAny_pure ⟨rfl, rfl, more⟩)
    · refine wp_if_neg hv ?_
      refine wpAny_bind ((nestedKind P w).quiet hk ?_)
      simp only [Bool.not_true, Bool.false_eq_true, if_false]
      refine wpAny_bind ((nestedKind P w).quiet hc ?_)
      simp only [Bool.not_true, Bool.false_eq_true, if_false]
      refine wpAny_bind ((by_key k _ 8 hk.1 hk.2).2 _ _ _ ?_)
      simp only [Bool.false_eq_true, if_false]
      refine wpAny_bind ((by_key k' _ 8 hc.1 hc.2).2 _ _ _ ?_)
      simp only [Bool.false_eq_true, if_false]
      exact wpAny_pure ⟨rfl, rfl, more⟩
  · rintro ⟨r1, r2⟩ s' ⟨hr, rfl, _⟩
    change r1 = none at hr
    subst hr
    exact wpAny_pure h
end
end Pah
end
section
set_option maxHeartbeats 2000000
/-! Set3: a set of tuples; adding. -/
namespace Pah
open PySem PySem.Spec PyProof.Rows L2 PySem.W
section
variable {P : Program} {w : World} {A : Around} {E : Value → Shared → Prop} {s : Shared}
abbrev KL := List (Addr × NestedKey)
def hs (w : World) (L : KL) : List Int := L.map fun p => p.2.hash w
def rowsK (w : World) (L : KL) : List (Int × Value) := L.map fun p => (p.2.hash w, Value.ref p.1)
structure SetG (P : Program) (w : World) (h : Heap) (a : Addr) (L : KL) (es : Array (Int × Value)) (ep : Nat) (t : SetTable) : Prop where
  ob : ∃ o, h.get? a = some o ∧ o.ExactSet ∧ o.data = .set es ep t
  rows : es.toList = rowsK w L
  tab : TabG t (hs w L)
  nd : (L.map (·.2)).Nodup
  key : ∀ p ∈ L, KeyAt P w h p.2 p.1
  led : w.params.followText "set-order" = true ∨ t.led = true
  room : L.length * 5 < t.mask * 3
  mask : t.mask = 7 ∨ t.mask = 31 ∨ t.mask = 127 ∨ t.mask = 511
variable {a : Addr} {L : KL} {es : Array (Int × Value)} {ep : Nat} {t : SetTable}
theorem rows_size {es : Array (Int × Value)} (r : es.toList = rowsK w L) : es.size = L.length := by
  rw [← Array.length_toList, r]
  exact List.length_map _
theorem rows_at {es : Array (Int × Value)} (r : es.toList = rowsK w L) {i : Nat} {p : Addr × NestedKey} (h : L[i]? = some p) : es[i]? = some (p.2.hash w, Value.ref p.1) := by
  rw [← Array.getElem?_toList, r, rowsK, List.getElem?_map, h]
  rfl
theorem tab_fits {t : SetTable} {n : Nat} (h1 : t.place.size = n) (h2 : t.dummies = #[]) (h3 : n ≤ t.mask) : t.fits n = true := by
  unfold SetTable.fits SetTable.fill
  rw [h1, h2, Bool.and_eq_true, beq_iff_eq, decide_eq_true_eq]
  exact ⟨rfl, h3⟩
theorem SetG.fits (R : SetG P w s.heap a L es ep t) : t.fits es.size = true := by
  have h1 := R.tab.sz
  have h2 := rows_size R.rows
  have h3 := R.room
  rw [hs, List.length_map] at h1
  exact tab_fits (by omega) R.tab.dm (by omega)
theorem nth_dummy (m : Nat) : ∀ (n : Nat) (p : SetTable.Probe), p.dummy = none → (nth m p n).dummy = none
  | 0, _, h => h
  | n + 1, p, h => nth_dummy m n (adv m p) (by
    unfold adv
    split <;> exact h)
/-- the search, from the c-th step of the way on -/
theorem seek (R : SetG P w s.heap a L es ep t) {x : Addr} {k : NestedKey} (hx : KeyAt P w s.heap k x) (hu : A.units + 8 < cLine) {K : Nat} (hKf : K < 10 * SetTable.turns t.mask)
    (hK : L2.way t.mask (k.hash w) K ∉ t.place.toList) (hKb : ∀ c, c < K → L2.way t.mask (k.hash w) c ∈ t.place.toList) {Q : SetFound → Shared → Prop}
    (hin : k ∈ L.map (·.2) → Q (.there none) s) (hout : k ∉ L.map (·.2) → Q (.free (L2.way t.mask (k.hash w) K) false) s) :
    ∀ (f c : Nat) (stand : Option SetTable.Probe), stand.getD (t.probeStart (k.hash w)) = nth t.mask (runAt t.mask (SetTable.bits (k.hash w) % (t.mask + 1)) (SetTable.bits (k.hash w))) c → c ≤ K → K - c < f →
      (∀ (i : Nat) p, L[i]? = some p → p.2 = k → ∃ c', c ≤ c' ∧ c' < K ∧ t.place.toList[i]? = some (L2.way t.mask (k.hash w) c')) →
      wpAny (model P w) A (setSearchFrom a (.ref x) (k.hash w) true f stand) Q E s
  | 0, c, stand, _, _, hf, _ => absurd hf (Nat.not_lt_zero _)
  | f + 1, c, stand, hst, hc, hf, hre => by
    obtain ⟨o, ho, hex, hd⟩ := R.ob
    obtain ⟨N, hN⟩ : ∃ N, N = fun q => nth t.mask (runAt t.mask (SetTable.bits (k.hash w) % (t.mask + 1)) (SetTable.bits (k.hash w))) q := ⟨_, rfl⟩
    have eN : ∀ q, nth t.mask (runAt t.mask (SetTable.bits (k.hash w) % (t.mask + 1)) (SetTable.bits (k.hash w))) q = N q := fun q => by rw [hN]
    have wN : ∀ q, L2.way t.mask (k.hash w) q = (N q).j := fun q => by rw [hN]
    have sh : ∀ q, nth t.mask (N c) q = N (c + q) := fun q => by rw [hN]; exact (nth_add t.mask c _ q).symm
    rw [eN] at hst
    rw [setSearchFrom_succ]
    refine wpAny_bind (wpAny_setState_of ho hd R.fits ?_)
    dsimp only
    refine wp_if_neg (by unfold SetTable.gaveWay; rw [R.tab.full.odd]; decide) ?_
    try refine wpAny_bind (wpAny_pure ?_)
    have hnd : (N c).dummy = none := by rw [← eN]; exact nth_dummy _ _ _ rfl
    have spec := go_spec t R.tab.ris R.tab.dm (fun i => (es[i]?.map (·.1)).getD 0) (k.hash w) (10 * SetTable.turns t.mask) (K - c) (N c) hnd (by omega)
      (fun q hq => by rw [sh, ← wN]; exact hKb _ (by omega)) (by rw [sh, ← wN, show c + (K - c) = K by omega]; exact hK)
    have hashAt : ∀ (i : Nat) p, L[i]? = some p → (es[i]?.map (·.1)).getD 0 = p.2.hash w := fun i p hp => by rw [rows_at R.rows hp]; rfl
    have pr : t.probe (fun i => (es[i]?.map (·.1)).getD 0) (k.hash w) (stand.getD (t.probeStart (k.hash w))) = SetTable.probe.go t (fun i => (es[i]?.map (·.1)).getD 0) (k.hash w) (10 * SetTable.turns t.mask) (N c) := by
      rw [hst]
      rfl
    rw [pr]
    rcases spec with ⟨q, i, hq, hi, hh, hno, hpr⟩ | ⟨hno, hpr⟩
    · rw [hpr, sh, sh]
      rw [sh] at hi
      dsimp only
      have hil : i < L.length := by
        have h1 : i < t.place.toList.length := (List.getElem?_eq_some_iff.mp hi).1
        have h2 := R.tab.sz
        rw [hs, List.length_map] at h2
        rw [Array.length_toList] at h1
        omega
      obtain ⟨p, hp⟩ : ∃ p, L[i]? = some p := ⟨_, List.getElem?_eq_getElem hil⟩
      have hmem : p ∈ L := List.mem_of_getElem? hp
      have found : wpAny (model P w) A (searchRest a (.ref x) (k.hash w) true f es t (N (c + q)).j i (N (c + (q + 1)))) Q E s := by
        unfold searchRest
        rw [rows_at R.rows hp]
        dsimp only
        refine wpAny_bind (wpAny_holding ((nestedKind P w).eqBool hu (R.key p hmem) hx ?_))
        refine wpAny_bind (wpAny_setState_of ho hd R.fits ?_)
        dsimp only
        by_cases hkk : p.2 = k
        · exact wp_if_pos (by simp [hkk]) (wpAny_pure (hin (List.mem_map.mpr ⟨p, hmem, hkk⟩)))
        · refine wp_if_neg (by simp [hkk]) ?_
          try refine wpAny_bind (wpAny_pure ?_)
          rw [sameMem]
          dsimp only
          have hsl : t.slot (N (c + q)).j = .live i := slot_live R.tab.ris hi
          simp only [if_true, hsl, rows_at R.rows hp]
          refine wpAny_bind (wpAny_isSame_ref_self (wpAny_bind (wpAny_pure ?_)))
          simp only [if_true]
          refine wp_if_neg (by simp [hkk]) ?_
          refine seek R hx hu hKf hK hKb hin hout f (c + (q + 1)) _ (by rw [eN]; rfl) (by omega) (by omega) fun i0 p0 h0 hk0 => ?_
          obtain ⟨c', a1, a2, a3⟩ := hre i0 p0 h0 hk0
          refine ⟨c', Nat.lt_of_not_le fun z => ?_, a2, a3⟩
          obtain ⟨d, rfl⟩ : ∃ d, c' = c + d := ⟨c' - c, by omega⟩
          have z2 : c + d ≤ c + q := z
          rcases Nat.lt_or_eq_of_le (show d ≤ q by omega) with y | y
          · exact hno d i0 y (by rw [sh, ← wN]; exact a3) ((hashAt i0 p0 h0).trans (by rw [hk0]))
          · rw [y, wN] at a3
            have s0 := slot_live R.tab.ris a3
            rw [hsl] at s0
            injection s0 with s0
            rw [← s0, hp] at h0
            cases h0
            exact hkk hk0
      by_cases hl : t.led = true
      · refine wp_if_neg (by simp [hl]) ?_
        try refine wpAny_bind (wpAny_pure ?_)
        exact found
      · refine wp_if_pos (by simp [hl]) ?_
        refine wpAny_bind (unseen hx (fun y hy => ?_) ?_)
        · obtain ⟨e, he, ee⟩ := List.mem_map.mp hy
          have he1 : e ∈ es ∧ e.1 = k.hash w := by simpa using he
          have he2 : e ∈ es.toList := by simpa using he1.1
          rw [R.rows] at he2
          obtain ⟨p2, hp2, e2⟩ := List.mem_map.mp he2
          exact ⟨p2.2, p2.1, by rw [← ee, ← e2], R.key p2 hp2⟩
        · refine wp_if_neg (by decide) ?_
          try refine wpAny_bind (wpAny_pure ?_)
          exact found
    · rw [hpr, sh, show c + (K - c) = K by omega]
      dsimp only
      rw [← wN]
      refine wpAny_pure (hout fun hm => ?_)
      obtain ⟨p0, h0, hk0⟩ := List.mem_map.mp hm
      obtain ⟨i0, hi0, e0⟩ := List.getElem_of_mem h0
      have h00 : L[i0]? = some p0 := by rw [List.getElem?_eq_getElem hi0, e0]
      obtain ⟨c', a1, a2, a3⟩ := hre i0 p0 h00 hk0
      obtain ⟨d, rfl⟩ : ∃ d, c' = c + d := ⟨c' - c, by omega⟩
      exact hno d i0 (by omega) (by rw [sh, ← wN]; exact a3) ((hashAt i0 p0 h00).trans (by rw [hk0]))
theorem SetG.seek (R : SetG P w s.heap a L es ep t) {x : Addr} {k : NestedKey} (hx : KeyAt P w s.heap k x) (hu : A.units + 8 < cLine) {Q : SetFound → Shared → Prop}
    (hin : k ∈ L.map (·.2) → Q (.there none) s)
    (hout : ∀ K, k ∉ L.map (·.2) → L2.way t.mask (k.hash w) K ∉ t.place.toList → (∀ c, c < K → L2.way t.mask (k.hash w) c ∈ t.place.toList) → Q (.free (L2.way t.mask (k.hash w) K) false) s) :
    wpAny (model P w) A (setSearch a (.ref x) (k.hash w) true) Q E s := by
  have hroom := R.room
  have hle := R.tab.full.le
  have hlen : (hs w L).length = L.length := List.length_map _
  obtain ⟨K, hKf, hK, hKb⟩ := R.tab.first (by omega) (k.hash w)
  have hbig : 10 * SetTable.turns t.mask ≤ 6000 := by
    unfold SetTable.turns
    omega
  unfold setSearch
  refine Pah.seek R hx hu hKf hK hKb hin (fun hn => hout K hn hK hKb) 100000 0 none rfl (Nat.zero_le _) (by omega) fun i p hp hk => ?_
  have hi : (hs w L)[i]? = some (k.hash w) := by rw [hs, List.getElem?_map, hp, ← hk]; rfl
  have hil : i < t.place.toList.length := by
    have h1 : i < L.length := (List.getElem?_eq_some_iff.mp hp).1
    have h2 := R.tab.sz
    rw [Array.length_toList]
    omega
  have hj := List.getElem?_eq_getElem hil
  obtain ⟨c, hc, e⟩ := R.tab.before hK hi hj
  exact ⟨c, Nat.zero_le _, hc, by rw [hj, e]⟩
end
end Pah
end
section
set_option maxHeartbeats 2000000
/-! Set4: a set of tuples; adding. -/
namespace Pah
open PySem PySem.Spec PyProof.Rows L2 PySem.W
section
variable {P : Program} {w : World} {A : Around} {E : Value → Shared → Prop} {s : Shared}
variable {a : Addr} {L : KL} {es : Array (Int × Value)} {ep : Nat} {t : SetTable}
theorem key_same {h h' : Heap} {k : NestedKey} {b : Addr} {o : Obj} (hb : KeyAt P w h k b) (ho : h.get? a = some o) (hd : o.data = .set es ep t) (hs : Heap.SameBut a h h') : KeyAt P w h' k b :=
  nestedKind_stays.stays (fun c o' vs n e1 e2 => (hs.2 c fun e => by
    subst e
    rw [ho] at e1
    cases e1
    rw [hd] at e2
    cases e2).trans e1) hb
theorem key_keep {h h' : Heap} {k : NestedKey} {b : Addr} (hb : KeyAt P w h k b) (hk : ∀ c o, h.get? c = some o → h'.get? c = some o) : KeyAt P w h' k b :=
  nestedKind_stays.stays (fun c o' vs n e1 e2 => hk c o' e1) hb
/-- the rows in another order -/
theorem reorder (L : KL) (es : Array (Int × Value)) (order : List Nat) (hr : es.toList = rowsK w L) (hp : order.Perm (List.range L.length)) :
    ∃ L2 : KL, order.filterMap (fun i => es[i]?) = rowsK w L2 ∧ L2.Perm L ∧ hs w L2 = order.map fun i => (es.map (·.1)).getD i 0 := by
  have hz := rows_size hr
  have each : ∀ l : List Nat, (∀ i ∈ l, i < L.length) → l.filterMap (fun i => es[i]?) = rowsK w (l.filterMap fun i => L[i]?) ∧ hs w (l.filterMap fun i => L[i]?) = l.map fun i => (es.map (·.1)).getD i 0 := by
    intro l
    induction l with
    | nil => intro _; exact ⟨rfl, rfl⟩
    | cons i l ih =>
      intro hl
      obtain ⟨e1, e3⟩ := ih fun j hj => hl j (List.mem_cons_of_mem _ hj)
      have hg : L[i]? = some (L[i]'(hl i List.mem_cons_self)) := List.getElem?_eq_getElem _
      generalize L[i]'(hl i List.mem_cons_self) = p at hg
      have he := rows_at hr hg
      have e5 : (es.map (·.1)).getD i 0 = p.2.hash w := by rw [Array.getD_eq_getD_getElem?, Array.getElem?_map, he]; rfl
      rw [List.filterMap_cons_some hg, List.filterMap_cons_some he, e1, List.map_cons, ← e3, e5]
      exact ⟨rfl, rfl⟩
  obtain ⟨e1, e3⟩ := each order fun i hi => List.mem_range.mp (hp.mem_iff.mp hi)
  refine ⟨_, e1, ?_, e3⟩
  refine (hp.filterMap _).trans ?_
  have all : ∀ n, n ≤ L.length → (List.range n).filterMap (fun i => L[i]?) = L.take n := by
    intro n
    induction n with
    | zero => intro _; simp
    | succ n ih =>
      intro hn
      rw [List.range_succ, List.filterMap_append, ih (Nat.le_of_lt hn), List.take_succ, List.filterMap_cons, List.getElem?_eq_getElem hn]
      rfl
  rw [all _ (Nat.le_refl _), List.take_length]
/-- laid anew, larger -/
theorem relay {o : Obj} (ho : s.heap.get? a = some o) (hex : o.ExactSet) (hd : o.data = .set es ep t) (hrows : es.toList = rowsK w L) (hsz : t.place.size = es.size) (hdm : t.dummies = #[]) (hfl : es.size ≤ t.mask)
    (nd : (L.map (·.2)).Nodup) (key : ∀ p ∈ L, KeyAt P w s.heap p.2 p.1) (ld : w.params.followText "set-order" = true ∨ t.led = true) {wanted M : Nat}
    (hw : SetTable.sizeAbove wanted = M + 1) (hM : M = 7 ∨ M = 31 ∨ M = 127 ∨ M = 511) (F : Full M) (hn : L.length * 5 < M * 3) {Q : Unit → Shared → Prop}
    (hQ : ∀ h' L' es' ep' t', Heap.SameBut a s.heap h' → SetG P w h' a L' es' ep' t' → L'.Perm L → Q () { s with heap := h' }) : wpAny (model P w) A (setRelay a wanted) Q E s := by
  have hsl := rows_size hrows
  obtain ⟨t', order, e, hp, T, em, el⟩ := TabG.anew t (hs := es.map (·.1)) (wanted := wanted) (M := M) (by omega) F (by rw [Array.size_map]; omega)
  rw [Array.size_map, hsl] at hp
  obtain ⟨L2, r1, r2, r3⟩ := reorder L es order.toList hrows hp
  rw [← r3] at T
  have r4 : (order.filterMap (es[·]?)).toList = rowsK w L2 := by rw [Array.toList_filterMap]; exact r1
  have hs2 := rows_size r4
  have hl2 := r2.length_eq
  rw [setRelay_eq]
  refine wpAny_bind (wpAny_setState_of ho hd (tab_fits hsz hdm hfl) ?_)
  dsimp only
  have hsz0 := sizeLine_eq
  refine wp_if_neg (by rw [hw]; omega) ?_
  try refine wpAny_bind (wpAny_pure ?_)
  rw [e]
  dsimp only
  refine wpAny_bind ?_
  refine wp_if_neg (by rw [hs2, hsl, hl2]; simp) ?_
  try refine wpAny_bind (wpAny_pure ?_)
  refine wpAny_pure ?_
  dsimp only
  refine wpAny_storeSet_of ho hd ?_ (by omega)
  have sb : Heap.SameBut a s.heap (s.heap.update a (Obj.putSet (order.filterMap (es[·]?)) t')) := Heap.SameBut.update ..
  exact hQ _ L2 _ (ep + 1) t' sb ⟨⟨_, store_at ho hd, ⟨hex.1, hex.2.1, hex.2.2⟩, rfl⟩, r4, T, (r2.map (·.2)).nodup_iff.mpr nd, fun p hpm => key_same (key p (r2.mem_iff.mp hpm)) ho hd sb, by rw [el]; exact ld, by rw [hl2, em]; exact hn, by rw [em]; exact hM⟩ r2
theorem grown_5 : SetTable.sizeAbove (SetTable.grown 5) = 31 + 1 := by decide +kernel
theorem grown_19 : SetTable.sizeAbove (SetTable.grown 19) = 127 + 1 := by decide +kernel
theorem grown_77 : SetTable.sizeAbove (SetTable.grown 77) = 511 + 1 := by decide +kernel
/-- the end of adding -/
abbrev fin_add (a : Addr) (n : Nat) (es1 : Array (Int × Value)) (t2 : SetTable) : Sem Bool := do
  storeSet a es1 t2
  if !false && t2.tooFull then
    setRelay a (SetTable.grown (n + 1))
  return true
/-- adding -/
theorem SetG.add (R : SetG P w s.heap a L es ep t) {x : Addr} {k : NestedKey} (hx : KeyAt P w s.heap k x) (hu : A.units + 8 < cLine) (hfew : L.length < 306) {Q : Bool → Shared → Prop}
    (hQ : ∀ b h' L' es' ep' t', Heap.SameBut a s.heap h' → SetG P w h' a L' es' ep' t' → (k ∈ L.map (·.2) → L' = L) → (k ∉ L.map (·.2) → L'.Perm ((x, k) :: L)) → Q b { s with heap := h' }) :
    wpAny (model P w) A (setAddHashed a (.ref x) (k.hash w)) Q E s := by
  obtain ⟨o, ho, hex, hd⟩ := R.ob
  have hsl := rows_size R.rows
  have hroom := R.room
  have hz0 := sizeLine_eq
  unfold setAddHashed
  refine wpAny_holding ?_
  rw [show (100000 : Nat) = 99999 + 1 from rfl, setAddHashedIn_succ]
  refine wpAny_bind (wpAny_setState_of ho hd R.fits ?_)
  dsimp only
  refine wp_if_neg (by simp [byScan, Value.scannable]) ?_
  try refine wpAny_bind (wpAny_pure ?_)
  refine wpAny_bind (R.seek hx hu (fun hm => ?_) fun K hm hK hb => ?_)
  · dsimp only
    exact wpAny_pure (hQ false s.heap L es ep t (Heap.SameBut.refl a s.heap) R (fun _ => rfl) fun z => absurd hm z)
  dsimp only
  refine wpAny_bind (wpAny_setState_of ho hd R.fits ?_)
  dsimp only
  generalize hpt : t.put (L2.way t.mask (k.hash w) K) = pt
  obtain ⟨t1, p⟩ := pt
  dsimp only
  obtain ⟨q2, q3, q4, q5, q9⟩ := R.tab.put hK hb hpt
  have hlh : (hs w L).length = L.length := List.length_map _
  rw [hlh] at q2 q9
  have hin : (SetTable.insertAt es p (k.hash w, Value.ref x)).toList = rowsK w (L.take p ++ (x, k) :: L.drop p) := by
    rw [SetTable.toList_insertAt, R.rows, rowsK, rowsK, List.map_append, List.map_cons, List.map_take, List.map_drop]
  have pm : (L.take p ++ (x, k) :: L.drop p).Perm ((x, k) :: L) := put_perm L p (x, k)
  have hhs : (hs w L).take p ++ k.hash w :: (hs w L).drop p = hs w (L.take p ++ (x, k) :: L.drop p) := by
    rw [hs, hs, List.map_append, List.map_cons, List.map_take, List.map_drop]
  rw [hhs] at q3
  generalize SetTable.insertAt es p (k.hash w, Value.ref x) = es1 at hin ⊢
  generalize L.take p ++ (x, k) :: L.drop p = L1 at pm q3 hin
  have hlen : L1.length = L.length + 1 := pm.length_eq
  have hes := rows_size hin
  have nd1 : (L1.map (·.2)).Nodup := (pm.map (·.2)).nodup_iff.mpr (List.nodup_cons.mpr ⟨hm, R.nd⟩)
  -- behind the question of the hash
  have tail : ∀ t2 : SetTable, t2.place = t1.place → t2.dummies = t1.dummies → t2.mask = t1.mask → t2.led = t1.led →
      wpAny (model P w) A (fin_add a es.size es1 t2) Q E s := by
    intro t2 g1 g2 g3 g4
    have T2 : TabG t2 (hs w L1) := ⟨by rw [g1]; exact q3.ris, by rw [g2]; exact q3.dm, by rw [g1]; exact q3.sz, by rw [g3]; exact q3.full, by rw [g1, g3]; exact q3.reach⟩
    have fill2 : t2.fill = L.length + 1 := by
      unfold SetTable.fill at q9 ⊢
      rw [g1, g2]
      exact q9
    refine wpAny_bind (wpAny_storeSet_of ho hd ?_ (by omega))
    have sb : Heap.SameBut a s.heap (s.heap.update a (Obj.putSet es1 t2)) := Heap.SameBut.update ..
    have ho1 := store_at (es' := es1) (t' := t2) ho hd
    generalize s.heap.update a (Obj.putSet es1 t2) = h1 at sb ho1 ⊢
    have key1 : ∀ p ∈ L1, KeyAt P w h1 p.2 p.1 := fun p hp => by
      rcases List.mem_cons.mp (pm.mem_iff.mp hp) with e | hp
      · rw [e]; exact key_same hx ho hd sb
      · exact key_same (R.key p hp) ho hd sb
    have ld1 : w.params.followText "set-order" = true ∨ t2.led = true := by rw [g4, q5]; exact R.led
    have m1 : t2.mask = t.mask := by rw [g3, q4]
    have size1 : t2.place.size = es1.size := by rw [T2.sz, hes]; exact List.length_map _
    by_cases hf : t2.tooFull = true
    · have hfull : (L.length + 1) * 5 ≥ t2.mask * 3 := by
        unfold SetTable.tooFull at hf
        rw [decide_eq_true_eq, fill2] at hf
        exact hf
      have go : ∀ M, SetTable.sizeAbove (SetTable.grown (es.size + 1)) = M + 1 → (M = 7 ∨ M = 31 ∨ M = 127 ∨ M = 511) → Full M → (L.length + 1) * 5 < M * 3 →
          wpAny (model P w) A (do setRelay a (SetTable.grown (es.size + 1)); return true) Q E { s with heap := h1 } := fun M z1 z2 z3 z4 =>
        wpAny_bind (relay (s := { s with heap := h1 }) ho1 ⟨hex.1, hex.2.1, hex.2.2⟩ rfl hin size1 T2.dm (by rw [hes, m1]; omega) nd1 key1 ld1 z1 z2 z3 (by rw [hlen]; exact z4)
          fun h2 L2 es2 ep2 t3 sb2 R2 pm2 => wpAny_pure (hQ true h2 L2 es2 ep2 t3 (sb.trans sb2) R2 (fun z => absurd z hm) fun _ => pm2.trans pm))
      have go2 : wpAny (model P w) A (do setRelay a (SetTable.grown (es.size + 1)); return true) Q E { s with heap := h1 } := by
        rcases R.mask with e | e | e | e
        · have e2 : es.size = 4 := by omega
          exact go 31 (by rw [e2, grown_5]) (by omega) (Full.small (.inr (.inl rfl))) (by omega)
        · have e2 : es.size = 18 := by omega
          exact go 127 (by rw [e2, grown_19]) (by omega) (Full.small (.inr (.inr rfl))) (by omega)
        · have e2 : es.size = 76 := by omega
          exact go 511 (by rw [e2, grown_77]) (by omega) Full.big (by omega)
        · omega
      first
        | exact wp_if_pos (by simp [hf]) go2
        | (simp only [hf, Bool.not_false, Bool.and_self, if_true]; exact go2)
    · have done : Q true { s with heap := h1 } := hQ true h1 L1 es1 (ep + 1) t2 sb ⟨⟨_, ho1, ⟨hex.1, hex.2.1, hex.2.2⟩, rfl⟩, hin, T2, nd1, key1, ld1, by
        unfold SetTable.tooFull at hf
        rw [decide_eq_true_eq, fill2] at hf
        rw [hlen]
        omega, by rw [m1]; exact R.mask⟩ (fun z => absurd z hm) fun _ => pm
      first
        | exact wp_if_neg (by simp [hf]) (wpAny_pure done)
        | (refine wpAny_bind ?_; exact wp_if_neg (by simp [hf]) (wpAny_pure (wpAny_pure done)))
        | exact wp_if_neg (by simp [hf]) (wpAny_bind (wpAny_pure (wpAny_pure done)))
  have ask : ∀ b : Bool, wpAny (model P w) A (fin_add a es.size es1 (if b = true then t1 else { t1 with plain := false })) Q E s := fun b => by
    cases b with
    | true => exact tail t1 rfl rfl rfl rfl
    | false => exact tail { t1 with plain := false } rfl rfl rfl rfl
  by_cases hp1 : t1.plain = true
  · first
      | (refine wpAny_bind ?_; refine wp_if_pos hp1 ?_; exact (by_key k _ 8 hx.1 hx.2).1 _ _ _ fun b => ask b)
      | exact wp_if_pos hp1 (wpAny_bind ((by_key k _ 8 hx.1 hx.2).1 _ _ _ fun b => ask b))
  · first
      | (refine wpAny_bind ?_; refine wp_if_neg hp1 ?_; exact wpAny_pure (ask true))
      | exact wp_if_neg hp1 (wpAny_bind (wpAny_pure (ask true)))
      | exact wp_if_neg hp1 (ask true)
end
end Pah
end
section
set_option maxHeartbeats 3200000
/-! Set5: set(xs) of a list or tuple. -/
namespace Pah
open PySem PySem.Spec PyProof.Rows L2 PySem.W
section
variable {P : Program} {w : World} {A : Around} {E : Value → Shared → Prop} {s : Shared}
theorem SetG.keep {h h' : Heap} {a : Addr} {L : KL} {es : Array (Int × Value)} {ep : Nat} {t : SetTable} (R : SetG P w h a L es ep t) (ha : ∀ o, h.get? a = some o → h'.get? a = some o) (hk : ∀ p ∈ L, KeyAt P w h' p.2 p.1) : SetG P w h' a L es ep t := by
  obtain ⟨o, ho, r⟩ := R.ob
  exact ⟨⟨o, ha o ho, r⟩, R.rows, R.tab, R.nd, hk, R.led, R.room, R.mask⟩
/-- a new set's object -/
abbrev emptySet (w : World) : Obj := { cls := .type "set", dict := none, data := .set #[] 0 (.fresh 0 0 (!w.params.followText "set-order")) }
theorem SetG.fresh {h : Heap} {a : Addr} (ho : h.get? a = some (emptySet w)) : SetG P w h a [] #[] 0 (.fresh 0 0 (!w.params.followText "set-order")) where
  ob := ⟨_, ho, ⟨rfl, rfl, rfl⟩, rfl⟩
  rows := rfl
  tab := ⟨List.Pairwise.nil, rfl, rfl, Full.small (.inl rfl), fun i h j hi => nomatch (show (none : Option Int) = some h from hi)⟩
  nd := List.nodup_nil
  key := fun p hp => nomatch hp
  led := by
    show _ ∨ (!w.params.followText "set-order") = true
    cases w.params.followText "set-order"
    · exact .inr rfl
    · exact .inl rfl
  room := by show 0 * 5 < 7 * 3; decide
  mask := .inl rfl
/-- what the set has of the first i items -/
structure Has (ks : KL) (i : Nat) (L : KL) : Prop where
  sub : ∀ p ∈ L, p ∈ ks.take i
  all : ∀ p ∈ ks.take i, p.2 ∈ L.map (·.2)
theorem Has.next {ks L L' : KL} {i : Nat} {x : Addr × NestedKey} (g : Has ks i L) (h : ks[i]? = some x) (c1 : x.2 ∈ L.map (·.2) → L' = L) (c2 : x.2 ∉ L.map (·.2) → L'.Perm (x :: L)) : Has ks (i + 1) L' := by
  have tk : ks.take (i + 1) = ks.take i ++ [x] := by rw [List.take_succ, h]; rfl
  by_cases c : x.2 ∈ L.map (·.2)
  · rw [c1 c]
    refine ⟨fun p hp => ?_, fun p hp => ?_⟩
    · rw [tk]
      exact List.mem_append_left _ (g.sub p hp)
    · rw [tk, List.mem_append, List.mem_singleton] at hp
      rcases hp with z | z
      · exact g.all p z
      · rw [z]; exact c
  · have pm := c2 c
    refine ⟨fun p hp => ?_, fun p hp => ?_⟩
    · rw [tk, List.mem_append, List.mem_singleton]
      rcases List.mem_cons.mp (pm.mem_iff.mp hp) with e | z
      · exact .inr e
      · exact .inl (g.sub p z)
    · rw [(pm.map (·.2)).mem_iff, List.map_cons]
      rw [tk, List.mem_append, List.mem_singleton] at hp
      rcases hp with z | z
      · exact List.mem_cons_of_mem _ (g.all p z)
      · rw [z]; exact List.mem_cons_self
/-- set.update's loop over such keys -/
theorem set_loop {I : Addr} {fp wr : List Addr} {G : Array GenState → Array GenState → Prop} {n : Nat} {Pv : Nat → Value → Prop} {St : Nat → Shared → Prop} {R : Result → Shared → Prop}
    (W : WalksS P w A.in1 I fp wr G n Pv St) (S : Addr) (hSf : S ∉ fp) (ks : KL) (hn : n = ks.length) (hval : ∀ i v, Pv i v → ∃ p, ks[i]? = some p ∧ v = .ref p.1)
    (few : ∀ L : KL, (L.map (·.2)).Nodup → (∀ p ∈ L, p ∈ ks) → L.length < 306)
    (h0 : Heap) (hk : ∀ p ∈ ks, KeyAt P w h0 p.2 p.1) (hS0 : h0.get? S = none) (hw0 : ∀ b ∈ wr, h0.get? b = none) (hu : A.in1.units + 8 < cLine) :
    ∀ (k i : Nat) (s : Shared), n - i = k → i ≤ n → St i s → (∀ b o, h0.get? b = some o → s.heap.get? b = some o) → (∃ L es ep t, SetG P w s.heap S L es ep t ∧ Has ks i L) →
      (∀ s' L es ep t, Moved (S :: wr) G s s' → SetG P w s'.heap S L es ep t → Has ks n L → (∀ b o, h0.get? b = some o → s'.heap.get? b = some o) → R (.ok (.ret .none)) s') →
      codeAny (model P w) A (.builtin "set.update.loop" ⟨[.ref S, .ref I], []⟩) R s := by
  have hSw : S ∉ wr := fun h => hSf (W.sub _ h)
  have hsub : ∀ b ∈ wr, b ∈ S :: wr := fun b hb => List.mem_cons_of_mem _ hb
  have still : ∀ {s s' : Shared}, Moved wr G s s' → (∀ b o, h0.get? b = some o → s.heap.get? b = some o) → ∀ b o, h0.get? b = some o → s'.heap.get? b = some o := fun hm hkp b o e =>
    hm.heap b o (fun hb => by rw [hw0 b hb] at e; cases e) (hkp b o e)
  have inks : ∀ {i : Nat} {L : KL}, Has ks i L → ∀ p ∈ L, p ∈ ks := fun g p hp => List.mem_of_mem_take (g.sub p hp)
  intro k
  induction k with
  | zero =>
    intro i s hk' hi hst hkp ⟨L, es, ep, t, hS, g⟩ hR
    obtain rfl : i = n := by omega
    refine codeAny_builtin F.entry_set_update_loop ?_
    rw [Around.under_plainId F.plain_set_update_loop _]
    show wpAny _ A.in1 (pyNext (.ref I) >>= _) _ _ s
    refine wpAny_bind (W.done s _ _ hst fun s' hm => ?_)
    have hkp' := still hm hkp
    show wpAny _ A.in1 (ret Value.none) _ _ s'
    exact wpAny_pure (hR s' L es ep t (hm.mono hsub) (hS.keep (fun o e => hm.heap S o hSw e) fun p hp => key_keep (hk p (inks g p hp)) hkp') g hkp')
  | succ k ih =>
    intro i s hk' hi hst hkp ⟨L, es, ep, t, hS, g⟩ hR
    have hlt : i < n := by omega
    refine codeAny_builtin F.entry_set_update_loop ?_
    rw [Around.under_plainId F.plain_set_update_loop _]
    show wpAny _ A.in1 (pyNext (.ref I) >>= _) _ _ s
    refine wpAny_bind (W.item i s _ _ hlt hst fun v s' hP hst' hm => ?_)
    obtain ⟨p, hp, rfl⟩ := hval i v hP
    have hkp' := still hm hkp
    have hS' : SetG P w s'.heap S L es ep t := hS.keep (fun o e => hm.heap S o hSw e) fun q hq => key_keep (hk q (inks g q hq)) hkp'
    have hx : KeyAt P w s'.heap p.2 p.1 := key_keep (hk p (List.mem_of_getElem? hp)) hkp'
    show wpAny _ A.in1 (holding [Value.ref p.1] (setAdd S (.ref p.1)) >>= _) _ _ s'
    refine wpAny_bind (wpAny_holding ?_)
    unfold setAdd
    refine wpAny_holding ?_
    refine wpAny_bind ((nestedKind P w).pyHash hu hx ?_)
    refine SetG.add (s := { s' with toks := s'.toks + p.2.draws }) hS' hx hu (few L hS'.nd (inks g)) fun b h' L' es' ep' t' hsb hS2 c1 c2 => ?_
    have g' := g.next hp c1 c2
    have hkp2 : ∀ b o, h0.get? b = some o → h'.get? b = some o := fun b o e => (hsb.2 b (fun z => by rw [z, hS0] at e; cases e)).trans (hkp' b o e)
    refine wpAny_pure ⟨plainId_quiet F.plain_set_update_loop _, ih (i + 1) _ (by omega) hlt (W.frame _ s' _ _ hst' (Nat.le_add_right _ _) fun b hb o e => ?_) hkp2 ⟨L', es', ep', t', hS2, g'⟩ fun s'' L2 es2 ep2 t2 hm'' hS'' g'' hkp'' => ?_⟩
    · rw [hsb.2 b (fun h : b = S => hSf (by rw [← h]; exact hb))]; exact e
    · refine hR s'' L2 es2 ep2 t2 (Moved.trans W.gtrans ((hm.mono hsub).then_heap (Nat.le_add_right _ _) fun b o hb e => ?_) hm'') hS'' g'' hkp''
      rw [hsb.2 b (fun h : b = S => hb (by rw [h]; exact List.mem_cons_self))]; exact e
end
end Pah
end
section
set_option maxHeartbeats 3200000
/-! Set6: calling set. -/
namespace Pah
open PySem PySem.Spec PyProof.Rows L2 PySem.W
section
variable {P : Program} {w : World} {A : Around} {E : Value → Shared → Prop} {s : Shared}
/-- what the loop is to do: the set at S is filled from the items of the iterator at I -/
def Fills (P : Program) (w : World) (A : Around) (h0 : Heap) (S I : Addr) (items : Array Value) (Post : Heap → Prop) (s1 : Shared) : Prop :=
  ∀ (fp wr : List Addr) (G : Array GenState → Array GenState → Prop) (Pv : Nat → Value → Prop) (St : Nat → Shared → Prop) (R : Result → Shared → Prop),
    WalksS P w A.in1 I fp wr G items.size Pv St → (∀ i v, Pv i v → items[i]? = some v) → S ∉ fp → (∀ b ∈ wr, h0.get? b = none) → St 0 s1 →
    (∀ s', Moved (S :: wr) G s1 s' → Post s'.heap → (∀ b o, h0.get? b = some o → s'.heap.get? b = some o) → R (.ok (.ret .none)) s') →
    codeAny (model P w) A (.builtin "set.update.loop" ⟨[.ref S, .ref I], []⟩) R s1
/-- set(x) -/
theorem set_make {l : Addr} {items : Array Value} {Post : Heap → Prop} {Q : Value → Shared → Prop} (hh : A.handled = none) (hl : s.heap.IsList l items ∨ s.heap.IsTuple l items)
    (loop : ∀ (A' : Around) (I : Addr) (s1 : Shared), A'.units ≤ A.units + 3 → (∀ b o, s.heap.get? b = some o → s1.heap.get? b = some o) → s1.heap.get? s.heap.objs.size = some (emptySet w) → Fills P w A' s.heap s.heap.objs.size I items Post s1)
    (h : ∀ (h' : Heap) (tk : Nat), Post h' → (∀ b o, s.heap.get? b = some o → h'.get? b = some o) → Q (.ref s.heap.objs.size) { s with heap := h', toks := tk }) :
    wpAny (model P w) A (call (.type "set") [.ref l]) Q E s := by
  obtain ⟨c, tl, hmro⟩ := F.called_set.mro
  have hmade := F.called_set.made
  have hsub := F.called_set.sub
  refine wpAny_call (codeAny_of_tree ?_)
  show wpAny _ _ (callAny (.type "set") _) _ _ _
  refine wpAny_pure ⟨Code.quiet_builtin _ (by decide +kernel), codeAny_builtin F.entry_type_call ?_⟩
  rw [Around.under_plain (weight_type_call_type "set" [.ref l] []) rfl]
  have h1 := F.called_set.notType
  have h2 := F.called_set.canCreate
  have hct := F.typeCall_set_1 (.ref l)
  repeat (any_goals (first | assumption | wp_step))
  refine codeAny_mono (code_set_led1 (.ref l) (E := E) (Q₁ := fun obj s₁ => obj = .ref s.heap.objs.size ∧ s₁ = { s with heap := s.heap.push (emptySet w) }) ⟨rfl, rfl⟩) fun r s₁ hr => ?_
  cases r with
  | error e => exact hr
  | ok fl =>
    cases fl with
    | ret obj =>
      obtain ⟨rfl, rfl⟩ := hr
      have hS : (s.heap.push (emptySet w)).get? s.heap.objs.size = some (emptySet w) := Heap.get?_push_size _ rfl
      have hT : Shared.TypeIs { s with heap := s.heap.push (emptySet w) } (.ref s.heap.objs.size) "set" := ⟨_, hS, rfl⟩
      have hli := F.called_set.init.lookup
      have hbi := F.called_set.init.bind (.ref s.heap.objs.size)
      repeat (any_goals (first | assumption | wp_step))
      refine codeAny_mono (codeAny_call_builtin (R := wants (fun r s₂ => r = .none ∧ ∃ h' tk, s₂ = { s with heap := h', toks := tk } ∧ Post h' ∧ (∀ b o, s.heap.get? b = some o → h'.get? b = some o)) E) F.called_set.init.plain F.entry_set_init (check_set_init_1 hT ?_)) fun r₂ s₂ hr₂ => ?_
      · have hz1 : (s.heap.push (emptySet w)).objs.size = s.heap.objs.size + 1 := Heap.size_push ..
        have hh3 : A.in1.in1.in1.handled = none := by simp [hh]
        have none_of : ∀ b, s.heap.objs.size ≤ b → s.heap.get? b = none := fun b hb => by
          cases q : s.heap.get? b with
          | none => rfl
          | some o => exact absurd (Nat.lt_of_lt_of_le (Heap.lt_size q) hb) (Nat.lt_irrefl _)
        have wr0 : ∀ b ∈ [(s.heap.push (emptySet w)).objs.size], s.heap.get? b = none := fun b hb => none_of b (by
          rw [List.mem_singleton.mp hb, hz1]
          exact Nat.le_succ _)
        have push0 : ∀ (ob : Obj) b o, s.heap.get? b = some o → ((s.heap.push (emptySet w)).push ob).get? b = some o := fun ob b o e => Heap.get?_push_of_some _ (Heap.get?_push_of_some _ e)
        have get0 : ∀ (ob : Obj), ((s.heap.push (emptySet w)).push ob).get? s.heap.objs.size = some (emptySet w) := fun ob => Heap.get?_push_of_some _ hS
        have last : ∀ {wr : List Addr} {G : Array GenState → Array GenState → Prop} {s1 s' : Shared}, Moved wr G s1 s' → (∀ a b, G a b → b = a) → s1.gens = s.gens → s1.drawn = s.drawn → s1.os = s.os → Post s'.heap → (∀ b o, s.heap.get? b = some o → s'.heap.get? b = some o) →
            ∃ h' tk, s' = { s with heap := h', toks := tk } ∧ Post h' ∧ (∀ b o, s.heap.get? b = some o → h'.get? b = some o) := fun {wr G s1 s'} hm hG e1 e2 e3 hp hk => by
          obtain ⟨h', g2, d', tk', os'⟩ := s'
          have eg : g2 = s.gens := (hG _ _ hm.gens).trans e1
          have ed : d' = s.drawn := hm.drawn.trans e2
          have eo : os' = s.os := hm.os.trans e3
          subst eg ed eo
          exact ⟨h', tk', rfl, hp, hk⟩
        rcases hl with hl | hl
        · obtain ⟨ol, hol, hcl, nl, hdl⟩ := hl
          have hlS : l < s.heap.objs.size := Heap.lt_size hol
          have hl1 : (s.heap.push (emptySet w)).IsList l items := ⟨ol, Heap.get?_push_of_some _ hol, hcl, nl, hdl⟩
          obtain ⟨ocls, odict, odata, oslots⟩ := ol
          simp only at hcl hdl
          subst hcl; subst hdl
          have hol' : (s.heap.push (emptySet w)).get? l = some { cls := .type "list", dict := odict, data := .seq items nl, slots := oslots } := Heap.get?_push_of_some _ hol
          have hsls := F.sub_list_set
          have hslf := F.sub_list_frozenset
          have hne : (Value.type "list" == Value.type "dict") = false := by decide
          unfold Builtin.«set.__init__» noKeywords Builtin.Frozenset.updateFrom
          generalize hPI : pyIter = PI
          wp_walk
          subst hPI
          refine wpAny_pyIter_list hl1 ?_
          refine wpAny_bind (wpAny_runValue ?_)
          have hneI : l ≠ (s.heap.push (emptySet w)).objs.size := by rw [hz1]; exact Nat.ne_of_lt (Nat.lt_succ_of_lt hlS)
          refine loop _ _ _ (by simp only [Around.in1_units]; omega) (push0 _) (get0 _) _ _ _ _ _ _ ((Walks.list hh3 _ l hneI items).toS) (fun i v e => e) (by rw [hz1]; simp only [List.mem_cons, List.not_mem_nil, or_false, not_or]; exact ⟨Nat.ne_of_lt (Nat.lt_succ_self _), Nat.ne_of_gt hlS⟩) wr0
            ⟨⟨_, Heap.get?_push_size _ rfl, rfl, rfl⟩, (hl1.push _)⟩ fun s' hm hp hk => ?_
          have lz := last hm (fun a b (e : b = a) => e) rfl rfl rfl hp hk
          refine wpAny_pure ?_
          show wpAny _ _ (ret Value.none) _ _ _
          exact wpAny_pure ⟨rfl, lz⟩
        · obtain ⟨ol, hol, hcl, nl, hdl⟩ := hl
          have hlS : l < s.heap.objs.size := Heap.lt_size hol
          have hl1 : (s.heap.push (emptySet w)).IsTuple l items := ⟨ol, Heap.get?_push_of_some _ hol, hcl, nl, hdl⟩
          obtain ⟨ocls, odict, odata, oslots⟩ := ol
          simp only at hcl hdl
          subst hcl; subst hdl
          have hol' : (s.heap.push (emptySet w)).get? l = some { cls := .type "tuple", dict := odict, data := .seq items nl, slots := oslots } := Heap.get?_push_of_some _ hol
          have hsls := F.sub_tuple_set
          have hslf := F.sub_tuple_frozenset
          have hne : (Value.type "tuple" == Value.type "dict") = false := by decide
          unfold Builtin.«set.__init__» noKeywords Builtin.Frozenset.updateFrom
          generalize hPI : pyIter = PI
          wp_walk
          subst hPI
          refine wpAny_pyIter_tuple hl1 ?_
          refine wpAny_bind (wpAny_runValue ?_)
          have hneI : l ≠ (s.heap.push (emptySet w)).objs.size := by rw [hz1]; exact Nat.ne_of_lt (Nat.lt_succ_of_lt hlS)
          refine loop _ _ _ (by simp only [Around.in1_units]; omega) (push0 _) (get0 _) _ _ _ _ _ _ ((Walks.tuple hh3 _ l hneI items).toS) (fun i v e => e) (by rw [hz1]; simp only [List.mem_cons, List.not_mem_nil, or_false, not_or]; exact ⟨Nat.ne_of_lt (Nat.lt_succ_self _), Nat.ne_of_gt hlS⟩) wr0
            ⟨⟨_, Heap.get?_push_size _ rfl, rfl, rfl⟩, (hl1.push _)⟩ fun s' hm hp hk => ?_
          have lz := last hm (fun a b (e : b = a) => e) rfl rfl rfl hp hk
          refine wpAny_pure ?_
          show wpAny _ _ (ret Value.none) _ _ _
          exact wpAny_pure ⟨rfl, lz⟩
      · cases r₂ with
        | error e => exact hr₂
        | ok fl₂ =>
          cases fl₂ with
          | ret r =>
            obtain ⟨rfl, h', tk, rfl, hp, hk⟩ := hr₂
            repeat (any_goals (first | assumption | wp_step))
            exact h _ _ hp hk
          | _ => exact hr₂.elim
    | _ => exact hr.elim
end
end Pah
end
section
set_option maxHeartbeats 3200000
/-! Set7: filling a set with tuples, with ints. -/
namespace Pah
open PySem PySem.Spec PyProof.Rows L2 PySem.W
section
variable {P : Program} {w : World} {A : Around} {E : Value → Shared → Prop} {s : Shared}
theorem fills_keys {h0 : Heap} {S I : Addr} {items : Array Value} {ks : KL} {s1 : Shared} (hit : items.toList = ks.map fun p => Value.ref p.1) (few : ∀ L : KL, (L.map (·.2)).Nodup → (∀ p ∈ L, p ∈ ks) → L.length < 306)
    (hk : ∀ p ∈ ks, KeyAt P w h0 p.2 p.1) (hS0 : h0.get? S = none) (hu : A.in1.units + 8 < cLine) (kp : ∀ b o, h0.get? b = some o → s1.heap.get? b = some o) (hS : s1.heap.get? S = some (emptySet w)) :
    Fills P w A h0 S I items (fun h => ∃ L es ep t, SetG P w h S L es ep t ∧ Has ks ks.length L) s1 := by
  intro fp wr G Pv St R W hv hSf hw0 st hR
  have hn : items.size = ks.length := by rw [← Array.length_toList, hit, List.length_map]
  refine set_loop W S hSf ks hn (fun i v hp => ?_) few h0 hk hS0 hw0 hu _ 0 s1 rfl (Nat.zero_le _) st kp ⟨[], #[], 0, _, SetG.fresh hS, ⟨fun p h => (by cases h), fun p h => (by simp at h)⟩⟩ fun s' L es ep t hm hg hh hk' => hR s' hm ⟨L, es, ep, t, hg, by rw [← hn]; exact hh⟩ hk'
  have q := hv i v hp
  rw [← Array.getElem?_toList, hit, List.getElem?_map] at q
  cases hq : ks[i]? with
  | none => rw [hq] at q; cases q
  | some p =>
    rw [hq] at q
    exact ⟨p, rfl, (Option.some.inj q).symm⟩
/-- the loop over ints -/
theorem int_loop {I : Addr} {fp wr : List Addr} {G : Array GenState → Array GenState → Prop} {n : Nat} {Pv : Nat → Value → Prop} {St : Nat → Shared → Prop} {R : Result → Shared → Prop}
    (W : WalksS P w A.in1 I fp wr G n Pv St) (S : Addr) (hSf : S ∉ fp) (ns : List Int) (hn : n = ns.length) (hval : ∀ i v, Pv i v → ∃ k t, ns[i]? = some k ∧ v = .int k t) (few : n + 1 < scanBound)
    (h0 : Heap) (hS0 : h0.get? S = none) (hw0 : ∀ b ∈ wr, h0.get? b = none) :
    ∀ (k i : Nat) (s : Shared), n - i = k → i ≤ n → St i s → (∀ b o, h0.get? b = some o → s.heap.get? b = some o) → (∃ m, SetR w s.heap S (fun j => decide (j ∈ ns.take i)) m ∧ m ≤ i) →
      (∀ s' m, Moved (S :: wr) G s s' → SetR w s'.heap S (fun j => decide (j ∈ ns)) m → m ≤ n → (∀ b o, h0.get? b = some o → s'.heap.get? b = some o) → R (.ok (.ret .none)) s') →
      codeAny (model P w) A (.builtin "set.update.loop" ⟨[.ref S, .ref I], []⟩) R s := by
  have hSw : S ∉ wr := fun h => hSf (W.sub _ h)
  have hsub : ∀ b ∈ wr, b ∈ S :: wr := fun b hb => List.mem_cons_of_mem _ hb
  have still : ∀ {s s' : Shared}, Moved wr G s s' → (∀ b o, h0.get? b = some o → s.heap.get? b = some o) → ∀ b o, h0.get? b = some o → s'.heap.get? b = some o := fun hm hkp b o e =>
    hm.heap b o (fun hb => by rw [hw0 b hb] at e; cases e) (hkp b o e)
  intro k
  induction k with
  | zero =>
    intro i s hk' hi hst hkp ⟨m, hS, hle⟩ hR
    obtain rfl : i = n := by omega
    refine codeAny_builtin F.entry_set_update_loop ?_
    rw [Around.under_plainId F.plain_set_update_loop _]
    show wpAny _ A.in1 (pyNext (.ref I) >>= _) _ _ s
    refine wpAny_bind (W.done s _ _ hst fun s' hm => ?_)
    show wpAny _ A.in1 (ret Value.none) _ _ s'
    rw [List.take_of_length_le (by omega)] at hS
    exact wpAny_pure (hR s' m (hm.mono hsub) (hS.at fun o e => hm.heap S o hSw e) hle (still hm hkp))
  | succ k ih =>
    intro i s hk' hi hst hkp ⟨m, hS, hle⟩ hR
    have hlt : i < n := by omega
    refine codeAny_builtin F.entry_set_update_loop ?_
    rw [Around.under_plainId F.plain_set_update_loop _]
    show wpAny _ A.in1 (pyNext (.ref I) >>= _) _ _ s
    refine wpAny_bind (W.item i s _ _ hlt hst fun v s' hP hst' hm => ?_)
    obtain ⟨z, tk, hz, rfl⟩ := hval i v hP
    have hkp' := still hm hkp
    have hS' : SetR w s'.heap S _ m := hS.at fun o e => hm.heap S o hSw e
    show wpAny _ A.in1 (holding [Value.int z tk] (setAdd S (.int z tk)) >>= _) _ _ s'
    refine wpAny_bind (wpAny_holding ?_)
    unfold setAdd
    refine wpAny_holding ?_
    refine wpAny_bind ((intKind P w).pyHash (intKind_is P w z tk) ?_)
    refine setR_add_hashed (s := { s' with toks := s'.toks + 1 }) hS' (by omega) fun h' hsb r => ?_
    have hkp2 : ∀ b o, h0.get? b = some o → h'.get? b = some o := fun b o e => (hsb.2 b (fun z => by rw [z, hS0] at e; cases e)).trans (hkp' b o e)
    have r' : SetR w h' S (fun j => decide (j ∈ ns.take (i + 1))) _ := r.congr fun j => by
      rw [List.take_succ, hz]
      by_cases c1 : j ∈ ns.take i <;> by_cases c2 : j = z <;> simp [c1, c2]
    refine wpAny_pure ⟨plainId_quiet F.plain_set_update_loop _, ih (i + 1) _ (by omega) hlt (W.frame _ s' _ _ hst' (Nat.le_add_right _ _) fun b hb o e => ?_) hkp2 ⟨_, r', by split <;> omega⟩ fun s'' m2 hm'' hS'' hl'' hkp'' => ?_⟩
    · rw [hsb.2 b (fun h : b = S => hSf (by rw [← h]; exact hb))]; exact e
    · refine hR s'' m2 (Moved.trans W.gtrans ((hm.mono hsub).then_heap (Nat.le_add_right _ _) fun b o hb e => ?_) hm'') hS'' hl'' hkp''
      rw [hsb.2 b (fun h : b = S => hb (by rw [h]; exact List.mem_cons_self))]; exact e
end
end Pah
end
section
set_option maxHeartbeats 2000000
/-! Set10: sorted of a set. -/
namespace Pah
open PySem PySem.Spec PyProof.Rows L2 PySem.W
section
variable {P : Program} {w : World} {K : PySem.W.Frag} {mg : Str → Option Value} {G : Gh} {H : Hp}
theorem perm_vals {us vs : List Value} (p : us.Perm vs) : ∀ {xs : List V} {ds : List D}, Vals xs vs → RDs P w K mg G xs ds → ∃ xs' ds', Vals xs' us ∧ RDs P w K mg G xs' ds' ∧ ds'.Perm ds := by
  induction p with
  | nil => intro xs ds h r; exact ⟨xs, ds, h, r, List.Perm.refl _⟩
  | cons u p ih =>
    intro xs ds h r
    cases h with
    | cons h1 h2 =>
      cases r with
      | cons r1 r2 =>
        obtain ⟨xs', ds', a, b, c⟩ := ih h2 r2
        exact ⟨_ :: xs', _ :: ds', .cons h1 a, .cons r1 b, c.cons _⟩
  | swap u v l =>
    intro xs ds h r
    cases h with
    | cons h1 h2 =>
      cases h2 with
      | cons h3 h4 =>
        cases r with
        | cons r1 r2 =>
          cases r2 with
          | cons r3 r4 => exact ⟨_, _, .cons h3 (.cons h1 h4), .cons r3 (.cons r1 r4), List.Perm.swap ..⟩
  | trans p1 p2 ih1 ih2 =>
    intro xs ds h r
    obtain ⟨xs', ds', a, b, c⟩ := ih2 h r
    obtain ⟨xs2, ds2, a2, b2, c2⟩ := ih1 a b
    exact ⟨xs2, ds2, a2, b2, c2.trans c⟩
/-- sorted of a set that stands at a -/
theorem sorted_raw {X : Cx} {pins : List (Addr × Obj)} {σ : L2.St} {s : Shared} {a : Addr} {es : Array (Int × Value)} {ep : Nat} {t : SetTable} {xs : List V} {ds fs : List D} {Q : VK} (hc : X.calm = true) (hu : X.A.units + 100 < cLine) (I : L2.Inv X pins σ H s)
    (ha : SetAt s.heap a es ep t) (hf : t.fits es.size = true) (hsz : es.size < scanBound) (ri : Ris t.place.toList) (hl : X.w.params.followText "set-order" = true ∨ t.led = true)
    (rv : Vals xs (es.toList.map (·.2))) (sb : Sub G H) (rd : RDs X.prog X.w X.K mg G xs ds) (hk : ∀ d ∈ ds, ∃ n, D.keyN n d = true) (nd : (ds.map D.nk).Nodup) (hs : sortD ds = some fs)
    (q : ∀ p ys, H p = none → RDs X.prog X.w X.K mg G ys fs → Q (.ref p) (upd H p (.lst ys))) :
    wpAny (model X.prog X.w) X.A (call (.builtin "sorted") [.ref a]) (EP X pins σ Q) X.xe s := by
  refine PySem.Calls.call_function_entry PyProof.Rows.kind_sorted PyProof.Rows.plain_sorted PyProof.Rows.entry_sorted (PyProof.Rows.args_sorted1 _) ?_
  unfold Builtin.«sorted»
  refine wpAny_bind (m := checkCount "sorted" 1 1 _) (wpAny_pure ?_)
  refine wpAny_bind (collect_set (A := X.A.in1) (I.ok.hd hc) ha hf hsz ri hl fun s1 vs k1 hz g1 o1 pm => ?_)
  obtain ⟨xs', ds', a1, a2, a3⟩ := perm_vals pm rv rd
  have hs' := sortD_perm a3 hk nd hs
  have hlen : vs.length = es.size := by rw [pm.length_eq, List.length_map, Array.length_toList]
  have hsb : scanBound = 4096 := rfl
  have hz0 := sizeLine_eq
  refine wpAny_bind (wpAny_newList ?_ (by omega))
  have I1 : L2.Inv X pins σ H s1 := I.call' (ch := []) o1 (Un.kept k1) (I.hok.kept k1) (by rw [g1]; exact I.bare) (fun _ z => nomatch z)
  refine wpAny_bind (wpAny_holding (thn (sort_fin (A := X.A.in1) (s := s1) (Nat.le_refl _) hu I1 a1 sb a2 hs' q) fun _ s' hf => ?_))
  exact wpAny_pure ⟨_, rfl, hf⟩
end
end Pah
end
section
set_option maxHeartbeats 2000000
/-! Set11: the reading of sorted(set(x)). -/
namespace Pah
open PySem PySem.Spec PyProof.Rows L2 PySem.W
mutual
theorem nk_inj : ∀ a b : D, a.nb = true → b.nb = true → a.nk = b.nk → a = b
  | .non, b, _, hb, e => by cases b <;> simp [D.nb, D.nk] at hb e ⊢
  | .bl _, b, ha, hb, e => by simp [D.nb] at ha
  | .int x, b, _, hb, e => by cases b <;> simp [D.nb, D.nk] at hb e ⊢; exact e
  | .str x, b, _, hb, e => by cases b <;> simp [D.nb, D.nk] at hb e ⊢; exact e
  | .tup x, b, ha, hb, e => by
    cases b with
    | tup y =>
      simp only [D.nb] at ha hb
      simp only [D.nk, NestedKey.tup.injEq] at e
      rw [nks_inj x y ha hb e]
    | _ => simp [D.nb, D.nk] at hb e
  | .lst _, b, ha, hb, e => by simp [D.nb] at ha
  | .dic _ _, b, ha, hb, e => by simp [D.nb] at ha
  | .ref _, b, ha, hb, e => by simp [D.nb] at ha
  | .fn _, b, ha, hb, e => by simp [D.nb] at ha
theorem nks_inj : ∀ a b : List D, nbs a = true → nbs b = true → nks a = nks b → a = b
  | [], [], _, _, _ => rfl
  | [], _ :: _, _, _, e => by simp [nks] at e
  | _ :: _, [], _, _, e => by simp [nks] at e
  | x :: xs, y :: ys, ha, hb, e => by
    simp only [nbs, Bool.and_eq_true] at ha hb
    simp only [nks, List.cons.injEq] at e
    rw [nk_inj x y ha.1 hb.1 e.1, nks_inj xs ys ha.2 hb.2 e.2]
end
section
variable {P : Program} {w : World} {K : PySem.W.Frag} {mg : Str → Option Value} {G : Gh} {H : Hp}
theorem keyRefs {X : Cx} {pins : List (Addr × Obj)} {σ : L2.St} {s : Shared} (hK : X.K = K) (I : L2.Inv X pins σ H s) (sb : Sub G H) : ∀ {xs : List V} {ds : List D} {us : List Value}, ds.all D.key = true → RDs P w K mg G xs ds → Vals xs us →
    ∃ ks : KL, us = ks.map (fun p => Value.ref p.1) ∧ (∀ p ∈ ks, KeyAt P w s.heap p.2 p.1 ∧ ∃ d ∈ ds, RD P w K mg G (.ref p.1) d ∧ d.nk = p.2) ∧ (∀ d ∈ ds, d.nk ∈ ks.map (·.2)) ∧ ks.length = ds.length
  | [], [], [], _, .nil, .nil => ⟨[], rfl, fun p h => (by cases h), fun d h => (by cases h), rfl⟩
  | x :: xs, d :: ds, u :: us, h, .cons r rs, .cons v vs => by
    simp only [List.all_cons, Bool.and_eq_true] at h
    obtain ⟨a, rfl, ka⟩ := RD.isKey hK I sb h.1 r
    have hu : u = .ref a := v
    obtain ⟨ks, e, h1, h2, h3⟩ := keyRefs hK I sb h.2 rs vs
    refine ⟨(a, d.nk) :: ks, by rw [hu, e]; rfl, fun p hp => ?_, fun z hz => ?_, by simp [h3]⟩
    · rcases List.mem_cons.mp hp with rfl | hp
      · exact ⟨ka, d, List.mem_cons_self, r, rfl⟩
      · obtain ⟨k, z, hz, q⟩ := h1 p hp
        exact ⟨k, z, List.mem_cons_of_mem _ hz, q⟩
    · rcases List.mem_cons.mp hz with rfl | hz
      · exact List.mem_cons_self
      · exact List.mem_cons_of_mem _ (h2 z hz)
theorem keyThings {ds : List D} : ∀ {L : KL}, (∀ p ∈ L, ∃ d ∈ ds, RD P w K mg G (.ref p.1) d ∧ d.nk = p.2) → ∃ M : List D, RDs P w K mg G (L.map fun p => V.ref p.1) M ∧ M.map D.nk = L.map (·.2) ∧ ∀ d ∈ M, d ∈ ds
  | [], _ => ⟨[], .nil, rfl, fun d h => (by cases h)⟩
  | p :: L, h => by
    obtain ⟨d, hd, r, e⟩ := h p List.mem_cons_self
    obtain ⟨M, r2, e2, h2⟩ := keyThings (L := L) fun q hq => h q (List.mem_cons_of_mem _ hq)
    refine ⟨d :: M, .cons r r2, by simp [e, e2], fun z hz => ?_⟩
    rcases List.mem_cons.mp hz with rfl | hz
    · exact hd
    · exact h2 z hz
theorem vals_refs : ∀ L : KL, Vals (L.map fun p => V.ref p.1) (L.map fun p => Value.ref p.1)
  | [] => .nil
  | p :: L => .cons rfl (vals_refs L)
theorem ints_of {ds : List D} (h : ds.all isIntD = true) : ∃ ns : List Int, ds = ns.map D.int := by
  induction ds with
  | nil => exact ⟨[], rfl⟩
  | cons d ds ih =>
    simp only [List.all_cons, Bool.and_eq_true] at h
    obtain ⟨ns, e⟩ := ih h.2
    cases d with
    | int i => exact ⟨i :: ns, by rw [e]; rfl⟩
    | _ => simp [isIntD] at h
theorem rds_ints_inv : ∀ {vs : List V} {ns : List Int}, RDs P w K mg G vs (ns.map D.int) → vs = ns.map V.int
  | [], [], _ => rfl
  | v :: vs, n :: ns, .cons h r => by rw [h.int_inv, rds_ints_inv r]; rfl
  | [], _ :: _, h => by cases h
  | _ :: _, [], h => by cases h
theorem rds_ints' : ∀ ns : List Int, RDs P w K mg G (ns.map V.int) (ns.map D.int)
  | [] => .nil
  | z :: zs => .cons (.int z) (rds_ints' zs)
theorem good_vals : ∀ {l : List (Int × Value)}, (∀ e ∈ l, GoodE e) → Vals ((l.map keyOf).map V.int) (l.map (·.2))
  | [], _ => .nil
  | e :: l, h => by
    obtain ⟨k, tk, h1, h2⟩ := h e List.mem_cons_self
    refine .cons ?_ (good_vals fun z hz => h z (List.mem_cons_of_mem _ hz))
    show RelV (V.int (keyOf e)) e.2
    unfold keyOf
    rw [h1]
    exact ⟨tk, rfl⟩
variable (P w K mg) in
def tSrtSet (ta : TE) : TE := fun σ H Q => ta σ H fun x H1 => ∃ (G : Gh) (d : D) (l es : List D), Sub G H1 ∧ Vw P w K mg G H1 x d ∧ (d = .tup l ∨ d = .lst l) ∧ setOk l = true ∧ sortD (dedupD l) = some es ∧ ∀ p ys, H1 p = none → RDs P w K mg G ys es → Q (.ref p) (upd H1 p (.lst ys))
theorem pe_srtSet {X : Cx} {a : Expr} {ta : TE} {p p2 q pos : Pos} (eP : X.prog = P) (ew : X.w = w) (eK : X.K = K) (hc : X.calm = true) (hu : X.A.units + 200 < cLine) (hg : Gl X "sorted") (hm : X.mg "sorted" = none) (hg2 : Gl X "set") (hm2 : X.mg "set" = none) (ha : PE X a ta)
    (na : starEach [a] X.env = (false, eval a X.env) :: starEach [] X.env := by rfl) : PE X (.Call (.Name "sorted" p) [.Call (.Name "set" p2) [a] [] q] [] pos) (tSrtSet P w K mg ta) := by
  subst eP ew eK
  refine ⟨fun pins s σ H Q I h => ?_⟩
  refine Call_ (ld_blt I hg hm PyProof.Rows.boot_sorted ?_)
  refine PyProof.Rows.callWith_builtin1 (PyProof.Rows.args_cons ?_ rfl) rfl rfl
  refine Call_ (ld_blt I hg2 hm2 PyProof.Rows.boot_set ?_)
  refine PyProof.Rows.callWith_type1 (PyProof.Rows.args_cons (thn (ha.run pins s σ H _ I h) fun v s1 ⟨x, H1, I1, r1, q1⟩ => PyProof.Rows.args_nil ?_) na) na rfl
  obtain ⟨G, d, l, es, sb, hv, hd, ok, hs, q1⟩ := q1
  have hob : ∃ (c : Addr) (xs : List V) (its : List Value), x = .ref c ∧ RDs X.prog X.w X.K mg G xs l ∧ Vals xs its ∧ (s1.heap.IsList c its.toArray ∨ s1.heap.IsTuple c its.toArray) := by
    rcases hd with rfl | rfl
    · obtain ⟨c, xs, rfl, h1, _, h2⟩ := hv.tuple sb
      obtain ⟨its, r, pl, hz⟩ := I1.tuple h1
      exact ⟨c, xs, its, rfl, h2, r, .inr pl⟩
    · obtain ⟨c, xs, rfl, h1, h2⟩ := hv.list sb
      obtain ⟨its, r, pl, hz⟩ := I1.list h1
      exact ⟨c, xs, its, rfl, h2, r, .inl pl.isList⟩
  obtain ⟨c, xs, its, rfl, rd, vl, hob⟩ := hob
  cases r1
  have hsb : scanBound = 4096 := rfl
  unfold setOk at ok
  simp only [Bool.and_eq_true, Bool.or_eq_true, decide_eq_true_eq] at ok
  obtain ⟨h300, ok⟩ := ok
  have hnone : s1.heap.get? s1.heap.objs.size = none := by
    cases q : s1.heap.get? s1.heap.objs.size with
    | none => rfl
    | some o => exact absurd (Heap.lt_size q) (Nat.lt_irrefl _)
  rcases ok with ⟨hk, hnb⟩ | ⟨hi, h64⟩
  · obtain ⟨ks, eu, k1, k2, k3⟩ := keyRefs rfl I1 sb hk rd vl
    have inj : ∀ a ∈ l, ∀ b ∈ l, a.nk = b.nk → a = b := fun a ha b hb e => nk_inj a b (List.all_eq_true.mp hnb a ha) (List.all_eq_true.mp hnb b hb) e
    have few : ∀ L : KL, (L.map (·.2)).Nodup → (∀ p ∈ L, p ∈ ks) → L.length < 306 := fun L nd sub => by
      have z := nodup_len L ks (nodup_map_of nd) sub
      omega
    refine set_make (I1.ok.hd hc) hob (fun A' I' s2 hu' kp hS => fills_keys (by simpa using eu) few (fun p hp => (k1 p hp).1) hnone (by simp only [Around.in1_units]; omega) kp hS) fun h' tk ⟨L, es', ep, t, R, hh⟩ kp => ?_
    have hsub : ∀ p ∈ L, p ∈ ks := fun p hp => List.mem_of_mem_take (hh.sub p hp)
    obtain ⟨M, m1, m2, m3⟩ := keyThings (ds := l) (L := L) fun p hp => (k1 p (hsub p hp)).2
    have pm : M.Perm (dedupD l) := dedupD_perm inj (by rw [m2]; exact R.nd) m3 fun d hd => by
      rw [m2]
      obtain ⟨p, hp, e⟩ := List.mem_map.mp (k2 d hd)
      rw [← e]
      exact hh.all p (by rw [List.take_length]; exact hp)
    have hkey : ∀ a ∈ l, ∃ n, D.keyN n a = true := fun a ha => by
      have z := List.all_eq_true.mp hk a ha
      cases a with
      | tup ds => exact ⟨8, z⟩
      | _ => simp [D.key] at z
    have hs' := sortD_perm pm (fun a ha => hkey a (dedupD_sub ha)) (dedupD_nd l) hs
    have I2 : L2.Inv X pins σ H1 { s1 with heap := h', toks := tk } := I1.kept kp
    refine PyProof.Rows.args_nil ?_
    obtain ⟨o, ho, hex, hdat⟩ := R.ob
    refine sorted_raw (G := G) (mg := mg) (s := { s1 with heap := h', toks := tk }) (xs := L.map fun p => V.ref p.1) (ds := M) hc (by omega) I2 ⟨o, ho, hex.1, hdat⟩ (SetG.fits (s := { s1 with heap := h', toks := tk }) R) ?_ R.tab.ris R.led ?_ sb m1 (fun d hd => hkey d (m3 d hd)) (by rw [m2]; exact R.nd) hs' fun p ys hp hr => q1 p ys hp hr
    · rw [rows_size R.rows]
      have z := few L R.nd hsub
      omega
    · rw [R.rows]
      unfold rowsK
      rw [List.map_map]
      exact vals_refs L
  · obtain ⟨ns, rfl⟩ := ints_of hi
    obtain rfl := rds_ints_inv rd
    have hl : its.length = ns.length := by rw [← vl.length, List.length_map]
    rw [List.length_map] at h64
    refine set_make (Post := fun h => ∃ m, SetR X.w h s1.heap.objs.size (fun j => decide (j ∈ ns)) m ∧ m ≤ ns.length) (I1.ok.hd hc) hob (fun A' I' s2 hu' kp hS => ?_) fun h' tk ⟨m, R, hm⟩ kp => ?_
    · intro fp wr G' Pv St R W hv' hSf hw0 st hR
      refine int_loop W _ hSf ns (by rw [List.size_toArray]; exact hl) (fun i v hp => ?_) (by rw [List.size_toArray, hl]; omega) s1.heap hnone hw0 _ 0 s2 rfl (Nat.zero_le _) st kp ⟨0, ⟨_, #[], 0, _, hS, ⟨rfl, rfl, rfl⟩, rfl, fun e h => (by simp at h), by simp, fun k => by simp, by simp [hsb], by rfl, rfl, ?_, ?_⟩, Nat.le_refl _⟩ fun s' m hm hS' hle kp' => hR s' hm ⟨m, hS', by rw [List.size_toArray, hl] at hle; exact hle⟩ kp'
      · have e := hv' i v hp
        rw [← Array.getElem?_toList] at e
        have hi : i < ns.length := by
          have := (List.getElem?_eq_some_iff.mp e).1
          simpa [hl] using this
        have hx : (ns.map V.int)[i]? = some (.int ns[i]) := by rw [List.getElem?_map, List.getElem?_eq_getElem hi]; rfl
        obtain ⟨u, hu1, t, hu2⟩ := vl.get hx
        have e : its[i]? = some v := by simpa using e
        rw [e] at hu1
        cases hu1
        exact ⟨ns[i], t, List.getElem?_eq_getElem hi, hu2⟩
      · exact (SetG.fresh (P := X.prog) hS).tab.ris
      · exact (SetG.fresh (P := X.prog) hS).led
    · obtain ⟨o, es', ep, t, ho, hex, hdat, g, nd, hmem, hb, hf, hn, hr, hld⟩ := R
      have I2 : L2.Inv X pins σ H1 { s1 with heap := h', toks := tk } := I1.kept kp
      have nk_map : ∀ l : List Int, (l.map D.int).map D.nk = l.map NestedKey.num := fun l => by rw [List.map_map]; rfl
      have nd2 : (((es'.toList.map keyOf).map D.int).map D.nk).Nodup := by
        rw [nk_map]
        exact List.Pairwise.map _ (fun a b (h : a ≠ b) e => h (by injection e)) nd
      have pm : ((es'.toList.map keyOf).map D.int).Perm (dedupD (ns.map D.int)) := by
        refine dedupD_perm (fun a ha b hb e => ?_) nd2 (fun d hd => ?_) fun d hd => ?_
        · obtain ⟨i, _, rfl⟩ := List.mem_map.mp ha
          obtain ⟨j, _, rfl⟩ := List.mem_map.mp hb
          simp only [D.nk, NestedKey.num.injEq] at e
          rw [e]
        · obtain ⟨k, hk, rfl⟩ := List.mem_map.mp hd
          exact List.mem_map_of_mem (of_decide_eq_true ((hmem k).mpr hk))
        · obtain ⟨k, hk, rfl⟩ := List.mem_map.mp hd
          rw [nk_map]
          exact List.mem_map_of_mem ((hmem k).mp (decide_eq_true hk))
      have kk : ∀ ks : List Int, ∀ d ∈ ks.map D.int, ∃ n, D.keyN n d = true := fun ks d hd => by
        obtain ⟨k, _, rfl⟩ := List.mem_map.mp hd
        exact ⟨0, rfl⟩
      have hs' := sortD_perm pm (fun a ha => kk ns a (dedupD_sub ha)) (dedupD_nd _) hs
      refine PyProof.Rows.args_nil ?_
      exact sorted_raw (G := G) (mg := mg) (s := { s1 with heap := h', toks := tk }) (xs := (es'.toList.map keyOf).map V.int) (ds := (es'.toList.map keyOf).map D.int) hc (by omega) I2 ⟨o, ho, hex.1, hdat⟩ hf hb hr hld (good_vals g) sb (rds_ints' _) (kk _) nd2 hs' fun p ys hp hr => q1 p ys hp hr
end
end Pah
end
section
set_option maxHeartbeats 2000000
/-! Set12: sorted(set(x)) of the evaluator. -/
namespace Pah
open PySem PySem.Spec PyProof.Rows L2
section
variable {P : Program} {w : World} {K : PySem.W.Frag} {mg : Str → Option Value} {σ : L2.St} {H : Hp} {E : XK} {Φ : Phi}
theorem itemsS_some {d : D} {l : List D} (h : itemsS d = some l) : d = .tup l ∨ d = .lst l := by
  cases d <;> simp [itemsS] at h
  · exact .inl (by rw [h])
  · exact .inr (by rw [h])
theorem rdE_sortedset {a : Ex} {Q : VK} (h : rdE P w K mg Φ E (.bi .sortedset (.cons a .nil)) σ H Q) : tSrtSet P w K mg (rdB P w K mg Φ E a) σ H Q := by
  obtain ⟨B, G, s, R, q⟩ := h
  have q : pO P w K mg B E G (((asB a (evE Φ a) s).bind fun x s => .ok [x] s).bind fun ds s => Out.of (biD .sortedset (ds.map (deref s.mem))) s) (kV P w K mg B G σ Q) := q
  rw [bind_assoc] at q
  refine rdB_step R q fun d s1 v H1 G1 l1 R1 hv q1 => ?_
  simp only [bind_ok, List.map_cons, List.map_nil] at q1
  have hv := hv.deref R1.m
  simp only [biD] at q1
  cases e1 : itemsS (deref s1.mem d) with
  | none => rw [e1] at q1; exact q1.elim
  | some l =>
    rw [e1] at q1
    simp only [Option.bind_some] at q1
    by_cases ok : setOk l = true
    · rw [if_pos ok] at q1
      cases e2 : sortD (dedupD l) with
      | none => rw [e2] at q1; exact q1.elim
      | some es =>
        rw [e2] at q1
        exact ⟨G1, _, l, es, R1.sub, hv, itemsS_some e1, ok, e2, fun p ys hp hr => kV_res q1 l1 R1 (.lst hp hr)⟩
    · rw [if_neg ok] at q1; exact q1.elim
end
end Pah
end
section
set_option maxHeartbeats 2000000
/-! Isx: isinstance of the exception that is handled. -/
namespace Pah
open PySem PySem.Spec PyProof.Rows L2
theorem isx_ok {X : Cx} {a Dc : Addr} {oe : Obj} (C : ExcC X.K Dc) (hz : Zc (.ref Dc) none oe) (hf : ∃ vs, oe.data = .fields vs) (hm : (a, oe) ∈ X.pn) : CallR X (.builtin "isinstance") (rIsE X.K Dc a) := by
  intro pins s σ H xs us Q I r h
  obtain ⟨c, cv, b, rfl, hcv, e, q⟩ := h
  obtain ⟨u1, u2, rfl, rx, rt⟩ := vals2 r
  cases rx
  obtain rfl := hcv _ rt
  obtain ⟨hget, _⟩ := I.pin (a, oe) (List.mem_append_left _ hm)
  obtain ⟨vs, hv⟩ := hf
  have J : PySem.W.InstAt s.heap a oe Dc none := by
    obtain ⟨oc, od, oda, osl⟩ := oe
    obtain ⟨h1, h2⟩ := hz
    dsimp only at h1 h2 hv
    subst h1 h2 hv
    exact ⟨hget, rfl, rfl, trivial⟩
  exact PySem.W.kia_one (PySem.W.handS_kitx_exc C.hg C.hk C.hs C.hd C.ha C.hn C.ht C.hm) I.kIn J e (fun z => nomatch z) fun tk => ⟨.bl b, H, I.kept (t' := tk) fun _ _ z => z, rfl, q⟩
section
variable {P : Program} {w : World} {K : PySem.W.Frag} {mg : Str → Option Value} {σ : L2.St} {H : Hp} {E : XK} {Φ : Phi}
theorem rdE_isx {i : Nat} {Cn : Str} {Q : VK} (h : rdE P w K mg Φ E (.isx Cn (.var i)) σ H Q) : ∃ cl ad, Φ.con "%e" = some (.exc cl ad) ∧ σ[i]? = some (some (.ref ad)) ∧ Q (.bl (exsub cl Cn)) H := by
  obtain ⟨B, G, s, R, q⟩ := h
  have q : pO P w K mg B E G ((lookV i s).bind fun x s => match x, Φ.con "%e" with
    | .exc c b, some (.exc c' b') => if c = c' ∧ b = b' then .ok (.v (.bl (exsub c Cn))) s else .stuck
    | _, _ => .stuck) (kV P w K mg B G σ Q) := q
  obtain ⟨r, e1, q1⟩ := lookV_bind q
  obtain ⟨v, hv, hr⟩ := R.slot i r e1
  cases r with
  | v d =>
    have hr : RD P w K mg G v d := hr
    have q1 : pO P w K mg B E G (match d, Φ.con "%e" with
      | .exc c b, some (.exc c' b') => if c = c' ∧ b = b' then .ok (.v (.bl (exsub c Cn))) s else .stuck
      | _, _ => .stuck) (kV P w K mg B G σ Q) := q1
    cases hc : Φ.con "%e" with
    | none =>
      rw [hc] at q1
      cases d <;> exact q1.elim
    | some z =>
      rw [hc] at q1
      cases d with
      | exc c b =>
        cases z with
        | exc c' b' =>
          have q1 : pO P w K mg B E G (if c = c' ∧ b = b' then .ok (.v (.bl (exsub c Cn))) s else .stuck) (kV P w K mg B G σ Q) := q1
          by_cases he : c = c' ∧ b = b'
          · rw [if_pos he] at q1
            have q2 : kV P w K mg B G σ Q (.v (.bl (exsub c Cn))) s := q1
            obtain ⟨rfl, rfl⟩ := he
            cases hr
            exact ⟨c, b, rfl, hv, q2 _ H G .rfl R (.bl _) fun z => nomatch z⟩
          · rw [if_neg he] at q1; exact q1.elim
        | _ => exact q1.elim
      | _ => exact q1.elim
  | l ds =>
    have q1 : pO P w K mg B E G (Out.stuck : Out RV) (kV P w K mg B G σ Q) := q1
    exact q1.elim
  | m ks vs =>
    have q1 : pO P w K mg B E G (Out.stuck : Out RV) (kV P w K mg B G σ Q) := q1
    exact q1.elim
end
end Pah
end
section
set_option maxHeartbeats 8000000
/-! Snd11: the theorem of expressions. -/
namespace Pah
open PySem PySem.Spec PyProof.Rows L2
section
variable {P : Program} {w : World} {K : PySem.W.Frag} {mg : Str → Option Value} {Φ : Phi} {n : Nat}
variable (P w K mg) in
/-- what is shown of an expression -/
def SndE (Φ : Phi) (n : Nat) (c : Ck) (e : Ex) (x : Expr) : Prop := ∀ (X : Cx) (E : XK), CtxOk P w K mg Φ n X c E → PE X x (rdE P w K mg Φ E e) ∧ (tst e = true → PT X x (rdT P w K mg Φ E e))
/-- tests whose value is looked at -/
def plainT : Expr → Bool
  | .UnaryOp .Not _ _ => false
  | .BoolOp _ _ _ => false
  | .IfExp _ _ _ _ => false
  | .Compare _ _ _ _ => false
  | _ => true
theorem passes_E {X : Cx} {c : Ck} {E : XK} (C : CtxOk P w K mg Φ n X c E) : Passes (L2N.CX P w) X E := by
  have z := L2N.passes_call (X := X) (E := E) C.tk fun cls d σ H q => q
  rw [C.eP, C.ew] at z
  exact z
theorem passes_nox {X : Cx} {c : Ck} {E : XK} (C : CtxOk P w K mg Φ n X c E) : Passes (L2N.CX P w) X.nox FX := by
  have z := L2N.passes_call (X := X.nox) (E := FX) (W := fun _ _ _ _ => False) (fun u s' ⟨_, _, _, _, _, _, _, _, _, _, _, _, _, _, _, _, z⟩ => z.elim) fun cls d σ H q => q
  rw [show X.nox.prog = P from C.eP, show X.nox.w = w from C.ew] at z
  exact z
theorem isTrue_val {x : Expr} {env : Env} (h : plainT x = true) : ∀ whole, isTrue x env whole = (do let v ← whole; standAt x.pos; holding [v] (truthy v)) := by
  intro whole
  cases x with
  | UnaryOp op a p => cases op <;> first | rfl | cases h
  | BoolOp _ _ _ => cases h
  | IfExp _ _ _ _ => cases h
  | Compare _ _ _ _ => cases h
  | _ => rfl
theorem pt_of {X : Cx} {E : XK} {e : Ex} {x : Expr} (h : PE X x (rdE P w K mg Φ E e)) (hp : plainT x = true) : PT X x (rdT P w K mg Φ E e) :=
  PT.imp (pt_val h (isTrue_val hp)) fun σ H Q q => rdT_val q
theorem mk1 {X : Cx} {E : XK} {e : Ex} {x : Expr} (h : PE X x (rdE P w K mg Φ E e)) (hp : plainT x = true) : PE X x (rdE P w K mg Φ E e) ∧ (tst e = true → PT X x (rdT P w K mg Φ E e)) := ⟨h, fun _ => pt_of h hp⟩
theorem pw_of {X : Cx} {op : BoolOp} {vs : List Expr} {p : Pos} {t : TT} (h : PT X (.BoolOp op vs p) t) : PW X (.BoolOp op vs p) t := ⟨fun whole pins s σ H Q I hw => h.run pins s σ H Q I hw⟩
theorem pw1_and {X : Cx} {y : Expr} {p : Pos} {t : TT} (h : PT X y t) : PW X (.BoolOp .And [y] p) t := pw_and1 h
theorem rdEs_mono {P : Program} {w : World} {K : PySem.W.Frag} {mg : Str → Option Value} {σ : L2.St} {H : Hp} {E : XK} {Φ : Phi} {es : Exs} {Q Q' : List V → Hp → Prop} (h : rdEs P w K mg Φ E es σ H Q) (i : ∀ vs H1, Q vs H1 → Q' vs H1) : rdEs P w K mg Φ E es σ H Q' := by
  obtain ⟨B, G, s, R, q⟩ := h
  exact ⟨B, G, s, R, pO_mono q fun ds s' k vs H' G' l R' r => i _ _ (k vs H' G' l R' r)⟩
/-- the call of what a name holds -/
def tCallD (P : Program) (w : World) (K : PySem.W.Frag) (mg : Str → Option Value) (base : Heap) (CX : CXT) (k i : Nat) (E : XK) (t : TA) : TE := fun σ H Q => ∃ a, σ[i]? = some (some (.ref a)) ∧ PySem.W.keepIn K (.ref a) = true ∧
  t σ H fun vs H1 => ∃ fd ps sp, FnOk P w K mg base CX k a fd ps sp ∧ Binds K fd ps [] ∧ sp vs H1 Q E
theorem pe_callD {X : Cx} {CX : CXT} {k i : Nat} {E : XK} {x : Str} {p pos : Pos} {e : Expr} {es : List Expr} {t : TA} (hr : Room k X.A) (hN : X.N[i]? = some x) (hv : Vis X.env.scope x) (ha : PA X (e :: es) t) (hx : Passes CX X E) (n1 : (x == ("__debug__" : Str)) = false) (n2 : (x == ("__classdict__" : Str)) = false)
    (he : starEach (e :: es) X.env = (false, eval e X.env) :: starEach es X.env) (hpl : (backTo pos (starEach es X.env)).any (·.1) = false) : PE X (.Call (.Name x p) (e :: es) [] pos) (tCallD X.prog X.w X.K X.mg X.base CX k i E t) := by
  refine ⟨fun pins s σ H Q I ⟨a, hs, hk, ht⟩ => wpAny_Call_Name_kw (thn ((pe_var (pos := p) hN hv n1 n2).run pins s σ H (fun v H1 => v = .ref a ∧ H1 = H) I ⟨.ref a, hs, rfl, rfl⟩) fun u s1 ⟨v, H1, I1, r1, ev, eH⟩ => ?_)⟩
  subst ev eH
  cases r1
  refine PySem.W.callWith_K (h₀ := X.base) I.ok.mod.kin hk (thn (ha.run pos pins s1 σ _ _ I1 ht) fun us s2 ⟨vs, H2, I2, r, fd, ps, sp, F, hb, q⟩ => ⟨I2.kIn, ?_⟩) he hpl
  have z := run_fn (dvs := []) (ds := []) F hr hb .nil hx I2 r (by rw [List.append_nil]; exact q)
  exact z
mutual
theorem sndE : ∀ (c : Ck) (e : Ex) (x : Expr), chkE c e x = true → SndE P w K mg Φ n c e x
  | c, .var i, x, h => fun X E C => by
    obtain ⟨y, p, rfl, hq⟩ := inv_var h
    replace h := hq
    simp only [Bool.and_eq_true, decide_eq_true_eq] at h
    exact mk1 (PE.imp (pe_v C h.1.1 h.1.2 h.2) fun _ _ _ q => rd_var q) rfl
  | c, .int i, x, h => fun X E C => by
    obtain ⟨j, k, p, rfl, hq⟩ := inv_int h
    replace h := hq
    obtain rfl := of_decide_eq_true h
    exact mk1 (PE.imp pe_int fun _ _ _ q => rd_const (fun _ => rfl) (fun _ => .int i) q) rfl
  | c, .str i, x, h => fun X E C => by
    obtain ⟨j, k, p, rfl, hq⟩ := inv_str h
    replace h := hq
    obtain rfl := of_decide_eq_true h
    exact mk1 (PE.imp pe_str fun _ _ _ q => rd_const (fun _ => rfl) (fun _ => .str i) q) rfl
  | c, .bl i, x, h => fun X E C => by
    obtain ⟨j, k, p, rfl, hq⟩ := inv_bl h
    replace h := hq
    obtain rfl := of_decide_eq_true h
    exact mk1 (PE.imp pe_bl fun _ _ _ q => rd_const (fun _ => rfl) (fun _ => .bl i) q) rfl
  | c, .non, x, h => fun X E C => by
    obtain ⟨k, p, rfl, _⟩ := inv_non h
    exact mk1 (PE.imp pe_non fun _ _ _ q => rd_const (fun _ => rfl) (fun _ => .non) q) rfl
  | c, .gl i, x, h => fun X E C => by
    obtain ⟨y, p, rfl, hq⟩ := inv_gl h
    replace h := hq
    simp only [Bool.and_eq_true, decide_eq_true_eq] at h
    obtain ⟨⟨⟨rfl, h2⟩, h3⟩, h4⟩ := h
    obtain ⟨d, v, u, e1, e2, r, hr⟩ := C.con i h4
    refine mk1 (PE.imp (pe_glob (gl_of C h2) (by rw [C.em]; exact e2) r (okName_of h3).1) fun _ _ _ q => rd_const (d := d) (fun s => ?_) hr q) rfl
    show Out.of ((Φ.con i).map RV.v) s = _
    rw [e1]
    rfl
  | c, .tup es, x, h => fun X E C => by
    obtain ⟨xs, k, p, rfl, hq⟩ := inv_tup h
    replace h := hq
    exact mk1 (PE.imp (pe_tupN (sndEs c es xs h X E C)) fun _ _ _ q => rdE_tup q) rfl
  | c, .lst es, x, h => fun X E C => by
    obtain ⟨xs, p, rfl, hq⟩ := inv_lst h
    replace h := hq
    exact mk1 (PE.imp (pe_lst (sndEs c es xs h X E C)) fun _ _ _ q => rdE_lst q) rfl
  | c, .lstM es, x, h => fun X E C => by
    obtain ⟨xs, p, rfl, hq⟩ := inv_lstM h
    replace h := hq
    exact mk1 (PE.imp (pe_lst (sndEs c es xs h X E C)) fun _ _ _ q => rdE_lstM q) rfl
  | c, .dic0, x, h => fun X E C => by
    obtain ⟨p, rfl, _⟩ := inv_dic0 h
    exact mk1 (PE.imp pe_dic0 fun _ _ _ q => by rw [C.eP, C.ew]; exact rdE_dic0 q) rfl
  | c, .bin o a b, x, h => fun X E C => by
    obtain ⟨x1, p, y, pos, rfl, hq⟩ := inv_bin h
    replace h := hq
    simp only [Bool.and_eq_true, decide_eq_true_eq] at h
    obtain ⟨⟨rfl, h2⟩, h3⟩ := h
    exact mk1 (PE.imp (pe_op (opBin (mg := mg) C.eP C.ew C.eK o) (pe_b C h2 (sndE c a x1 h2 X E C).1) (pe_b C h3 (sndE c b y h3 X E C).1)) fun _ _ _ q => rdE_bin q) rfl
  | c, .neg a, x, h => fun X E C => by
    obtain ⟨x1, p, rfl, hq⟩ := inv_neg h
    replace h := hq
    exact mk1 (PE.imp (pe_un un_neg (sndE c a x1 h X E C).1) fun _ _ _ q => rdE_neg q) rfl
  | c, .cmp o a b, x, h => fun X E C => by
    obtain ⟨x1, p, y, pos, rfl, hq⟩ := inv_cmp h
    replace h := hq
    simp only [Bool.and_eq_true, decide_eq_true_eq, Bool.not_eq_true'] at h
    obtain ⟨⟨⟨rfl, h1⟩, h2⟩, h3⟩ := h
    have pa := pe_b C h2 (sndE c a x1 h2 X E C).1
    have pb := pe_b C h3 (sndE c b y h3 X E C).1
    exact ⟨PE.imp (pe_cmpR (opCmp (mg := mg) C.eP C.ew C.eK C.units o) pa pb (no_marks h1)) fun _ _ _ q => rdE_cmp q, fun _ => PT.imp (pt_cmpR (opCmp (mg := mg) C.eP C.ew C.eK C.units o) pa pb (no_marks h1)) fun σ H Q q => rdE_cmp (rdT_val q)⟩
  | c, .cmp2 o1 o2 a b d, x, h => fun X E C => by
    obtain ⟨x1, p, q, y, z, pos, rfl, hq⟩ := inv_cmp2 h
    replace h := hq
    simp only [Bool.and_eq_true, decide_eq_true_eq, Bool.not_eq_true'] at h
    obtain ⟨⟨⟨⟨⟨rfl, rfl⟩, h1⟩, h2⟩, h3⟩, h4⟩ := h
    have pa := (sndE c a x1 h2 X E C).1
    have pb := (sndE c b y h3 X E C).1
    have pd := (sndE c d z h4 X E C).1
    exact ⟨PE.imp (pe_chain (opCmp (mg := mg) C.eP C.ew C.eK C.units o1) (opCmp (mg := mg) C.eP C.ew C.eK C.units o2) pa pb pd (no_last h1)) fun _ _ _ q => rdE_cmp2 q,
      fun _ => PT.imp (pt_chain (opCmp (mg := mg) C.eP C.ew C.eK C.units o1) (opCmp (mg := mg) C.eP C.ew C.eK C.units o2) pa pb pd (no_last h1)) fun σ H Q q => rdE_cmp2 (rdT_val q)⟩
  | c, .isnon ng a, x, h => fun X E C => by
    obtain ⟨x1, p, k, pp, pos, rfl, hq⟩ := inv_isnon h
    replace h := hq
    simp only [Bool.and_eq_true, decide_eq_true_eq] at h
    obtain ⟨rfl, h2⟩ := h
    have pa := pe_b C h2 (sndE c a x1 h2 X E C).1
    cases ng with
    | false => exact ⟨PE.imp (pe_cmp (pc_isN pa) rfl) fun _ _ _ q => by have z := rdE_isnon q; exact z, fun _ => PT.imp (pt_cmp (pc_isN pa) rfl) fun σ H Q q => by have z := rdE_isnon (rdT_val q); exact z⟩
    | true => exact ⟨PE.imp (pe_cmp (pc_notN pa) rfl) fun _ _ _ q => by have z := rdE_isnon q; exact z, fun _ => PT.imp (pt_cmp (pc_notN pa) rfl) fun σ H Q q => by have z := rdE_isnon (rdT_val q); exact z⟩
  | c, .and a b, x, h => fun X E C => by
    obtain ⟨x1, y, rest, p, rfl, hq⟩ := inv_and h
    replace h := hq
    rw [Bool.and_eq_true] at h
    obtain ⟨h1, h2⟩ := h
    have ia := sndE c a x1 h1 X E C
    cases rest with
    | nil =>
      have ib := sndE c b y h2 X E C
      refine ⟨PE.imp (pe_and ia.1 (pe_one ib.1)) fun _ _ _ q => rdE_and q, fun ht => ?_⟩
      have ht : (tst a && tst b) = true := ht
      rw [Bool.and_eq_true] at ht
      exact PT.imp (pw_and (ia.2 ht.1) (pw_and1 (ib.2 ht.2))).pt fun σ H Q q => rdT_and q
    | cons z rest =>
      rw [Bool.and_eq_true] at h2
      have ib := sndE c b (.BoolOp .And (y :: z :: rest) p) h2.2 X E C
      refine ⟨PE.imp (pe_and ia.1 ib.1) fun _ _ _ q => rdE_and q, fun ht => ?_⟩
      have ht : (tst a && tst b) = true := ht
      rw [Bool.and_eq_true] at ht
      exact PT.imp (pw_and (ia.2 ht.1) (pw_of (ib.2 ht.2))).pt fun σ H Q q => rdT_and q
  | c, .or a b, x, h => fun X E C => by
    obtain ⟨x1, y, rest, p, rfl, hq⟩ := inv_or h
    replace h := hq
    rw [Bool.and_eq_true] at h
    obtain ⟨h1, h2⟩ := h
    have ia := sndE c a x1 h1 X E C
    cases rest with
    | nil =>
      have ib := sndE c b y h2 X E C
      refine ⟨PE.imp (pe_or ia.1 (pe_one ib.1)) fun _ _ _ q => rdE_or q, fun ht => ?_⟩
      have ht : (tst a && tst b) = true := ht
      rw [Bool.and_eq_true] at ht
      exact PT.imp (pw_or (ia.2 ht.1) (pw_or1 (ib.2 ht.2))).pt fun σ H Q q => rdT_or q
    | cons z rest =>
      rw [Bool.and_eq_true] at h2
      have ib := sndE c b (.BoolOp .Or (y :: z :: rest) p) h2.2 X E C
      refine ⟨PE.imp (pe_or ia.1 ib.1) fun _ _ _ q => rdE_or q, fun ht => ?_⟩
      have ht : (tst a && tst b) = true := ht
      rw [Bool.and_eq_true] at ht
      exact PT.imp (pw_or (ia.2 ht.1) (pw_of (ib.2 ht.2))).pt fun σ H Q q => rdT_or q
  | c, .not a, x, h => fun X E C => by
    obtain ⟨x1, p, rfl, hq⟩ := inv_not h
    replace h := hq
    have ia := sndE c a x1 h X E C
    exact ⟨PE.imp (pe_not ia.1) fun _ _ _ q => rdE_not q, fun ht => PT.imp (pt_not (ia.2 ht)) fun σ H Q q => rdT_not q⟩
  | c, .ite t a b, x, h => fun X E C => by
    obtain ⟨u, x1, y, p, rfl, hq⟩ := inv_ite h
    replace h := hq
    simp only [Bool.and_eq_true] at h
    obtain ⟨⟨⟨h0, h1⟩, h2⟩, h3⟩ := h
    exact ⟨PE.imp (pe_ifExp ((sndE c t u h1 X E C).2 h0) (sndE c a x1 h2 X E C).1 (sndE c b y h3 X E C).1) fun _ _ _ q => rdE_ite q, fun z => by cases z⟩
  | c, .isty t a, x, h => fun X E C => by
    obtain ⟨f, q, x1, T, q2, p, rfl, hq⟩ := inv_isty h
    replace h := hq
    simp only [Bool.and_eq_true, decide_eq_true_eq, Bool.not_eq_true'] at h
    obtain ⟨⟨⟨⟨⟨rfl, h1⟩, rfl⟩, h2⟩, h3⟩, h4⟩ := h
    have pa := pe_b C h4 (sndE c a x1 h4 X E C).1
    have nm : ∀ t : Ty, ((tyS t : Str) ∈ bNames) ∧ ((tyS t : Str) ≠ "__name__") ∧ ((tyS t : Str) == ("__debug__" : Str)) = false := fun t => by cases t <;> exact ⟨by decide, by decide, by decide⟩
    have hb : bootBuiltins (tyS t : Str) = some (.type (tyS t)) := by
      cases t <;> (show bootBuiltins _ = _; decide +kernel)
    have hT : PE X (.Name (tyS t : Str) q2) (tC (.ty (tyS t))) := pe_bltn (gl_of C h2) (by rw [C.em]; exact C.blt _ (nm t).1) hb rfl (nm t).2.1 (nm t).2.2
    exact mk1 (PE.imp (pe_callB (isi_ok (mg := mg) C.eP C.ew C.eK t) (gl_of C h1) (by rw [C.em]; exact C.blt _ (by decide)) boot_isinstance (pa_cons pa (pa_cons hT pa_nil rfl) (star_each h3)) (by decide) (by decide) (star_each h3) rfl) fun _ _ _ q => rdE_isty q) rfl
  | c, .isx Cn a, x, h => fun X E C => by
    obtain ⟨i, f, q, x1, xp, T, q2, p, rfl, rfl, hq⟩ := inv_isx h
    replace h := hq
    rw [Bool.and_eq_true, Bool.and_eq_true, Bool.and_eq_true, Bool.and_eq_true, Bool.and_eq_true, Bool.and_eq_true] at h
    obtain ⟨⟨⟨⟨⟨⟨h0, h1⟩, hT0⟩, h2⟩, h2'⟩, hx⟩, h4⟩ := h
    obtain rfl := of_decide_eq_true h0
    obtain rfl := of_decide_eq_true hT0
    have hx := of_decide_eq_true hx
    have pa : PE X (.Name x1 xp) (tVar i) := pe_b C h4 (sndE c (.var i) (.Name x1 xp) h4 X E C).1
    have hne : c.xs ≠ [] := fun e => by rw [e] at hx; cases hx
    refine mk1 ⟨fun pins s σ H Q I hq => ?_⟩ rfl
    obtain ⟨cl, ad, hcon, hs, hQ⟩ := rdE_isx hq
    obtain ⟨oe, Dc, m1, m2, m3, m4, m5⟩ := C.hx hne cl ad hcon
    obtain ⟨Ca, g1, g2⟩ := m5 T hx
    have hTn : PE X (.Name T q2) (tC (.ref Ca)) := pe_glob (gl_of C h2) (by rw [C.em]; exact g1) rfl (okName_of h2').1
    have z := pe_callB (p := q) (pos := p) (isx_ok (by rw [C.eK]; exact m4) m2 m3 m1) (gl_of C h1) (by rw [C.em]; exact C.blt _ (by decide)) boot_isinstance (pa_cons pa (pa_cons hTn pa_nil rfl) rfl) (by decide) (by decide) rfl rfl
    exact z.run pins s σ H Q I ⟨.ref ad, hs, .ref Ca, .ref Ca, _, rfl, fun u r => r, by rw [C.eK]; exact g2, hQ⟩
  | c, .call f es, x, h => fun X E C => by
    obtain ⟨g, q, xs, p, rfl, hq⟩ := inv_call h
    replace h := hq
    simp only [Bool.and_eq_true, decide_eq_true_eq] at h
    obtain ⟨⟨⟨⟨⟨h0, rfl⟩, h1⟩, h2⟩, h3⟩, h4⟩ := h
    have room : Room (4 * n) X.A := (C.room (by simpa using h0)).mono (by split <;> omega)
    obtain ⟨a, fd, ps, m1, m2, m3, m4, m5⟩ := C.calls f xs.length h4
    have hp := sndEs c es xs h3 X E C
    have hl := chkEs_len h3
    have hn : ∀ (s s1 : S) (ds : List D), evEs Φ es s = .ok ds s1 → ds.length = xs.length := fun s s1 ds e => by rw [hl]; exact evEs_len e
    have m1 : X.mg f = some (.ref a) := by rw [C.em]; exact m1
    have m2 : PySem.W.keepIn X.K (.ref a) = true := by rw [C.eK]; exact m2
    have m4 : FnOk X.prog X.w X.K X.mg X.base (L2N.CX P w) (4 * n) a fd ps (spF P w K mg Φ f xs.length) := by rw [C.eP, C.ew, C.eK, C.em]; exact m4
    have m5 : Binds X.K fd ps [] := by rw [C.eK]; exact m5
    have px : Passes (L2N.CX P w) X E := by
      have z := L2N.passes_call (X := X) (E := E) C.tk fun cls d σ H q => q
      rw [C.eP, C.ew] at z
      exact z
    have hs := chkEs_star h3
    cases xs with
    | nil =>
      cases es with
      | nil =>
        refine mk1 (PE.imp (pe_call0 m4 room (gl_of C h1) m1 m2 m5 .nil px (okName_of h2).1) fun _ _ _ q => ?_) rfl
        obtain ⟨B, G, s, R, z⟩ := rdE_call hn q
        exact z [] _ G .rfl R .nil
      | cons _ _ => simp [chkEs] at h3
    | cons y ys =>
      simp only [List.all_cons, Bool.and_eq_true, Bool.not_eq_true'] at hs
      exact mk1 (PE.imp (pe_call m4 room (gl_of C h1) m1 m2 m5 .nil px hp (okName_of h2).1 (star_each hs.1) (star_all hs.2 p)) fun _ _ _ q => rdE_call hn q) rfl
  | c, .callV i es, x, h => fun X E C => by
    obtain ⟨y, q, z, zs, p, rfl, hq⟩ := inv_callV h
    replace h := hq
    simp only [Bool.and_eq_true, decide_eq_true_eq] at h
    obtain ⟨⟨⟨⟨h0, h1⟩, h2⟩, h3⟩, h4⟩ := h
    have room : Room (4 * n) X.A := (C.room (by simpa using h0)).mono (by split <;> omega)
    have hp := sndEs c es (z :: zs) h4 X E C
    have hs := chkEs_star h4
    simp only [List.all_cons, Bool.and_eq_true, Bool.not_eq_true'] at hs
    have px : Passes (L2N.CX P w) X E := by
      have z := L2N.passes_call (X := X) (E := E) C.tk fun cls d σ H q => q
      rw [C.eP, C.ew] at z
      exact z
    refine mk1 (PE.imp (pe_callD (k := 4 * n) (CX := L2N.CX P w) (E := E) (i := i) room (by rw [C.N]; exact h1) (vis_of C h2) hp px (okName_of h3).1 (okName_of h3).2.1 (star_each hs.1) (star_all hs.2 p)) fun _ _ _ q => ?_) rfl
    obtain ⟨f, a, e1, e2, e3, q⟩ := rdE_callV q
    refine ⟨a, e1, by rw [C.eK]; exact e3, rdEs_mono q fun vs H1 ⟨np, ⟨ds, m, hst, hl⟩, q1⟩ => ?_⟩
    have hf := C.dyn f ds m a e2 hst
    rw [hl] at hf
    obtain ⟨a', fd, ps, m1, m2, m3, m4, m5⟩ := C.calls f np hf
    rw [e2] at m1
    cases m1
    exact ⟨fd, ps, _, by rw [C.eP, C.ew, C.eK, C.em]; exact m4, by rw [C.eK]; exact m5, q1⟩
  | c, .refd a, x, h => fun X E C => by
    obtain ⟨g, q, body, scope, lp, p, rfl, hq⟩ := inv_refd h
    replace h := hq
    simp only [Bool.and_eq_true, decide_eq_true_eq] at h
    obtain ⟨⟨⟨⟨⟨hl, h0⟩, rfl⟩, h1⟩, h2⟩, h3⟩ := h
    have h0 : c.hot = false := by simpa using h0
    have LO := C.lam hl
    obtain ⟨cc, Pt, k1, k2, k3, k4⟩ := LO.code
    obtain ⟨ga, fd, pg, bg, sg, Ng, na, r1, r2, r3, r4, r5, r6, r7, r8, r9⟩ := LO.rf
    have room : Room (4 * n + 1 + 2) X.A := by
      have := C.room h0
      rw [if_pos hl] at this
      exact this
    have L : LamX.LamS X.env.scope scope := by rw [C.sc]; exact LamX.lamS_by h2
    refine mk1 (PE.imp (pe_lamN (X := X) (T := Tk K) (TT := TTr K mg) (t := fun E' => rdE P w K mg Φ E' a) (gl_of C h1) (by rw [C.em]; exact r1) (by rw [C.eK]; exact r2) (by rw [C.eK]; exact r3) r4 r5 r6 r9 (by rw [C.em]; exact k2) k1 k3 k4 room L rfl (fun _ _ _ _ _ => rfl)
      (fun A outer s H E' f c' hr => (sndE (c.lamC scope) a body h3 _ E' (C.lamC h0 hr)).1) (by decide) r7 r8) fun _ _ _ q => rdE_refd q) rfl
  | c, .bi f es, x, h => fun X E C => by
    rcases inv_bi h with ⟨a, g, q, g2, q2, x1, p2, p, rfl, rfl, rfl, hq⟩ | ⟨a, g, q, g2, q2, x1, p2, p, rfl, rfl, rfl, hq⟩ | ⟨a, g, q, x1, p, rfl, rfl, hq⟩ | ⟨a, b, es', g, q, x1, y, xs, p, rfl, rfl, hq⟩ <;> replace h := hq
    · simp only [Bool.and_eq_true, decide_eq_true_eq, Bool.not_eq_true'] at h
      obtain ⟨⟨⟨⟨⟨⟨h0, rfl⟩, rfl⟩, h1⟩, h2⟩, h3⟩, h4⟩ := h
      have pa := pe_b C h4 (sndE c a x1 h4 X E C).1
      exact mk1 (PE.imp (pe_listRg (C.calm h0) (gl_of C h1) (by rw [C.em]; exact C.blt _ (by decide)) (prg_1 (gl_of C h2) (by rw [C.em]; exact C.blt _ (by decide)) pa (star_each h3)) (star_each rfl)) fun _ _ _ q => rdE_listrange q) rfl
    · simp only [Bool.and_eq_true, decide_eq_true_eq, Bool.not_eq_true'] at h
      obtain ⟨⟨⟨⟨⟨⟨h0, rfl⟩, rfl⟩, h1⟩, h2⟩, h3⟩, h4⟩ := h
      have pa := pe_b C h4 (sndE c a x1 h4 X E C).1
      exact mk1 (PE.imp (pe_srtSet (mg := mg) C.eP C.ew C.eK (C.calm h0) (by have := (C.room h0).un; omega) (gl_of C h1) (by rw [C.em]; exact C.blt _ (by decide)) (gl_of C h2) (by rw [C.em]; exact C.blt _ (by decide)) pa (star_each h3)) fun _ _ _ q => rdE_sortedset q) rfl
    · rw [Bool.and_eq_true, Bool.and_eq_true, Bool.and_eq_true, Bool.and_eq_true, Bool.and_eq_true] at h
      obtain ⟨⟨⟨⟨⟨hf, hh⟩, he⟩, h1⟩, h3⟩, h4⟩ := h
      obtain rfl := of_decide_eq_true he
      have h3 : star x1 = false := by simpa using h3
      have pa := pe_b C h4 (sndE c a x1 h4 X E C).1
      exact mk1 (PE.imp (pe_bi hf hh C (gl_of C h1) (pa_cons pa pa_nil (star_each h3)) h3 rfl) fun _ _ _ q => rdE_bi1 q) rfl
    · rw [Bool.and_eq_true, Bool.and_eq_true, Bool.and_eq_true, Bool.and_eq_true, Bool.and_eq_true, Bool.and_eq_true, Bool.and_eq_true, Bool.and_eq_true] at h
      obtain ⟨⟨⟨⟨⟨⟨⟨⟨hf, hh⟩, he⟩, h1⟩, h3⟩, h4⟩, h5⟩, h6⟩, h7⟩ := h
      obtain rfl := of_decide_eq_true he
      have h3 : star x1 = false := by simpa using h3
      have h5 : star y = false := by simpa using h5
      have pa := (sndE c a x1 h4 X E C).1
      have pb := (sndE c b y h6 X E C).1
      have pr := sndEs c es' xs h7 X E C
      have pbr : PA X (y :: xs) (rdEs P w K mg Φ E (.cons b es')) := PA.imp (pa_cons pb pr (star_each h5)) fun _ _ _ q => rdEs_cons q
      have hst : (y :: xs).all (fun e => !star e) = true := by
        simp only [List.all_cons, Bool.and_eq_true, Bool.not_eq_true']
        exact ⟨h5, chkEs_star h7⟩
      exact mk1 (PE.imp (pe_bi hf hh C (gl_of C h1) (pa_cons pa pbr (star_each h3)) h3 hst) fun _ _ _ q => rdE_bi2 q) rfl
  | c, .mth f o a, x, h => fun X E C => by
    obtain ⟨x1, m, ap, y, cp, rfl, hq⟩ := inv_mth h
    replace h := hq
    simp only [Bool.and_eq_true, decide_eq_true_eq, Bool.not_eq_true'] at h
    obtain ⟨⟨⟨⟨⟨⟨rfl, _⟩, h1⟩, h2⟩, h3⟩, h4⟩, h5⟩ := h
    exact mk1 (PE.imp (pe_mth (mg := mg) C.eP C.ew C.eK C.units (pe_b C h4 (sndE c o x1 h4 X E C).1) (pe_b C h5 (sndE c a y h5 X E C).1) (base_ok h2) (star_each h3) h1) fun _ _ _ q => rdE_mth q) rfl
  | c, .pop i, x, h => fun X E C => by
    obtain ⟨y, q, m, ap, cp, rfl, hq⟩ := inv_pop h
    replace h := hq
    simp only [Bool.and_eq_true, decide_eq_true_eq] at h
    obtain ⟨⟨⟨⟨rfl, h1⟩, h2⟩, h3⟩, h4⟩ := h
    exact mk1 (PE.imp (pe_bm0 F.plainAttrs_list F.slot_list_pop F.type_list_pop mt_pop (pe_v C h2 h3 h4) rfl h1) fun _ _ _ q => rdE_pop C.eK q) rfl
  | c, .idx a i, x, h => fun X E C => by
    obtain ⟨x1, y, p, rfl, hq⟩ := inv_idx h
    replace h := hq
    simp only [Bool.and_eq_true, Bool.not_eq_true'] at h
    obtain ⟨⟨h1, h2⟩, h3⟩ := h
    exact mk1 (PE.imp (pe_ix (ixIdx (mg := mg) C.eP C.ew C.eK C.units) (pe_b C h2 (sndE c a x1 h2 X E C).1) (pe_b C h3 (sndE c i y h3 X E C).1) (plain_ix h1)) fun _ _ _ q => rdE_idx q) rfl
  | c, .slice a lo hi, x, h => fun X E C => by
    obtain ⟨x1, l, hh, p2, p, rfl, hq⟩ := inv_slice h
    replace h := hq
    simp only [Bool.and_eq_true] at h
    obtain ⟨⟨h1, h2⟩, h3⟩ := h
    have pl : PO X l (rdO P w K mg Φ E lo) := by
      cases l with
      | none => exact PO.imp po_none fun _ _ _ q => rdO_none h2 q
      | some y =>
        simp only [Bool.and_eq_true, Bool.not_eq_true'] at h2
        exact PO.imp (po_some (sndE c lo y h2.2 X E C).1) fun _ _ _ q => rdO_some h2.1 q
    have ph : PO X hh (rdO P w K mg Φ E hi) := by
      cases hh with
      | none => exact PO.imp po_none fun _ _ _ q => rdO_none h3 q
      | some y =>
        simp only [Bool.and_eq_true, Bool.not_eq_true'] at h3
        exact PO.imp (po_some (sndE c hi y h3.2 X E C).1) fun _ _ _ q => rdO_some h3.1 q
    exact mk1 (PE.imp (pe_slice (slSlice (mg := mg) C.eP C.ew C.eK) (pe_b C h1 (sndE c a x1 h1 X E C).1) pl ph) fun _ _ _ q => rdE_slice q) rfl
  | c, .upper a, x, h => fun X E C => by
    obtain ⟨x1, m, ap, cp, rfl, hq⟩ := inv_upper h
    simp only [Bool.and_eq_true, decide_eq_true_eq] at hq
    obtain ⟨⟨⟨rfl, h1⟩, h2⟩, h3⟩ := hq
    exact mk1 (PE.imp (pe_upper (sndE c a x1 h3 X E C).1 (base_ok h2) h1) fun _ _ _ q => rdE_upper q) rfl
  | c, .get i k, x, h => fun X E C => by
    obtain ⟨y, q, m, ap, z, k2, p2, cp, rfl, hq⟩ := inv_get h
    simp only [Bool.and_eq_true, decide_eq_true_eq, Bool.not_eq_true'] at hq
    obtain ⟨⟨⟨⟨⟨⟨rfl, h1⟩, h2⟩, h3⟩, h4⟩, h5⟩, h6⟩ := hq
    have st : starEach [z, .Constant .none k2 p2] X.env = [(false, eval z X.env), (false, eval (.Constant .none k2 p2) X.env)] := by
      rw [star_each h5]
      rfl
    exact mk1 (PE.imp (pe_dget2 (by have := C.un; omega) (pe_v C h2 h3 h4) (sndE c k z h6 X E C).1 pe_non ⟨rfl, by rw [st]; rfl, h1, by rw [st]; rfl⟩) fun _ _ _ q => rdE_get q) rfl
  | c, .rev a, x, h => fun X E C => by
    obtain ⟨x1, j, k, p1, p2, p3, p, rfl, hq⟩ := inv_rev h
    simp only [Bool.and_eq_true, decide_eq_true_eq] at hq
    obtain ⟨rfl, h1⟩ := hq
    have z := pe_revL (k := k) (p1 := p1) (p2 := p2) (p3 := p3) (pos := p) (pe_b C h1 (sndE c a x1 h1 X E C).1)
    rw [C.eK] at z
    exact mk1 (PE.imp z fun _ _ _ q => rdE_rev q) rfl
  | c, .fld cl a f, x, h => fun X E C => by
    obtain ⟨x1, g, p, rfl, hq⟩ := inv_fld h
    simp only [Bool.and_eq_true, decide_eq_true_eq] at hq
    obtain ⟨⟨⟨rfl, h1⟩, h2⟩, h3⟩ := hq
    have z := pe_fld (f := g) (pos := p) (sndE c a x1 h3 X E C).1 (base_ok h2)
    rw [C.eK] at z
    exact mk1 (PE.imp z fun _ _ _ q => rdE_fld (C.fat _ h1) q) rfl
  | c, .prop cl a f, x, h => fun X E C => by
    obtain ⟨x1, g, p, rfl, hq⟩ := inv_prop h
    simp only [Bool.and_eq_true, decide_eq_true_eq] at hq
    obtain ⟨⟨⟨⟨h0, rfl⟩, h1⟩, h2⟩, h3⟩ := hq
    obtain ⟨Ca, pa, gg, fd, ps, m1, m2, m3, m4, m5⟩ := C.prp _ h1
    have room : Room (4 * n + 1) X.A := (C.room (by simpa using h0)).mono (by split <;> omega)
    have z := pe_prop (X := X) (CX := L2N.CX P w) (E := FX) (f := g) (dvs := []) (ds := []) (pos := p) (sndE c a x1 h3 X E C).1 (by rw [C.eK]; exact m2) (by rw [C.eK]; exact m3) (by rw [C.eP, C.ew, C.eK, C.em]; exact m4) room (by rw [C.eK]; exact m5) .nil (passes_nox C) (base_ok h2)
    refine mk1 (PE.imp z fun _ _ _ q => ?_) rfl
    have q2 := rdE_prop q
    obtain ⟨B, G, s, R, q2⟩ := q2
    refine ⟨B, G, s, R, pO_mono q2 fun r s' k v H' G' l R' hr al => ?_⟩
    obtain ⟨a', C', dx, fs, g1, g2, g3, g4⟩ := k v H' G' l R' hr al
    rw [m1] at g1
    cases g1
    exact ⟨a', dx, fs, g2, g3, g4⟩
  | c, .cm cl m a, x, h => fun X E C => by
    obtain ⟨y, q, g, ap, x1, cp, rfl, hq⟩ := inv_cm h
    simp only [Bool.and_eq_true, decide_eq_true_eq, Bool.not_eq_true'] at hq
    obtain ⟨⟨⟨⟨⟨⟨⟨⟨h0, rfl⟩, rfl⟩, h1⟩, h2⟩, h3⟩, h6⟩, h4⟩, h5⟩ := hq
    obtain ⟨Ca, mc, pa, gg, m1, m2, m3, m4, m5⟩ := C.cme _ h3
    have room : Room (4 * n) X.A := (C.room (by simpa using h0)).mono (by split <;> omega)
    have pn : PE X (.Name y q) (tC (.ref Ca)) := pe_glob (gl_of C h1) (by rw [C.em]; exact m1) rfl (okName_of h2).1
    have k4 : ClX.CMet X.K Ca mc g pa gg := by rw [C.eK]; exact m4
    have k5 : FnR X.prog X.w X.K X.mg X.base (L2N.CX P w) (4 * n) gg (spF P w K mg Φ (y ++ "." ++ g) 2) := by rw [C.eP, C.ew, C.eK, C.em]; exact m5
    have z := ClX.pe_cmeth (X := X) (CX := L2N.CX P w) (E := E) (apos := ap) (pos := cp) pn (by rw [C.eK]; exact m3) k4 k5 room (passes_E C) (pa_cons (sndE c a x1 h5 X E C).1 pa_nil (star_each h4)) (star_each h4) rfl (meth_ht rfl (by simp [h4]) (by simp) h6)
    exact mk1 (PE.imp z fun _ _ _ q => rdE_cm m1 m2 q) rfl
  | c, .mkS cl a, x, h => fun X E C => by
    obtain ⟨y, q, x1, p2, cp, rfl, hq⟩ := inv_mkS h
    simp only [Bool.and_eq_true, decide_eq_true_eq] at hq
    obtain ⟨⟨⟨⟨⟨h0, rfl⟩, h1⟩, h2⟩, h3⟩, h4⟩ := hq
    obtain ⟨Ca, gg, m1, m2, m3⟩ := C.mak _ h3
    have room : Room (4 * n + 1) X.A := (C.room (by simpa using h0)).mono (by split <;> omega)
    exact mk1 (PE.imp (pe_mkS (mg := mg) C.eP C.ew C.eK C.em (by rw [C.eK]; exact m2) (by rw [C.eP, C.ew, C.eK, C.em]; exact m3) room (gl_of C h1) (by rw [C.em]; exact m1) (passes_E C) (pe_b C h4 (sndE c a x1 h4 X E C).1) (okName_of h2).1) fun _ _ _ q => rdE_mkS m1 q) rfl
  | c, .mkV cl i a, x, h => fun X E C => by
    obtain ⟨y, q, x1, p2, cp, rfl, hq⟩ := inv_mkV h
    simp only [Bool.and_eq_true, decide_eq_true_eq] at hq
    obtain ⟨⟨⟨⟨⟨h0, h1⟩, h2⟩, h2'⟩, h3⟩, h4⟩ := hq
    obtain ⟨Ca, gg, m1, m2, m3⟩ := C.mak _ h3
    have room : Room (4 * n + 1) X.A := (C.room (by simpa using h0)).mono (by split <;> omega)
    exact mk1 (PE.imp (pe_mkV (mg := mg) C.eP C.ew C.eK C.em (by rw [C.eK]; exact m2) (by rw [C.eP, C.ew, C.eK, C.em]; exact m3) room (by rw [C.N]; exact h1) (vis_of C h2) (okName_of h2').1 (okName_of h2').2.1 (passes_E C) (pe_b C h4 (sndE c a x1 h4 X E C).1)) fun _ _ _ q => rdE_mkV m1 q) rfl
  | c, .comp elt tg it cond, x, h => fun X E C => by
    obtain ⟨x1, t, y, ifs, z, scope, p, rfl, hq⟩ := inv_comp h
    replace h := hq
    rw [Bool.and_eq_true, Bool.and_eq_true, Bool.and_eq_true, Bool.and_eq_true, Bool.and_eq_true, Bool.and_eq_true, Bool.and_eq_true, Bool.and_eq_true, Bool.and_eq_true] at h
    obtain ⟨⟨⟨⟨⟨⟨⟨⟨⟨h0, h1⟩, h2⟩, h3⟩, h4⟩, h5⟩, h6⟩, h7⟩, h8⟩, h9⟩ := h
    obtain rfl := of_decide_eq_true h1
    have h3 : isSet y = false := by simpa using h3
    have bok : BlkOk X.N X.env.scope scope (ownOf c.N tg.vars) := by rw [C.N, C.sc]; exact blkOk_by h4
    have pi : PI X t y (rdI P w K mg Φ E it) := sndI c it t y h6 X E C
    have pr : isPairs it = true → ∀ i, tg ≠ .nm i := fun hp i e => by
      subst e
      cases t with
      | Name tn tp => exact pair_tgt hp h6
      | _ => simp [chkT] at h5
    have gT : ∀ (s : Shared) (H : Hp) (Cc : Addr) (cl : List (Str × Addr)) (fp : List Addr), (c.hot = true → Warm (X.blk s H scope (compEnvC scope cl Cc X.env) fp)) → PG (X.blk s H scope (compEnvC scope cl Cc X.env) fp) t (rdG P w K mg tg) := fun s H Cc cl fp hw => snd_tgt (C.blk s H scope Cc cl fp hw) tg (.inl t) h5
    have gC : ∀ (s : Shared) (H : Hp) (Cc : Addr) (cl : List (Str × Addr)) (fp : List Addr), (c.hot = true → Warm (X.blk s H scope (compEnvC scope cl Cc X.env) fp)) → PTs (X.blk s H scope (compEnvC scope cl Cc X.env) fp) ifs (rdT P w K mg Φ FX cond) := fun s H Cc cl fp hw => by
      cases ifs with
      | nil =>
        have : cond = .bl true := by
          cases cond with
          | bl b => cases b <;> first | rfl | cases h9
          | _ => cases h9
        subst this
        exact ⟨fun pins s σ H Q I q => pts_nil.run pins s σ H Q I (by
          obtain ⟨B, G, s0, R, q⟩ := q
          exact q H G .rfl R)⟩
      | cons u us =>
        cases us with
        | nil => exact pts_one ((sndE (c.blk scope) cond u h9 _ _ (C.blk s H scope Cc cl fp hw)).2 h8)
        | cons _ _ => cases h9
    have gE : ∀ (s : Shared) (H : Hp) (Cc : Addr) (cl : List (Str × Addr)) (fp : List Addr), (c.hot = true → Warm (X.blk s H scope (compEnvC scope cl Cc X.env) fp)) → PE (X.blk s H scope (compEnvC scope cl Cc X.env) fp) x1 (rdE P w K mg Φ FX elt) := fun s H Cc cl fp hw => (sndE (c.blk scope) elt x1 h7 _ _ (C.blk s H scope Cc cl fp hw)).1
    cases hot : c.hot with
    | true =>
      rw [hot] at h0
      cases it with
      | el a =>
        have hca : chkE c a y = true := by
          unfold chkI at h6
          exact h6
        have z := lc_hot (elt := x1) (tg := t) (pos := p) (C.hc hot (by simp at h0; exact h0.2)) C.nd (sndE c a y hca X E C).1 bok (fun s H Cc cl fp hw => gT s H Cc cl fp fun _ => hw) (fun s H Cc cl fp hw => gC s H Cc cl fp fun _ => hw) (fun s H Cc cl fp hw => gE s H Cc cl fp fun _ => hw) (no_fold _ h3)
        rw [ownOf_snd, C.eK] at z
        exact mk1 (PE.imp z fun _ _ _ q => by
          have q1 := comp_read h2 pr q
          exact rdI_el q1) rfl
      | _ => simp [isEl] at h0
    | false =>
    have off : ∀ {s : Shared} {H : Hp} {Cc : Addr} {cl : List (Str × Addr)} {fp : List Addr}, c.hot = true → Warm (X.blk s H scope (compEnvC scope cl Cc X.env) fp) := fun e => by rw [hot] at e; cases e
    have z : PE X (.ListComp x1 [⟨t, y, ifs, 0⟩] scope p) (tLc (rdI P w K mg Φ E it) (rdG P w K mg tg) (rdT P w K mg Φ FX cond) (rdE P w K mg Φ FX elt) ((ownOf c.N tg.vars).map (·.2))) :=
      pe_lc (C.calm hot) C.nd pi bok (fun s H Cc cl fp => gT s H Cc cl fp off) (fun s H Cc cl fp => gC s H Cc cl fp off) (fun s H Cc cl fp => gE s H Cc cl fp off) (no_fold _ h3)
    rw [ownOf_snd] at z
    exact mk1 (PE.imp z fun _ _ _ q => comp_read h2 pr q) rfl
  | _, .dic1 _ _, _, h => (inv_dic1 h).elim
  | _, .isbl _ _ _, _, h => (inv_isbl h).elim
  | _, .comp2 _ _ _ _ _ _, _, h => (inv_comp2 h).elim
  | _, .no, _, h => (inv_no h).elim
theorem sndEs : ∀ (c : Ck) (es : Exs) (xs : List Expr), chkEs c es xs = true → ∀ (X : Cx) (E : XK), CtxOk P w K mg Φ n X c E → PA X xs (rdEs P w K mg Φ E es)
  | c, .nil, xs, h => fun X E C => by
    cases xs with
    | nil => exact PA.imp pa_nil fun _ _ _ q => rdEs_nil q
    | cons _ _ => simp [chkEs] at h
  | c, .cons e es, xs, h => fun X E C => by
    cases xs with
    | nil => simp [chkEs] at h
    | cons x xs =>
      simp only [chkEs, Bool.and_eq_true, Bool.not_eq_true'] at h
      exact PA.imp (pa_cons (sndE c e x h.1.2 X E C).1 (sndEs c es xs h.2 X E C) (star_each h.1.1)) fun _ _ _ q => rdEs_cons q
theorem sndI : ∀ (c : Ck) (it : Itx) (t x : Expr), chkI c it t x = true → ∀ (X : Cx) (E : XK), CtxOk P w K mg Φ n X c E → PI X t x (rdI P w K mg Φ E it)
  | c, .e a, t, x, h => fun X E C => by
    have h : chkE c a x = true := by
      unfold chkI at h
      exact h
    have z := pi_any (tg := t) (sndE c a x h X E C).1
    rw [C.eK] at z
    exact PI.imp z fun _ _ _ q => rdI_e q
  | c, .el a, t, x, h => fun X E C => by
    have h : chkE c a x = true := by
      unfold chkI at h
      exact h
    have z := pi_list (tg := t) (sndE c a x h X E C).1
    rw [C.eK] at z
    exact PI.imp z fun _ _ _ q => rdI_el q
  | c, .range1 a, t, x, h => fun X E C => by
    obtain ⟨g, q, x1, p, rfl, hq⟩ := inv_range1 h
    replace h := hq
    simp only [Bool.and_eq_true, decide_eq_true_eq, Bool.not_eq_true'] at h
    obtain ⟨⟨⟨rfl, h1⟩, h2⟩, h3⟩ := h
    exact PI.imp (pi_range1 (gl_of C h1) (by rw [C.em]; exact C.blt _ (by decide)) (pa_cons (sndE c a x1 h3 X E C).1 pa_nil (star_each h2)) (star_each h2)) fun _ _ _ q => rdI_r1 q
  | c, .range2 a b, t, x, h => fun X E C => by
    obtain ⟨g, q, x1, y, p, rfl, hq⟩ := inv_range2 h
    replace h := hq
    simp only [Bool.and_eq_true, decide_eq_true_eq, Bool.not_eq_true'] at h
    obtain ⟨⟨⟨⟨⟨rfl, h1⟩, h2⟩, h3⟩, h4⟩, h5⟩ := h
    exact PI.imp (pi_range2 (gl_of C h1) (by rw [C.em]; exact C.blt _ (by decide)) (pa_cons (sndE c a x1 h4 X E C).1 (pa_cons (sndE c b y h5 X E C).1 pa_nil (star_each h3)) (star_each h2)) (by rw [star_each h2, star_each h3]; rfl) (star_each h3)) fun _ _ _ q => rdI_r2 q
  | c, .enum a, t, x, h => fun X E C => by
    obtain ⟨ts, k, tp, g, q, x1, p, rfl, rfl, hq⟩ := inv_enum h
    replace h := hq
    simp only [Bool.and_eq_true, decide_eq_true_eq, Bool.not_eq_true'] at h
    obtain ⟨⟨⟨rfl, h1⟩, h2⟩, h3⟩ := h
    have z := pi_enum (tpos := tp) (elts := ts) (kk := k) (p := q) (pos := p) (gl_of C h1) (by rw [C.em]; exact C.blt _ (by decide)) (pa_cons (sndE c a x1 h3 X E C).1 pa_nil (star_each h2)) (star_each h2)
    rw [C.eK] at z
    exact PI.imp z fun _ _ _ q => rdI_enum q
  | c, .zip a b, t, x, h => fun X E C => by
    obtain ⟨ts, k, tp, g, q, x1, y, p, rfl, rfl, hq⟩ := inv_zip h
    replace h := hq
    simp only [Bool.and_eq_true, decide_eq_true_eq, Bool.not_eq_true'] at h
    obtain ⟨⟨⟨⟨⟨rfl, h1⟩, h2⟩, h3⟩, h4⟩, h5⟩ := h
    have z := RZ.pi_zipA (tpos := tp) (elts := ts) (kk := k) (p := q) (pos := p) (gl_of C h1) (by rw [C.em]; exact C.blt _ (by decide)) (pa_cons (sndE c a x1 h4 X E C).1 (pa_cons (sndE c b y h5 X E C).1 pa_nil (star_each h3)) (star_each h2)) (star_each h2) (by rw [star_each h3]; rfl)
    rw [C.eK] at z
    exact PI.imp z fun _ _ _ q => rdI_zip q
  | _, .live _, _, _, h => by
    unfold chkI at h
    cases h
end
end
end Pah
end
section
set_option maxHeartbeats 4000000
/-! Snd12: the readings of statements. -/
namespace Pah
open PySem PySem.Spec PyProof.Rows L2
section
variable {P : Program} {w : World} {K : PySem.W.Frag} {mg : Str → Option Value} {B : Ba} {G G' : Gh} {s : S} {σ σ' : L2.St} {H H' : Hp} {E : XK} {Φ : Phi} {D : Ends}
variable (P w K mg) in
def kF (B : Ba) (G : Gh) (D : Ends) : Fl → S → Prop
  | .next, s' => ∀ σ' H' G', G.Le G' → SR P w K mg B G' s' σ' H' → D.nx σ' H'
  | .ret r, s' => ∀ v H' G', G.Le G' → SM P w K mg B G' s'.mem H' → RR P w K mg B G' H' r v → D.rt v H'
variable (P w K mg) in
def rdS (Φ : Phi) (E : XK) (st : Sm) : TS := fun D σ H => ∃ B G s, SR P w K mg B G s σ H ∧ pO P w K mg B E G (evS Φ st s) (kF P w K mg B G D)
variable (P w K mg) in
def rdSs (Φ : Phi) (E : XK) (st : Sms) : TS := fun D σ H => ∃ B G s, SR P w K mg B G s σ H ∧ pO P w K mg B E G (evSs Φ st s) (kF P w K mg B G D)
theorem kF_le {G1 : Gh} (l : G.Le G1) {fl : Fl} {s' : S} (k : kF P w K mg B G D fl s') : kF P w K mg B G1 D fl s' := by
  cases fl with
  | next => exact fun σ' H' G' l' R => k σ' H' G' (l.trans l') R
  | ret r => exact fun v H' G' l' M hr => k v H' G' (l.trans l') M hr
theorem rdSs_nil (h : rdSs P w K mg Φ E .nil D σ H) : tNext D σ H := by
  obtain ⟨B, G, s, R, q⟩ := h
  exact q σ H G .rfl R
theorem rdSs_cons {a : Sm} {r : Sms} (h : rdSs P w K mg Φ E (.cons a r) D σ H) : tSeq (rdS P w K mg Φ E a) (rdSs P w K mg Φ E r) D σ H := by
  obtain ⟨B, G, s, R, q⟩ := h
  refine ⟨B, G, s, R, ?_⟩
  have q : pO P w K mg B E G ((evS Φ a s).bind fun f s => match f with
    | .next => evSs Φ r s
    | .ret x => .ok (.ret x) s) (kF P w K mg B G D) := q
  cases e : evS Φ a s with
  | stuck => rw [e] at q; exact q
  | exn c p m => rw [e] at q; exact q
  | ok f s1 =>
    rw [e] at q
    cases f with
    | next => exact fun σ' H' G' l R' => ⟨B, G', s1, R', pO_le (pO_mono q fun _ _ k => kF_le l k) l⟩
    | ret x => exact q
theorem rdS_ite {t : Ex} {a b : Sms} (h : rdS P w K mg Φ E (.ite t a b) D σ H) : tIfS (rdT P w K mg Φ E t) (rdSs P w K mg Φ E a) (rdSs P w K mg Φ E b) D σ H := by
  obtain ⟨B, G, s, R, q⟩ := h
  have q : pO P w K mg B E G ((evE Φ t s).bind fun x s => (asBool x s).bind fun t s => if t = true then evSs Φ a s else evSs Φ b s) (kF P w K mg B G D) := q
  rw [← bind_assoc] at q
  refine rdT_step R q fun t s1 H1 G1 l1 R1 q1 => ?_
  cases t with
  | true =>
    rw [if_pos rfl] at q1 ⊢
    exact ⟨B, G1, s1, R1, pO_mono q1 fun _ _ k => kF_le l1 k⟩
  | false =>
    rw [if_neg Bool.false_ne_true] at q1 ⊢
    exact ⟨B, G1, s1, R1, pO_mono q1 fun _ _ k => kF_le l1 k⟩
theorem rdS_expr {e : Ex} (h : rdS P w K mg Φ E (.expr e) D σ H) : tDrop (rdE P w K mg Φ E e) D σ H := by
  obtain ⟨B, G, s, R, q⟩ := h
  refine rdE_step R q fun r s1 v H1 G1 l1 R1 hr al q1 => ?_
  exact q1 σ H1 G1 l1 R1
theorem rdS_pass (h : rdS P w K mg Φ E .pass D σ H) : tNext D σ H := by
  obtain ⟨B, G, s, R, q⟩ := h
  exact q σ H G .rfl R
theorem rdS_retN (h : rdS P w K mg Φ E .retN D σ H) : tRetN D σ H := by
  obtain ⟨B, G, s, R, q⟩ := h
  exact q .non H G .rfl R.m .non
theorem rdS_ret {e : Ex} (h : rdS P w K mg Φ E (.ret e) D σ H) : tRet (rdB P w K mg Φ E e) D σ H := by
  obtain ⟨B, G, s, R, q⟩ := h
  have q : pO P w K mg B E G ((retV e (evE Φ e) s).bind fun x s => .ok (.ret x) s) (kF P w K mg B G D) := q
  rcases isVar e with ⟨i, rfl⟩ | ne
  · have q : pO P w K mg B E G ((match s.env[i]? with
      | some (some x) => (Out.ok x s : Out RV)
      | _ => .stuck).bind fun x s => .ok (.ret x) s) (kF P w K mg B G D) := q
    split at q
    · rename_i x e1
      obtain ⟨v, hv, hr⟩ := R.slot i _ e1
      exact ⟨v, hv, q v H G .rfl R.m hr⟩
    · exact q.elim
  · have e1 : retV e (evE Φ e) s = evE Φ e s := by cases e <;> first | rfl | exact absurd rfl (ne _)
    rw [e1] at q
    show rdB P w K mg Φ E e σ H D.rt
    rw [rdB_ne ne]
    refine rdE_step R q fun r s1 v H1 G1 l1 R1 hr al q1 => ?_
    exact q1 v H1 G1 l1 R1.m hr
theorem rdS_asg {t : Tg} {e : Ex} (h : rdS P w K mg Φ E (.asg t e) D σ H) : tAsg (rdE P w K mg Φ E e) (rdG P w K mg t) D σ H := by
  obtain ⟨B, G, s, R, q⟩ := h
  have q : pO P w K mg B E G ((evE Φ e s).bind fun x s => match asgT t x s.env with
    | some env => .ok .next { s with env := env }
    | none => .stuck) (kF P w K mg B G D) := q
  refine rdE_step R q fun r s1 v H1 G1 l1 R1 hr al q1 => ?_
  cases e1 : asgT t r s1.env with
  | none => simp only [e1] at q1; exact q1.elim
  | some env =>
    simp only [e1] at q1
    exact ⟨B, G1, s1, r, env, R1, .inl ⟨hr, al⟩, e1, fun σ' R' _ => q1 σ' H1 G1 l1 R'⟩
theorem rdS_raise {cls : Str} (h : rdS P w K mg Φ E (.raise cls) D σ H) : ∀ C, mg cls = some (.ref C) → E (.ref C) none H := by
  obtain ⟨B, G, s, R, q⟩ := h
  exact q H G .rfl R.m
theorem rdS_while {c : Ex} {b : Sms} (h : rdS P w K mg Φ E (.while c b) D σ H) : tWhile (rdT P w K mg Φ E c) (rdSs P w K mg Φ E b) D σ H := by
  obtain ⟨B, G, s, R, q⟩ := h
  have q : pO P w K mg B E G (loopW (fun s => (evE Φ c s).bind asBool) (evSs Φ b) wf s) (kF P w K mg B G D) := q
  refine ⟨fun m σ H => ∃ G' s', G.Le G' ∧ SR P w K mg B G' s' σ H ∧ pO P w K mg B E G' (loopW (fun s => (evE Φ c s).bind asBool) (evSs Φ b) m s') (kF P w K mg B G D), ⟨wf, G, s, .rfl, R, q⟩, ?_⟩
  rintro m σ1 H1 ⟨G1, s1, l1, R1, q1⟩
  cases m with
  | zero => exact q1.elim
  | succ k =>
    have q1 : pO P w K mg B E G1 (((evE Φ c s1).bind asBool).bind fun t s => if t = true then (evSs Φ b s).bind fun f s => match f with
        | .next => loopW (fun s => (evE Φ c s).bind asBool) (evSs Φ b) k s
        | .ret r => .ok (.ret r) s
      else .ok .next s) (kF P w K mg B G D) := q1
    refine rdT_step R1 q1 fun t s2 H2 G2 l2 R2 q2 => ?_
    cases t with
    | false =>
      rw [if_neg Bool.false_ne_true] at q2 ⊢
      exact q2 σ1 H2 G2 (l1.trans l2) R2
    | true =>
      rw [if_pos rfl] at q2 ⊢
      refine ⟨fun σ' H' => ∃ m', m' < k + 1 ∧ ∃ G' s', G.Le G' ∧ SR P w K mg B G' s' σ' H' ∧ pO P w K mg B E G' (loopW (fun s => (evE Φ c s).bind asBool) (evSs Φ b) m' s') (kF P w K mg B G D), fun σ' H' z => z, B, G2, s2, R2, ?_⟩
      cases e : evSs Φ b s2 with
      | stuck => rw [e] at q2; exact q2
      | exn cc p m => rw [e] at q2; exact q2
      | ok f s3 =>
        rw [e] at q2
        cases f with
        | next => exact fun σ' H' G' l R' => ⟨k, Nat.lt_succ_self k, G', s3, l1.trans (l2.trans l), R', pO_le q2 l⟩
        | ret r => exact fun v H' G' l M hr => (show kF P w K mg B G D (.ret r) s3 from q2) v H' G' (l1.trans (l2.trans l)) M hr
theorem rdS_for {t : Tg} {it : Itx} {b : Sms} (ht : isPairs it = true → ∀ i, t ≠ .nm i) (h : rdS P w K mg Φ E (.for t it b) D σ H) : tFor (rdI P w K mg Φ E it) (rdG P w K mg t) (rdSs P w K mg Φ E b) D σ H := by
  obtain ⟨B, G, s, R, q⟩ := h
  have q : pO P w K mg B E G ((evIt Φ it s).bind fun ds s => loopF t (evSs Φ b) ds s) (kF P w K mg B G D) := q
  refine ⟨B, G, s, R, ?_⟩
  cases e : evIt Φ it s with
  | stuck => rw [e] at q; exact q
  | exn c p m => rw [e] at q; exact q
  | ok ds s0 =>
    rw [e] at q
    simp only [bind_ok] at q
    intro J H1 G1 l1 R1 Wk
    refine ⟨fun i m σ H => m = ds.length - i ∧ i ≤ ds.length ∧ ∃ G' s', G1.Le G' ∧ SR P w K mg B G' s' σ H ∧ pO P w K mg B E G' (loopF t (evSs Φ b) (ds.drop i) s') (kF P w K mg B G D), ⟨ds.length, by simp, Nat.zero_le _, G1, s0, .rfl, R1, pO_le q l1⟩, ?_⟩
    rintro i m σ2 H2 ⟨rfl, hi, G2, s2, l2, R2, q2⟩
    have sb2 : Sub G1 H2 := fun a o z => R2.m.sub a o (l2.I a o z)
    by_cases hlt : i < ds.length
    · right
      have hd : ds[i]? = some ds[i] := List.getElem?_eq_getElem hlt
      rw [List.drop_eq_getElem_cons hlt] at q2
      unfold loopF at q2
      refine ⟨Wk.go i _ H2 hd sb2, fun σ' H' => ∃ m', m' < ds.length - i ∧ (m' = ds.length - (i + 1) ∧ i + 1 ≤ ds.length ∧ ∃ G' s', G1.Le G' ∧ SR P w K mg B G' s' σ' H' ∧ pO P w K mg B E G' (loopF t (evSs Φ b) (ds.drop (i + 1)) s') (kF P w K mg B G D)), fun σ' H' z => z, fun x H3 y => ?_⟩
      obtain ⟨G3, l3, R3, hx⟩ := Wk.take ht l2 R2 hd y
      cases ea : asgT t (.v ds[i]) s2.env with
      | none => simp only [ea] at q2; exact q2.elim
      | some env =>
        simp only [ea] at q2
        refine ⟨B, G3, s2, .v ds[i], env, R3, hx, ea, fun σ3 R4 _ => ⟨B, G3, _, R4, ?_⟩⟩
        cases eb : evSs Φ b { s2 with env := env } with
        | stuck => rw [eb] at q2; exact q2
        | exn c p m =>
          rw [eb] at q2
          exact fun H' G' l' M => q2 H' G' (l3.trans l') M
        | ok f s4 =>
          rw [eb] at q2
          cases f with
          | next => exact fun σ' H' G' l R' => ⟨_, Nat.sub_succ_lt_self _ _ hlt, rfl, hlt, G', s4, l2.trans (l3.trans l), R', pO_le q2 (l3.trans l)⟩
          | ret r => exact fun v H' G' l M hr => (show kF P w K mg B G D (.ret r) s4 from q2) v H' G' (l1.trans (l2.trans (l3.trans l))) M hr
    · have ei : i = ds.length := by omega
      subst ei
      rw [List.drop_length] at q2
      exact .inl ⟨Wk.stop H2 sb2, q2 σ2 H2 G2 (l1.trans l2) R2⟩
/-- xs.append(e) -/
theorem rdS_app {i : Nat} {e : Ex} (h : rdS P w K mg Φ E (.app i e) D σ H) : tDrop (tBM K "list" rAppend (tVar i) (tCons (rdE P w K mg Φ E e) tNil)) D σ H := by
  obtain ⟨B, G, s, R, q⟩ := h
  have q : pO P w K mg B E G ((lookL i s).bind fun _ s => (evE Φ e s).bind fun y s => appD i y.d s) (kF P w K mg B G D) := q
  have ty : lookL i s = .ok () s ∧ ∃ a vs, σ[i]? = some (some (.ref a)) ∧ H a = some (.lst vs) := by
    unfold lookL at q ⊢
    split at q
    · rename_i ds e1
      obtain ⟨v, hv, a, vs, rfl, ha, _⟩ := R.slot i _ e1
      exact ⟨rfl, a, vs, hv, ha⟩
    · rename_i j e1
      split at q
      · rename_i ds e2
        obtain ⟨v, hv, hr⟩ := R.slot i _ e1
        have hr : RD P w K mg G v (.ref j) := hr
        cases hr with
        | ref hj =>
          obtain ⟨a, vs, h1, h2, _⟩ := R.m.lst e2
          rw [hj] at h1
          cases h1
          exact ⟨rfl, _, vs, hv, h2⟩
      · exact q.elim
    · exact q.elim
  obtain ⟨hL, a, vs, hv, ha⟩ := ty
  rw [hL] at q
  refine ⟨_, hv, .inl ⟨rfl, vs, SqL.of ha⟩, ?_⟩
  refine rdE_stepD R q fun r s1 y H1 G1 l1 R1 hd q1 => ?_
  unfold appD at q1
  split at q1
  · rename_i ds e1
    split at q1
    · rename_i hl
      obtain ⟨v2, hv2, a2, vs2, rfl, ha2, hr2, ow⟩ := R1.slot i _ e1
      rw [hv] at hv2
      cases hv2
      refine ⟨_, vs2, y, rfl, rfl, ha2, by rw [hr2.length, ← lim_eq]; exact hl, ?_⟩
      refine q1 σ _ G1 l1 (R1.writeOwn e1 rfl rfl hv fun G2 H2 h2 ow2 l2 => ⟨_, _, rfl, h2, (hr2.le l2).append (.cons (RD.le l2 hd) .nil), ow2⟩)
    · exact q1.elim
  · rename_i o e1
    unfold appM at q1
    split at q1
    · rename_i j
      split at q1
      · rename_i ds e2
        split at q1
        · rename_i hl
          obtain ⟨v2, hv2, hr2⟩ := R1.slot i _ e1
          rw [hv] at hv2
          cases hv2
          have hr2 : RD P w K mg G1 (.ref a) (.ref j) := hr2
          cases hr2 with
          | ref hj =>
            obtain ⟨a3, vs3, h1, h2, h3⟩ := R1.m.lst e2
            rw [hj] at h1
            cases h1
            refine ⟨_, vs3, y, rfl, rfl, h2, by rw [h3.length, ← lim_eq]; exact hl, ?_⟩
            exact q1 σ _ G1 l1 (R1.writeRef e2 (fun z => nomatch z) hj (.lst (h3.append (.cons hd .nil))))
        · exact q1.elim
      · exact q1.elim
    · exact q1.elim
  · exact q1.elim
end
end Pah
end
section
set_option maxHeartbeats 4000000
/-! Snd13: items that are set. -/
namespace Pah
open PySem PySem.Spec PyProof.Rows L2
section
variable {P : Program} {w : World} {K : PySem.W.Frag} {mg : Str → Option Value} {B : Ba} {G G' : Gh} {s : S} {σ σ' : L2.St} {H H' : Hp} {E : XK} {Φ : Phi} {D : Ends}
theorem atKey_none {xs : List (NestedKey × Addr × Value)} {k : NestedKey} (h : (atKey xs k).isSome = false) : ∀ x ∈ xs, x.1 ≠ k := by
  intro x hx e
  cases f : xs.find? (fun x => decide (x.1 = k)) with
  | some y => rw [show atKey xs k = some y.2 from by unfold atKey; rw [f]; rfl] at h; cases h
  | none =>
    have := List.find?_eq_none.mp f x hx
    exact this (by simpa using e)
theorem putAt_ne {xs : List (NestedKey × Addr × Value)} {k : NestedKey} {u : Value} (h : ∀ x ∈ xs, x.1 ≠ k) : xs.map (putAt k u) = xs := by
  induction xs with
  | nil => rfl
  | cons x xs ih =>
    rw [List.map_cons, ih fun y hy => h y (List.mem_cons_of_mem _ hy)]
    unfold putAt
    rw [if_neg (h x List.mem_cons_self)]
theorem RKs.put {a : Addr} {u : Value} {v : V} {k d : Pah.D} (hk : k.key = true) (hkr : RD P w K mg G (.ref a) k) (hv : RelV v u) (hd : RD P w K mg G v d) : ∀ {xs : List (NestedKey × Addr × Value)} {ks vs : List Pah.D}, RKs P w K mg G xs ks vs → (xs.map (·.1)).Nodup →
    RKs P w K mg G (storedH xs k.nk a u) (putKey ks vs k d).1 (putKey ks vs k d).2
  | _, _, _, .nil, _ => .cons hk hkr hv hd .nil
  | _, _, _, .cons (a := a0) (u := u0) (k := k0) (d := d0) (ks := ks0) (vs := vs0) (xs := xs0) c1 c2 c3 c4 r, nd => by
    rw [List.map_cons, List.nodup_cons] at nd
    by_cases q : k0.nk = k.nk
    · have e1 : (putKey (k0 :: ks0) (d0 :: vs0) k d) = (k0 :: ks0, d :: vs0) := by simp [putKey, q]
      have e2 : storedH ((k0.nk, a0, u0) :: xs0) k.nk a u = (k.nk, a0, u) :: xs0 := by
        have : (atKey ((k0.nk, a0, u0) :: xs0) k.nk).isSome = true := by simp [atKey, q]
        unfold storedH
        rw [if_pos this, List.map_cons, putAt_ne fun x hx e => nd.1 (List.mem_map.mpr ⟨x, hx, e.trans q.symm⟩)]
        simp [putAt, q]
      rw [e1, e2, ← q]
      exact .cons c1 c2 hv hd r
    · have ih := RKs.put hk hkr hv hd r nd.2
      have e1 : (putKey (k0 :: ks0) (d0 :: vs0) k d) = (k0 :: (putKey ks0 vs0 k d).1, d0 :: (putKey ks0 vs0 k d).2) := by simp [putKey, q]
      have e2 : storedH ((k0.nk, a0, u0) :: xs0) k.nk a u = (k0.nk, a0, u0) :: storedH xs0 k.nk a u := by
        have e3 : atKey ((k0.nk, a0, u0) :: xs0) k.nk = atKey xs0 k.nk := by simp [atKey, q]
        unfold storedH
        rw [e3]
        by_cases z : (atKey xs0 k.nk).isSome = true
        · rw [if_pos z, if_pos z, List.map_cons]
          simp [putAt, q]
        · rw [if_neg z, if_neg z]; rfl
      rw [e1, e2]
      exact .cons c1 c2 c3 c4 ih
variable (P w K mg) in
def rSetD : TSet := fun o i v H Q => ∃ (G : Gh) (a : Addr) (xs : List (NestedKey × Addr × Value)) (ks vs : List Pah.D) (k d : Pah.D), o = .ref a ∧ H a = some (DicO P w a xs) ∧ RKs P w K mg G xs ks vs ∧ Sub G H ∧ RD P w K mg G i k ∧ k.key = true ∧ RD P w K mg G v d ∧ ks.length < lim ∧
  ∀ xs', RKs P w K mg G xs' (putKey ks vs k d).1 (putKey ks vs k d).2 → Q (upd H a (DicO P w a xs'))
theorem set_dic {X : Cx} (hP : X.prog = P) (hw : X.w = w) (hK : X.K = K) (hu : X.A.units + 65 < cLine) : PSet X (rSetD P w K mg) := by
  subst hP hw hK
  intro pins s σ H o i v ov iv u Q I ro ri rv h
  obtain ⟨G, a, xs, ks, vs, k, d, rfl, ha, hr, sb, hi, hk, hd, hl, q⟩ := h
  cases ro
  obtain ⟨b, rfl, hb⟩ := RD.isKey rfl I sb hk hi
  cases ri
  obtain ⟨g1, g2, g3⟩ := dic_keyed rfl rfl rfl I sb ha hr
  have room : (nestedKind X.prog X.w).room X.A.in1 := by show X.A.units + 1 + 8 < cLine; omega
  refine wpAny_setItem_heap (hsz := g2) room hb g3 fun h' hm' hs => ?_
  obtain ⟨_, _, _, _, _, _, _, _, nd⟩ := g3
  have z := hr.put hk hi rv hd nd
  obtain ⟨o', es', ep', e1, e2, e3, e4, e5, e6⟩ := hm'
  refine ⟨_, I.write (x := a) (e := a) (t' := s.toks + _) (by rw [ha]; trivial) (.inl rfl) (fun b u hb q => (hs.2 b hb).trans q) ⟨o', e1⟩ ?_, q _ z⟩
  refine ⟨⟨g1, ?_, o', es', ep', e1, e2, e3, e4, e6⟩, ⟨_, e1⟩, fun h1 h2 ⟨a1, a2, o, es, ep, a3, a4⟩ k => ⟨a1, a2, o, es, ep, k _ a3, a4⟩⟩
  have l1 := (RKs.len hr).1
  have hz := sizeLine_eq
  have hlim : lim = 16777216 := rfl
  unfold storedH
  split
  · rw [List.length_map]; exact g2
  · rw [List.length_append, List.length_singleton]; omega
variable (P w K mg) in
def rSetAny : TSet := fun o i v H Q => rSetL o i v H Q ∨ rSetD P w K mg o i v H Q
theorem set_any {X : Cx} (hP : X.prog = P) (hw : X.w = w) (hK : X.K = K) (hu : X.A.units + 65 < cLine) : PSet X (rSetAny P w K mg) := by
  intro pins s σ H o i v ov iv u Q I ro ri rv h
  rcases h with h | h
  · exact set_list pins s σ H o i v ov iv u Q I ro ri rv h
  · exact set_dic hP hw hK hu pins s σ H o i v ov iv u Q I ro ri rv h
theorem rdS_set {i : Nat} {k v : Ex} (h : rdS P w K mg Φ E (.set i k v) D σ H) : tAsg (rdE P w K mg Φ E v) (gSub (tVar i) (rdE P w K mg Φ E k) (rSetAny P w K mg)) D σ H := by
  obtain ⟨B, G, s, R, q⟩ := h
  refine rdE_stepD R q fun r s1 x H1 G1 l1 R1 hd q1 => ?_
  unfold hasS at q1
  split at q1
  · rename_i r0 e0
    obtain ⟨o, ho, _⟩ := R1.slot i _ e0
    refine ⟨o, ho, ?_⟩
    simp only [bind_ok] at q1
    refine rdE_stepD R1 q1 fun r2 s2 y H2 G2 l2 R2 hd2 q2 => ?_
    have hd := RD.le l2 hd
    have ll := l1.trans l2
    unfold setAtD at q2
    split at q2
    · rename_i ds j e1 ej
      rw [ej] at hd2
      obtain rfl := hd2.int_inv
      split at q2
      · rename_i p ep
        obtain ⟨v2, hv2, a2, vs2, rfl, ha2, hr2, ow⟩ := R2.slot i _ e1
        rw [ho] at hv2
        cases hv2
        refine .inl ⟨a2, vs2, j, p, rfl, rfl, ha2, by rw [hr2.length]; exact ep, ?_⟩
        exact q2 σ _ G2 ll (R2.writeOwn e1 rfl rfl ho fun G3 H3 h3 ow3 l3 => ⟨_, _, rfl, h3, (hr2.le l3).set p (RD.le l3 hd), ow3⟩)
      · exact q2.elim
    · rename_i a j e1 ej
      rw [ej] at hd2
      obtain rfl := hd2.int_inv
      split at q2
      · rename_i ds em
        split at q2
        · rename_i p ep
          obtain ⟨v2, hv2, hr2⟩ := R2.slot i _ e1
          rw [ho] at hv2
          cases hv2
          have hr2 : RD P w K mg G2 o (.ref a) := hr2
          cases hr2 with
          | ref hj =>
            obtain ⟨a3, vs3, h1, h2, h3⟩ := R2.m.lst em
            rw [hj] at h1
            cases h1
            refine .inl ⟨_, vs3, j, p, rfl, rfl, h2, by rw [h3.length]; exact ep, ?_⟩
            exact q2 σ _ G2 ll (R2.writeRef em (fun z => nomatch z) hj (.lst (h3.set p hd)))
        · exact q2.elim
      · exact q2.elim
    · rename_i ks vs e1
      split at q2
      · rename_i hk
        obtain ⟨v2, hv2, a2, xs2, rfl, ha2, hr2, ow⟩ := R2.slot i _ e1
        rw [ho] at hv2
        cases hv2
        refine .inr ⟨G2, a2, xs2, ks, vs, _, _, rfl, ha2, hr2, R2.sub, hd2, hk.1, hd, hk.2, fun xs' hx => ?_⟩
        have z : kF P w K mg B G D .next { s2 with env := s2.env.set i (some (.m (putKey ks vs r2.d r.d).1 (putKey ks vs r2.d r.d).2)) } := q2
        exact z σ _ G2 ll (R2.writeOwn e1 rfl rfl ho fun G3 H3 h3 ow3 l3 => ⟨_, _, rfl, h3, hx.le l3, ow3⟩)
      · exact q2.elim
    · exact q2.elim
  · exact q1.elim
end
end Pah
end
section
set_option maxHeartbeats 4000000
/-! Snd14: several values at once, stored into several names. -/
namespace Pah
open PySem PySem.Spec PyProof.Rows L2
section
variable {P : Program} {w : World} {K : PySem.W.Frag} {mg : Str → Option Value} {B : Ba} {G G' : Gh} {s : S} {σ σ' : L2.St} {H H' : Hp} {E : XK} {Φ : Phi} {D : Ends}
variable (P w K mg) in
/-- these values wait, each for itself -/
def Wait (B : Ba) (G : Gh) (s : S) (σ : L2.St) (H : Hp) : List (RV × V) → Prop
  | [] => True
  | (r, v) :: l => RR P w K mg B G H r v ∧ Alone s σ r v ∧ (∀ r' v', (r', v') ∈ l → isFr r = true → isFr r' = true → v ≠ v') ∧ Wait B G s σ H l
theorem Wait.apart_of : ∀ {l : List (RV × V)} {a : Addr}, Wait P w K mg B G s σ H l → (∀ r' v', (r', v') ∈ l → isFr r' = true → v' ≠ .ref a) → ∀ {o : HO}, Wait P w K mg (Bd B a o) G s σ H l
  | [], _, _, _, _ => trivial
  | (r, v) :: l, a, ⟨h1, h2, h3, h4⟩, n, o => by
    refine ⟨?_, h2, h3, Wait.apart_of h4 fun r' v' hm => n r' v' (List.mem_cons_of_mem _ hm)⟩
    cases hf : isFr r with
    | false =>
      cases r with
      | v d => exact h1
      | _ => cases hf
    | true =>
      obtain ⟨b, ob, hb, _, _⟩ := h1.there hf
      have nb : b ≠ a := fun z => n r v List.mem_cons_self hf (by rw [hb, z])
      exact h1.own' hf hb fun ow => ow.bd nb
theorem Wait.unbd : ∀ {l : List (RV × V)} {a : Addr} {o : HO}, Wait P w K mg (Bd B a o) G s σ H l → Wait P w K mg B G s σ H l ∧ ∀ r' v', (r', v') ∈ l → isFr r' = true → v' ≠ .ref a
  | [], _, _, _ => ⟨trivial, fun _ _ h => nomatch h⟩
  | (r, v) :: l, a, o, ⟨h1, h2, h3, h4⟩ => by
    obtain ⟨k1, k2⟩ := Wait.unbd h4
    refine ⟨⟨h1.own fun b u ow hb => ⟨ow.unbd.2, hb⟩, h2, h3, k1⟩, fun r' v' hm hf => ?_⟩
    rcases List.mem_cons.mp hm with e | hm
    · cases e
      obtain ⟨b, ob, hb, _, ow⟩ := h1.there hf
      rw [hb]
      exact fun z => ow.unbd.1 (by cases z; rfl)
    · exact k2 r' v' hm hf
/-- one more value is made; what waits is kept -/
theorem wait_ok {e : Ex} {r : RV} {s1 : S} (he : evE Φ e s = .ok r s1) : ∀ {l : List (RV × V)} {B : Ba} {Q : VK}, SR P w K mg B G s σ H → Wait P w K mg B G s σ H l →
    (∀ v H1 G1, G.Le G1 → SR P w K mg B G1 s1 σ H1 → Wait P w K mg B G1 s1 σ H1 l → RR P w K mg B G1 H1 r v → Alone s1 σ r v → (∀ r' v', (r', v') ∈ l → isFr r' = true → isFr r = true → v' ≠ v) → Q v H1) → rdE P w K mg Φ E e σ H Q
  | [], B, Q, R, _, k => by
    refine ⟨B, G, s, R, ?_⟩
    rw [he]
    exact fun v H1 G1 l1 R1 hr al => k v H1 G1 l1 R1 trivial hr al fun _ _ z => nomatch z
  | (r0, v0) :: l, B, Q, R, ⟨h1, h2, h3, h4⟩, k => by
    cases hf : isFr r0 with
    | false =>
      refine wait_ok he R h4 fun v H1 G1 l1 R1 W1 hr al ap => ?_
      refine k v H1 G1 l1 R1 ⟨?_, fun z => (by rw [hf] at z; cases z), fun _ _ _ z => (by rw [hf] at z; cases z), W1⟩ hr al fun r' v' hm f1 f2 => ?_
      · cases r0 with
        | v d => exact RD.le l1 h1
        | _ => cases hf
      · rcases List.mem_cons.mp hm with e | hm
        · cases e; rw [hf] at f1; cases f1
        · exact ap r' v' hm f1 f2
    | true =>
      obtain ⟨a, o, rfl, ha, ow⟩ := h1.there hf
      obtain ⟨asd, Rb⟩ := R.aside ow ha (h2 hf) (h1.ntbl hf rfl ha)
      have Wb : Wait P w K mg (Bd B a o) G s σ H l := Wait.apart_of h4 fun r' v' hm f' => fun z => h3 r' v' hm hf f' z.symm
      refine wait_ok he Rb Wb fun v H1 G1 l1 R1 W1 hr al ap => ?_
      obtain ⟨Ru, ow1, hD, ns⟩ := SR.unbd asd R1
      obtain ⟨Wu, an⟩ := W1.unbd
      have hr0 : RR P w K mg B G1 H1 r0 (.ref a) := by
        cases r0 with
        | v d => cases hf
        | l ds =>
          obtain ⟨b, us, e, g1, g2, _⟩ := h1
          cases e
          rw [ha] at g1
          cases g1
          exact ⟨_, us, rfl, hD, g2.le l1, ow1⟩
        | m ks ds =>
          obtain ⟨b, us, e, g1, g2, _⟩ := h1
          cases e
          rw [ha] at g1
          cases g1
          exact ⟨_, us, rfl, hD, g2.le l1, ow1⟩
      refine k v H1 G1 l1 Ru ⟨hr0, fun _ => ns, fun r' v' hm _ f' z => an r' v' hm f' z.symm, Wu⟩ (hr.own fun b u ow hb => ⟨ow.unbd.2, hb⟩) al fun r' v' hm f1 f2 => ?_
      rcases List.mem_cons.mp hm with e | hm
      · cases e
        obtain ⟨b, ob, hb, _, ow2⟩ := hr.there f2
        rw [hb]
        exact fun z => ow2.unbd.1 (by cases z; rfl)
      · exact ap r' v' hm f1 f2
theorem wait_step {β : Type} {e : Ex} {f : RV → S → Out β} {k : β → S → Prop} {l : List (RV × V)} {Q : VK} (R : SR P w K mg B G s σ H) (W : Wait P w K mg B G s σ H l) (h : pO P w K mg B E G ((evE Φ e s).bind f) k)
    (hk : ∀ r s1 v H1 G1, G.Le G1 → SR P w K mg B G1 s1 σ H1 → Wait P w K mg B G1 s1 σ H1 l → RR P w K mg B G1 H1 r v → Alone s1 σ r v → (∀ r' v', (r', v') ∈ l → isFr r' = true → isFr r = true → v' ≠ v) → pO P w K mg B E G1 (f r s1) k → Q v H1) : rdE P w K mg Φ E e σ H Q := by
  cases e1 : evE Φ e s with
  | stuck => rw [e1] at h; exact h.elim
  | exn c p m =>
    rw [e1] at h
    refine ⟨B, G, s, R, ?_⟩
    rw [e1]
    exact h
  | ok r s1 =>
    rw [e1] at h
    exact wait_ok e1 R W fun v H1 G1 l1 R1 W1 hr al ap => hk r s1 v H1 G1 l1 R1 W1 hr al ap (pO_le h l1)
/-- one of them is stored -/
theorem Wait.store {i : Nat} {r : RV} {v : V} : ∀ {l : List (RV × V)}, (∀ r' v', (r', v') ∈ l → isFr r = true → isFr r' = true → v ≠ v') → Wait P w K mg B G s σ H l → i < s.env.length → i < σ.length → Wait P w K mg B G { s with env := s.env.set i (some r) } (σ.set i (some v)) H l
  | [], _, _, _, _ => trivial
  | (r0, v0) :: l, n, ⟨h1, h2, h3, h4⟩, hi, hσ => by
    refine ⟨h1, fun hf j rj e fj z => ?_, h3, Wait.store (fun r' v' hm => n r' v' (List.mem_cons_of_mem _ hm)) h4 hi hσ⟩
    have e : (s.env.set i (some r))[j]? = some (some rj) := e
    by_cases q : i = j
    · subst q
      rw [List.getElem?_set_self hi] at e
      have e2 : r = rj := by simpa using e
      subst e2
      rw [List.getElem?_set_self hσ] at z
      have z2 : v = v0 := by simpa using z
      exact n r0 v0 List.mem_cons_self fj hf z2
    · rw [List.getElem?_set_ne q] at e z
      exact h2 hf j rj e fj z
theorem rdS_par2 {i j : Nat} {a b : Ex} (h : rdS P w K mg Φ E (.par (.cons (.nm i) (.cons (.nm j) .nil)) (.cons a (.cons b .nil))) D σ H) : tPar i j (tCons (rdE P w K mg Φ E a) (tCons (rdE P w K mg Φ E b) tNil)) D σ H := by
  obtain ⟨B, G, s, R, q⟩ := h
  have q : pO P w K mg B E G (((evE Φ a s).bind fun x s => ((evE Φ b s).bind fun y s => .ok [y] s).bind fun xs s => .ok (x :: xs) s).bind fun xs s => match asgN (.cons (.nm i) (.cons (.nm j) .nil)) xs s.env with
    | some env => .ok .next { s with env := env }
    | none => .stuck) (kF P w K mg B G D) := q
  simp only [bind_assoc, bind_ok] at q
  refine wait_step (l := []) R trivial q fun x s1 v H1 G1 l1 R1 _ hr al _ q1 => ?_
  refine wait_step (l := [(x, v)]) R1 ⟨hr, al, (fun _ _ z => nomatch z), trivial⟩ q1 fun y s2 u H2 G2 l2 R2 W2 hr2 al2 ap q2 => ?_
  refine ⟨v, u, rfl, ?_⟩
  obtain ⟨hr1, al1, _, _⟩ := W2
  unfold asgN at q2
  split at q2
  · rename_i e e0
    by_cases hi : i < s2.env.length
    · rw [if_pos hi] at e0
      unfold asgN at e0
      by_cases hj : j < (s2.env.set i (some x)).length
      · rw [if_pos hj] at e0
        cases (show some ((s2.env.set i (some x)).set j (some y)) = some _ from e0)
        have Ra := R2.store hi hr1 al1
        have hσ : i < σ.length := by rw [R2.len]; exact hi
        have Wa := Wait.store (i := i) (r := x) (v := v) (l := [(y, u)]) (fun r' v' hm f1 f2 => by
          have := List.mem_singleton.mp hm
          cases this
          exact ap x v List.mem_cons_self f1 f2) ⟨hr2, al2, (fun _ _ z => nomatch z), trivial⟩ hi hσ
        have Rb := Ra.store (i := j) hj Wa.1 Wa.2.1
        exact q2 _ H2 G2 (l1.trans l2) Rb
      · rw [if_neg hj] at e0; cases e0
    · rw [if_neg hi] at e0; cases e0
  · exact q2.elim
end
end Pah
end
section
set_option maxHeartbeats 4000000
/-! Snd15: the check of statements. -/
namespace Pah
open PySem PySem.Spec PyProof.Rows L2
def isComp : Expr → Bool
  | .ListComp _ _ _ _ => true
  | .SetComp _ _ _ _ => true
  | .DictComp _ _ _ _ _ => true
  | _ => false
theorem sw_none {x : Expr} {t : Option Expr} {l : Nat} {env : Env} (h : isComp x = false) : swapsWith x t l env = pure false := by
  cases x <;> first | rfl | cases h
/-- name = [..] by its stores: what the machine asks -/
def swB (c : Ck) (y : Str) (py : Pos) (scope : Scope) (pos : Pos) : Bool := decide (c.sc.names.lookup y = some .local) && (py.line == pos.line) && !(scope.names.any fun (n, k) => n == y && (k == .local || k == .cell))
theorem sw_false {elt : Expr} {gs : List Comprehension} {scope : Scope} {pos py : Pos} {y : Str} {l : Nat} {env : Env} {c : Ck} (hs : env.scope = c.sc) (h : swB c y py scope pos = false) : swapsWith (.ListComp elt gs scope pos) (some (.Name y py)) l env = pure false := by
  show (pure (env.blockKind == .function && env.kindOf y == some .local && py.line == pos.line && !(scope.names.any fun (n, k) => n == y && (k == .local || k == .cell))) : Sem Bool) = pure false
  congr 1
  unfold swB at h
  have e : env.kindOf y = c.sc.names.lookup y := by show env.scope.names.lookup y = _; rw [hs]
  rw [e]
  have e2 : (c.sc.names.lookup y == some NameKind.local) = decide (c.sc.names.lookup y = some .local) := by
    by_cases q : c.sc.names.lookup y = some .local
    · rw [q]; rfl
    · rw [decide_eq_false q]; exact beq_eq_false_iff_ne.mpr q
  rw [e2, Bool.and_assoc, Bool.and_assoc, ← Bool.and_assoc (decide _), h, Bool.and_false]
def isTupE : Expr → Bool
  | .Tuple _ _ _ => true
  | _ => false
theorem sole_tup {ts : List Expr} {k : Nat} {p : Pos} {x : Expr} {l : Nat} {env : Env} : swapsWithSole [.Tuple ts k p] x l env = pure false := by
  cases x <;> rfl
/-- a, b = (written constants): no other order of stores -/
theorem stores_none {ts : List Expr} {k : Nat} {p : Pos} {x : Expr} {env : Env} (h : isTupE x = false) : swappedStores [.Tuple ts k p] x env = pure none := by
  cases x <;> first | rfl | cases h
theorem stores_fold {ts vs : List Expr} {k k2 : Nat} {p p2 : Pos} {env : Env} (h : vs.all (foldedForSure 8) = true) : swappedStores [.Tuple ts k p] (.Tuple vs k2 p2) env = pure none := by
  unfold swappedStores
  simp only [h, if_true]
  split
  · rfl
  · split
    · rfl
    · split <;> rfl
theorem stores_pair {x y : Str} {px py pt p2 : Pos} {kt k2 : Nat} {u v : Expr} {env : Env} (hk : env.scope.kind = .function) (hu : star u = false) (hv : star v = false) (hx : env.scope.names.lookup x = some .local) (hy : env.scope.names.lookup y = some .local) (hl : (py.line == px.line) = true)
    (hn : x ≠ y) (h1 : [u, v].all (foldedForSure 8) = false) (h2 : [u, v].all (constantsAlone 8) = false) : swappedStores [.Tuple [.Name x px, .Name y py] kt pt] (.Tuple [u, v] k2 p2) env = pure (some [x, y]) := by
  have hb : env.blockKind = .function := by unfold Env.blockKind; rw [hk]; rfl
  have kx : env.kindOf x = some .local := hx
  have ky : env.kindOf y = some .local := hy
  have hyx : (y == x) = false := beq_eq_false_iff_ne.mpr (Ne.symm hn)
  have hed : [x, y].eraseDups = [x, y] := by
    simp [List.eraseDups_cons, hyx]
  unfold swappedStores
  simp only [hb, h1, h2, kx, ky, Expr.pos, List.filterMap_cons, List.filterMap_nil, List.head?_cons, Option.map_some, Option.getD_some, beq_self_eq_true, Bool.and_self, if_true, hl, List.length_cons, List.length_nil, hed]
  refine (if_neg (by decide)).trans ((if_neg ?_).trans ((if_neg (by decide)).trans ((if_neg Bool.false_ne_true).trans (if_neg Bool.false_ne_true))))
  intro z
  cases u <;> first
    | (cases hu; done)
    | (cases v <;> first | (cases hv; done) | (exact absurd z (by decide)) | cases z)
def notLoc (sc : Scope) : Expr → Bool
  | .Name x _ => decide (sc.names.lookup x ≠ some .local)
  | _ => true
theorem filterMap_lt {α β : Type} {f : α → Option β} : ∀ {l : List α}, (∃ x ∈ l, f x = none) → (l.filterMap f).length < l.length
  | [], ⟨_, h, _⟩ => nomatch h
  | y :: l, ⟨x, h, e⟩ => by
    rcases List.mem_cons.mp h with rfl | h
    · rw [List.filterMap_cons_none e]
      exact Nat.lt_succ_of_le (List.length_filterMap_le _ _)
    · have ih := filterMap_lt ⟨x, h, e⟩
      cases q : f y with
      | none => rw [List.filterMap_cons_none q]; exact Nat.lt_succ_of_lt ih
      | some b => rw [List.filterMap_cons_some q]; exact Nat.succ_lt_succ ih
theorem stores_cell {ts vs : List Expr} {k k2 : Nat} {p p2 : Pos} {env : Env} (h : ts.any (notLoc env.scope) = true) : swappedStores [.Tuple ts k p] (.Tuple vs k2 p2) env = pure none := by
  obtain ⟨x, hx, hn⟩ := List.any_eq_true.mp h
  unfold swappedStores
  have hl : ∀ f : Expr → Option Str, f x = none → ((ts.filterMap f).length != ts.length) = true := fun f hf => bne_iff_ne.mpr (Nat.ne_of_lt (filterMap_lt ⟨x, hx, hf⟩))
  simp only []
  split
  · rfl
  · split
    · rfl
    · refine if_pos ?_
      rw [Bool.or_eq_true]
      refine .inl (hl _ ?_)
      cases x with
      | Name id pos =>
        have hn : decide (env.scope.names.lookup id ≠ some .local) = true := hn
        have e : env.kindOf id ≠ some .local := of_decide_eq_true hn
        have e2 : (env.kindOf id == some .local) = false := beq_eq_false_iff_ne.mpr e
        simp [e2]
      | _ => rfl
/-- target = value -/
def asgOk (c : Ck) (t : Tg) : Expr → Expr → Bool
  | .Name _ _, x => !isComp x || !c.hot && (match x with
    | .ListComp _ [_] _ _ => true
    | _ => false)
  | .Tuple ts _ _, .Tuple vs _ _ => vs.all (foldedForSure 8) || ts.any (notLoc c.sc)
  | .Tuple _ _ _, _ => true
  | _, _ => false
/-- within a try -/
def Ck.tr (c : Ck) : Ck := { c with xs := [], lm := false, er := false }
mutual
def chkS (rs : List Str) (c : Ck) : Sm → Stmt → Bool
  | .expr e, .Expr x _ => chkE c e x && !isComp x
  | .pass, .Expr (.Constant (.str _) _ _) _ => true
  | .pass, .Pass _ => true
  | .asg t e, .Assign [a] x _ => chkT c t (.inl a) && chkE c e x && asgOk c t a x
  | .par (.cons (.nm i) (.cons (.nm j) .nil)) (.cons a (.cons b .nil)), .Assign [.Tuple [.Name x px, .Name y py] _ _] (.Tuple [u, v] _ _) _ =>
    !c.hot && decide (c.N[i]? = some x) && decide (c.N[j]? = some y) && decide (i ≠ j) && decide (c.sc.names.lookup x = some .local) && decide (c.sc.names.lookup y = some .local) && (py.line == px.line) && decide (x ≠ y) &&
      !star u && !star v && ![u, v].all (foldedForSure 8) && ![u, v].all (constantsAlone 8) && chkE c a u && chkE c b v
  | .set i k v, .Assign [.Subscript (.Name x _) y _] z _ => decide (c.N[i]? = some x) && visB c.sc x && okName x && !isSlice y && chkE c k y && chkE c v z && !isComp z
  | .app i e, .Expr (.Call (.Attribute (.Name x _) m ap) [y] [] cp) _ => decide (m = "append") && (ap.endLine == cp.line) && decide (c.N[i]? = some x) && visB c.sc x && okName x && !star y && chkE c e y
  | .ite t a b, .If u A B _ => tst t && chkE c t u && chkSs rs c a A && chkSs rs c b B
  | .for t it b, .For a x B [] _ => !c.hot && chkT c t (.inl a) && chkI c it a x && !isSet x && chkSs rs c b B
  | .while e b, .While x B [] _ => tst e && chkE c e x && chkSs rs c b B
  | .ret e, .Return (some x) _ => chkE c e x
  | .retN, .Return none _ => true
  | .raise cl, .Raise (some (.Call (.Name x _) [.Constant (.str _) _ _] [] _)) none _ => !c.hot && decide (cl = x) && glB c.sc x && decide (x ∈ rs)
  | .tryr b, .Try body [.ExceptHandler (some (.Name pe _)) (some e) [.Return (some (.Call (.Name le _) [.Name e2 _] [] _)) _] _] [] [] _ => !c.hot && c.er && decide (pe = "PassError") && decide (le = "_law_error") && decide (e2 = e) && decide (e ∈ c.N) && okName e &&
      decide (c.sc.names.lookup e = some .local) && glB c.sc pe && glB c.sc le && chkSs [] c.tr b body
  | .setF cl o f e, .Assign [.Attribute x g _] y _ => decide (g = f) && decide ((cl, f) ∈ c.fa) && !isComp y && chkE c o x && chkE c e y
  | _, _ => false
def chkSs (rs : List Str) (c : Ck) : Sms → List Stmt → Bool
  | .nil, [] => true
  | .cons s r, x :: xs => chkS rs c s x && chkSs rs c r xs
  | _, _ => false
end
section
variable (P : Program) (w : World) (K : PySem.W.Frag) (mg : Str → Option Value)
structure CtxS (Φ : Phi) (n : Nat) (X : Cx) (c : Ck) (rs : List Str) (E : XK) : Prop where
  ok : CtxOk P w K mg Φ n X c E
  pass : PassesOwn (model X.prog X.w) X.A X.env X.xe
  kind : c.sc.kind = .function
  stk : X.stack = X.env :: X.outer
  frm : X.env.frame = some X.env.locals
  exc : ∀ x ∈ rs, glB c.sc x = true → ∃ C, mg x = some (.ref C) ∧ ∀ (m : Str) (j : Nat) (p p2 pos : Pos), L2N.PMk X (.Call (.Name x p) [.Constant (.str m) j p2] [] pos) fun _ H Q => Q (.ref C) none H
end
end Pah
end
section
set_option maxHeartbeats 4000000
/-! Inv2: what the check says of a statement's tree. (printed by geninv2.py) -/
namespace Pah
open PySem PySem.Spec PyProof.Rows L2
theorem inv_expr {rs : List Str} {c : Ck} {e : Ex} {st : Stmt} (h : chkS rs c (.expr e) st = true) : (∃ (x : Expr) (p : Pos), st = .Expr x p ∧ (chkE c e x && !isComp x) = true) := by
  unfold chkS at h
  split at h
  all_goals first
    | (cases h; done)
    | (rename_i e; cases e; done)
    | (rename_i e; cases e; exact ⟨_, _, rfl, h⟩)
    | exact ⟨_, _, rfl, h⟩
theorem inv_asg {rs : List Str} {c : Ck} {t : Tg} {e : Ex} {st : Stmt} (h : chkS rs c (.asg t e) st = true) : (∃ (a x : Expr) (p : Pos), st = .Assign [a] x p ∧ (chkT c t (.inl a) && chkE c e x && asgOk c t a x) = true) := by
  unfold chkS at h
  split at h
  all_goals first
    | (cases h; done)
    | (rename_i e; cases e; done)
    | (rename_i e; cases e; exact ⟨_, _, _, rfl, h⟩)
    | exact ⟨_, _, _, rfl, h⟩
theorem inv_set {rs : List Str} {c : Ck} {i : Nat} {k v : Ex} {st : Stmt} (h : chkS rs c (.set i k v) st = true) : (∃ (x : Str) (px : Pos) (y : Expr) (ps : Pos) (z : Expr) (p : Pos), st = .Assign [.Subscript (.Name x px) y ps] z p ∧ (decide (c.N[i]? = some x) && visB c.sc x && okName x && !isSlice y && chkE c k y && chkE c v z && !isComp z) = true) := by
  unfold chkS at h
  split at h
  all_goals first
    | (cases h; done)
    | (rename_i e; cases e; done)
    | (rename_i e; cases e; exact ⟨_, _, _, _, _, _, rfl, h⟩)
    | exact ⟨_, _, _, _, _, _, rfl, h⟩
theorem inv_app {rs : List Str} {c : Ck} {i : Nat} {e : Ex} {st : Stmt} (h : chkS rs c (.app i e) st = true) : (∃ (x : Str) (px : Pos) (m : Str) (ap : Pos) (y : Expr) (cp p : Pos), st = .Expr (.Call (.Attribute (.Name x px) m ap) [y] [] cp) p ∧ (decide (m = "append") && (ap.endLine == cp.line) && decide (c.N[i]? = some x) && visB c.sc x && okName x && !star y && chkE c e y) = true) := by
  unfold chkS at h
  split at h
  all_goals first
    | (cases h; done)
    | (rename_i e; cases e; done)
    | (rename_i e; cases e; exact ⟨_, _, _, _, _, _, _, rfl, h⟩)
    | exact ⟨_, _, _, _, _, _, _, rfl, h⟩
theorem inv_sif {rs : List Str} {c : Ck} {t : Ex} {a b : Sms} {st : Stmt} (h : chkS rs c (.ite t a b) st = true) : (∃ (u : Expr) (A B : List Stmt) (p : Pos), st = .If u A B p ∧ (tst t && chkE c t u && chkSs rs c a A && chkSs rs c b B) = true) := by
  unfold chkS at h
  split at h
  all_goals first
    | (cases h; done)
    | (rename_i e; cases e; done)
    | (rename_i e; cases e; exact ⟨_, _, _, _, rfl, h⟩)
    | exact ⟨_, _, _, _, rfl, h⟩
theorem inv_for {rs : List Str} {c : Ck} {t : Tg} {it : Itx} {b : Sms} {st : Stmt} (h : chkS rs c (.for t it b) st = true) : (∃ (a x : Expr) (B : List Stmt) (p : Pos), st = .For a x B [] p ∧ (!c.hot && chkT c t (.inl a) && chkI c it a x && !isSet x && chkSs rs c b B) = true) := by
  unfold chkS at h
  split at h
  all_goals first
    | (cases h; done)
    | (rename_i e; cases e; done)
    | (rename_i e; cases e; exact ⟨_, _, _, _, rfl, h⟩)
    | exact ⟨_, _, _, _, rfl, h⟩
theorem inv_while {rs : List Str} {c : Ck} {e : Ex} {b : Sms} {st : Stmt} (h : chkS rs c (.while e b) st = true) : (∃ (x : Expr) (B : List Stmt) (p : Pos), st = .While x B [] p ∧ (tst e && chkE c e x && chkSs rs c b B) = true) := by
  unfold chkS at h
  split at h
  all_goals first
    | (cases h; done)
    | (rename_i e; cases e; done)
    | (rename_i e; cases e; exact ⟨_, _, _, rfl, h⟩)
    | exact ⟨_, _, _, rfl, h⟩
theorem inv_ret {rs : List Str} {c : Ck} {e : Ex} {st : Stmt} (h : chkS rs c (.ret e) st = true) : (∃ (x : Expr) (p : Pos), st = .Return (some x) p ∧ chkE c e x = true) := by
  unfold chkS at h
  split at h
  all_goals first
    | (cases h; done)
    | (rename_i e; cases e; done)
    | (rename_i e; cases e; exact ⟨_, _, rfl, h⟩)
    | exact ⟨_, _, rfl, h⟩
theorem inv_retN {rs : List Str} {c : Ck}  {st : Stmt} (h : chkS rs c (.retN) st = true) : (∃ (p : Pos), st = .Return none p) := by
  unfold chkS at h
  split at h
  all_goals first
    | (cases h; done)
    | (rename_i e; cases e; done)
    | (rename_i e; cases e; exact ⟨_, rfl⟩)
    | exact ⟨_, rfl⟩
theorem inv_tryr {rs : List Str} {c : Ck} {b : Sms} {st : Stmt} (h : chkS rs c (.tryr b) st = true) : (∃ (body : List Stmt) (pe : Str) (p1 : Pos) (e le : Str) (p2 : Pos) (e2 : Str) (p3 p4 p5 p6 p7 : Pos), st = .Try body [.ExceptHandler (some (.Name pe p1)) (some e) [.Return (some (.Call (.Name le p2) [.Name e2 p3] [] p4)) p5] p6] [] [] p7 ∧ (!c.hot && c.er && decide (pe = "PassError") && decide (le = "_law_error") && decide (e2 = e) && decide (e ∈ c.N) && okName e && decide (c.sc.names.lookup e = some .local) && glB c.sc pe && glB c.sc le && chkSs [] c.tr b body) = true) := by
  unfold chkS at h
  split at h
  all_goals first
    | (cases h; done)
    | (rename_i e; cases e; done)
    | (rename_i e; cases e; exact ⟨_, _, _, _, _, _, _, _, _, _, _, _, rfl, h⟩)
    | exact ⟨_, _, _, _, _, _, _, _, _, _, _, _, rfl, h⟩
theorem inv_setF {rs : List Str} {c : Ck} {cl : Str} {o : Ex} {f : Str} {e : Ex} {st : Stmt} (h : chkS rs c (.setF cl o f e) st = true) : (∃ (x : Expr) (g : Str) (p1 : Pos) (y : Expr) (p : Pos), st = .Assign [.Attribute x g p1] y p ∧ (decide (g = f) && decide ((cl, f) ∈ c.fa) && !isComp y && chkE c o x && chkE c e y) = true) := by
  unfold chkS at h
  split at h
  all_goals first
    | (cases h; done)
    | (rename_i e; cases e; done)
    | (rename_i e; cases e; exact ⟨_, _, _, _, _, rfl, h⟩)
    | exact ⟨_, _, _, _, _, rfl, h⟩
theorem inv_raise {rs : List Str} {c : Ck} {cl : Str} {st : Stmt} (h : chkS rs c (.raise cl) st = true) : (∃ (x : Str) (px : Pos) (m : Str) (k : Nat) (p1 p2 p : Pos), st = .Raise (some (.Call (.Name x px) [.Constant (.str m) k p1] [] p2)) none p ∧ (!c.hot && decide (cl = x) && glB c.sc x && decide (x ∈ rs)) = true) := by
  unfold chkS at h
  split at h
  all_goals first
    | (cases h; done)
    | (rename_i e; cases e; done)
    | (rename_i e; cases e; exact ⟨_, _, _, _, _, _, _, rfl, h⟩)
    | exact ⟨_, _, _, _, _, _, _, rfl, h⟩
theorem inv_pass {rs : List Str} {c : Ck} {st : Stmt} (h : chkS rs c .pass st = true) : (∃ (x : Str) (k : Nat) (p p2 : Pos), st = .Expr (.Constant (.str x) k p) p2) ∨ ∃ (p : Pos), st = .Pass p := by
  unfold chkS at h
  split at h
  all_goals first
    | (cases h; done)
    | (rename_i e; cases e; done)
    | exact .inl ⟨_, _, _, _, rfl⟩
    | exact .inr ⟨_, rfl⟩
theorem inv_par {rs : List Str} {c : Ck} {t : Tg} {es : Exs} {st : Stmt} (h : chkS rs c (.par t es) st = true) :
    ∃ (i j : Nat) (a b : Ex) (x : Str) (px : Pos) (y : Str) (py : Pos) (k : Nat) (p1 : Pos) (u v : Expr) (k2 : Nat) (p2 p : Pos), t = .cons (.nm i) (.cons (.nm j) .nil) ∧ es = .cons a (.cons b .nil) ∧ st = .Assign [.Tuple [.Name x px, .Name y py] k p1] (.Tuple [u, v] k2 p2) p ∧
    (!c.hot && decide (c.N[i]? = some x) && decide (c.N[j]? = some y) && decide (i ≠ j) && decide (c.sc.names.lookup x = some .local) && decide (c.sc.names.lookup y = some .local) && (py.line == px.line) && decide (x ≠ y) &&
      !star u && !star v && ![u, v].all (foldedForSure 8) && ![u, v].all (constantsAlone 8) && chkE c a u && chkE c b v) = true := by
  unfold chkS at h
  split at h
  all_goals first
    | (cases h; done)
    | (rename_i e; cases e; done)
    | (rename_i e; cases e; exact ⟨_, _, _, _, _, _, _, _, _, _, _, _, _, _, _, rfl, rfl, rfl, h⟩)
theorem inv_appAt {rs : List Str} {c : Ck} {o e : Ex} {st : Stmt} (h : chkS rs c (.appAt o e) st = true) : False := by
  unfold chkS at h
  cases h
end Pah
end
section
set_option maxHeartbeats 4000000
/-! SndT: try: .. except PassError as e: return _law_error(e); fields stored. -/
namespace Pah
open PySem PySem.Spec PyProof.Rows L2
section
variable {P : Program} {w : World} {K : PySem.W.Frag} {mg : Str → Option Value} {G : Gh}
theorem RFs.put {f : Str} {v : V} {d : D} : ∀ {gs : List (Str × V)} {fs : List (Str × D)}, RFs P w K mg G gs fs → RD P w K mg G v d → RFs P w K mg G (putF f v gs) (putFd fs f d)
  | _, _, .nil, h => .cons h .nil
  | _, _, .cons (f := g) h0 r, h => by
    unfold putF putFd
    by_cases e : g = f
    · rw [if_pos e, if_pos e]
      exact .cons h r
    · rw [if_neg e, if_neg e]
      exact .cons h0 (r.put h)
end
section
variable {P : Program} {w : World} {K : PySem.W.Frag} {mg : Str → Option Value} {B : Ba} {G G' : Gh} {s : S} {σ σ' : L2.St} {H H' : Hp} {E : XK} {Φ : Phi} {D : Ends} {X : Cx} {c : Ck} {n : Nat} {rs : List Str}
theorem rdS_setF {cl f : Str} {o e : Ex} (hf : ∃ C, mg cl = some (.ref C) ∧ Cls K C ∧ NoAttr K C f) (h : rdS P w K mg Φ E (.setF cl o f e) D σ H) : sFld K (rdE P w K mg Φ E o) (rdE P w K mg Φ E e) f D σ H := by
  obtain ⟨B, G, s, R, q⟩ := h
  obtain ⟨C, m1, m2, m3⟩ := hf
  have q : pO P w K mg B E G ((evE Φ e s).bind fun y s => (evE Φ o s).bind fun x s => match x.d with
    | .ref j => match s.mem[j]? with
      | some (.obj c' fs) => if c' = cl ∧ fs.length < 900 then .ok .next { s with mem := s.mem.set j (.obj cl (putFd fs f y.d)) } else .stuck
      | _ => .stuck
    | _ => .stuck) (kF P w K mg B G D) := q
  refine rdE_stepD R q fun r s1 v H1 G1 l1 R1 hd q1 => ?_
  refine rdE_stepD R1 q1 fun r2 s2 v2 H2 G2 l2 R2 hd2 q2 => ?_
  have hd := RD.le l2 hd
  cases e1 : r2.d with
  | ref j =>
    rw [e1] at q2 hd2
    simp only at q2
    cases e2 : s2.mem[j]? with
    | none => rw [e2] at q2; exact q2.elim
    | some mo =>
      rw [e2] at q2
      cases mo with
      | obj c' fs =>
        simp only at q2
        by_cases hc : c' = cl ∧ fs.length < 900
        · rw [if_pos hc] at q2
          obtain ⟨rfl, hl⟩ := hc
          obtain ⟨a, C', dx, gs, g1, g2, g3, g4⟩ := R2.m.obj e2
          rw [m1] at g3
          cases g3
          cases hd2 with
          | ref g5 =>
            rw [g1] at g5
            cases g5
            refine ⟨a, _, dx, gs, rfl, g2, m2, m3, by rw [g4.length]; omega, ?_⟩
            exact q2 σ _ G2 (l1.trans l2) (R2.writeRef e2 (fun z => nomatch z) g1 (.obj m1 (g4.put hd)))
        · rw [if_neg hc] at q2; exact q2.elim
      | _ => exact q2.elim
  | _ => rw [e1] at q2; exact q2.elim
variable (K mg) in
/-- the suite's wish -/
def tsR (i : Nat) : Addr → Value → Option Addr → TS := fun a0 cls d D σ H => ∃ (C : Str) (Ca : Addr) (z : Str), mg C = some (.ref Ca) ∧ cls = .ref Ca ∧ d = none ∧ errW C = some z ∧ σ[i]? = some (some (V.ref a0)) ∧ LamX.Tabs (Tk K) H ∧ ∀ H2, LamX.ExtN H H2 → There H H2 → LamX.Tabs (Tk K) H2 → D.rt (.str z) H2
variable (K mg) in
/-- what the try's body may let out -/
def EtR (CP : Addr) (i N : Nat) (D : Ends) : XK := fun cls d H' => ∀ σ' : L2.St, σ'.length = N → wAs K (.ref CP) i (tsR K mg i) (fun _ _ _ _ => False) D cls d σ' H'
theorem rdS_tryr {b : Sms} {CP : Addr} {i N : Nat} (hi : i < N) (hp : ∀ C z Ca, errW C = some z → mg C = some (.ref Ca) → PySem.W.exmOne K (.ref Ca) (.ref CP) = some true) (h : rdS P w K mg Φ E (.tryr b) D σ H) : rdSs P w K mg Φ (EtR K mg CP i N D) b D σ H := by
  obtain ⟨B, G, s, R, q⟩ := h
  refine ⟨B, G, s, R, ?_⟩
  have q : pO P w K mg B E G (match evSs Φ b s with
    | .ok f s' => .ok f s'
    | .exn c .non m => match errW c with
      | some w => .ok (.ret (.v (.str w))) ⟨s.env.map keptR, m⟩
      | none => .stuck
    | _ => .stuck) (kF P w K mg B G D) := q
  cases e : evSs Φ b s with
  | stuck => rw [e] at q; exact q
  | ok f s1 => rw [e] at q; exact q
  | exn c p m =>
    rw [e] at q
    cases p with
    | non =>
      have q : pO P w K mg B E G (match errW c with
          | some w => .ok (.ret (.v (.str w))) ⟨s.env.map keptR, m⟩
          | none => .stuck) (kF P w K mg B G D) := q
      cases ew : errW c with
      | none => rw [ew] at q; exact q.elim
      | some z =>
        rw [ew] at q
        have q : kF P w K mg B G D (.ret (.v (.str z))) ⟨s.env.map keptR, m⟩ := q
        intro H' G' l M Ca hC σ' hl
        refine ⟨true, hp c z Ca ew hC, fun _ a0 _ => ⟨c, Ca, z, hC, rfl, rfl, ew, List.getElem?_set_self (by rw [hl]; exact hi), M.tab, fun H2 x1 x2 x3 => ?_⟩, fun h => nomatch h⟩
        exact q (.str z) H2 G' l (M.grow x1 x2 x3) (.str _)
    | _ => exact q.elim
/-- the suite itself -/
theorem suite_ok {e : Str} {i : Nat} {p2 p3 p4 p5 : Pos} (C : CtxOk P w K mg Φ n X c E) (hot : c.hot = false) (U : SuiOk P w K mg) (he : X.N[i]? = some e) (ho : okName e = true) (hl : X.env.scope.names.lookup e = some .local) (hg : glB c.sc "_law_error" = true) (a0 : Addr) (oe : Obj) (cls : Value) (d : Option Addr) (pn : List (Addr × Obj)) (hz : L2N.Zn cls d oe) (hf : ∃ vs, oe.data = .fields vs) :
    PSs (X.suite a0 ((a0, oe) :: pn)) [.Return (some (.Call (.Name "_law_error" p2) [.Name e p3] [] p4)) p5] (tsR K mg i a0 cls d) := by
  obtain ⟨f, m1, m2, m3⟩ := U.le
  refine PSs.imp (pss_one (ps_ret (te := fun (σ : L2.St) (H : Hp) (Q : VK) => ∃ (C : Str) (Ca : Addr) (z : Str), mg C = some (.ref Ca) ∧ cls = .ref Ca ∧ d = none ∧ errW C = some z ∧ σ[i]? = some (some (V.ref a0)) ∧ LamX.Tabs (Tk K) H ∧ ∀ H2, LamX.ExtN H H2 → There H H2 → LamX.Tabs (Tk K) H2 → Q (.str z) H2) ⟨fun pins s0 σ0 H0 Q0 I hh => ?_⟩)) fun D σ H q => q
  obtain ⟨Cn, Ca, z, mC, rfl, rfl, hw, hσ, tb, hq⟩ := hh
  refine wpAny_Call_Name_kw (ld_glob I (show X.env.scope.names.lookup ("_law_error" : Str) = some .globalImplicit from gl_of C hg) (by rw [C.em]; exact m1) ?_ (by decide))
  have pv : PA (X.suite a0 ((a0, oe) :: pn)) [.Name e p3] (tCons (tVar i) tNil) := pa_cons (pe_var he (.inl hl) (okName_of ho).1 (okName_of ho).2.1) pa_nil
  refine PySem.W.callWith_K (h₀ := X.base) I.ok.mod.kin (by rw [C.eK]; exact m2) (thn (pv.run p4 pins s0 σ0 H0 (fun vs H1 => vs = [V.ref a0] ∧ H1 = H0) I ⟨.ref a0, hσ, rfl, rfl⟩) fun us s1 ⟨vs, H1, I1, r, ev, eH⟩ => ⟨I1.kIn, ?_⟩) (by rfl) (by rfl)
  subst ev eH
  cases r with
  | cons r1 r2 =>
    cases r2
    cases r1
    have r0 : Room 1 X.A := (C.room hot).mono (by split <;> omega)
    have r1 : L2H.RoomH 1 (X.A.mark (some (.ref a0))) := ⟨r0.dp, r0.un⟩
    obtain ⟨vs, hv⟩ := hf
    exact m3 (X.suite a0 ((a0, oe) :: pn)) a0 oe _ _ _ _ _ Cn z Ca C.eP C.ew C.eK C.em List.mem_cons_self ⟨rfl, vs, hv, hz.2.2 vs hv⟩ r1 mC hw hz.zc I1 tb hq
/-- within the try -/
theorem CtxOk.tr {E' : XK} {pn : List (Addr × Obj)} {xe : Value → Shared → Prop} (C : CtxOk P w K mg Φ n X c E) (h0 : c.hot = false) (tk : L2N.Takes (X.tr pn xe) fun cls d _ H => E' cls d H) : CtxOk P w K mg Φ n (X.tr pn xe) c.tr E' where
  eP := C.eP
  ew := C.ew
  eK := C.eK
  em := C.em
  calm := C.calm
  room := fun h => (C.room h).mono (by show 4 * n + 1 ≤ _; split <;> omega)
  un := C.un
  warm := fun h => absurd (show c.hot = true from h) (by rw [h0]; decide)
  hc := fun _ h => absurd rfl h
  hx := fun h => absurd rfl h
  N := C.N
  nd := C.nd
  sc := C.sc
  fn := C.fn
  tk := tk
  blt := C.blt
  con := C.con
  calls := C.calls
  dyn := C.dyn
  lam := fun h => nomatch h
  sui := fun h => nomatch h
  fat := C.fat
  prp := C.prp
  cme := C.cme
  mak := C.mak
end
end Pah
end
section
set_option maxHeartbeats 4000000
/-! Snd16: a statement that is checked reads as it runs. -/
namespace Pah
open PySem PySem.Spec PyProof.Rows L2
section
variable {P : Program} {w : World} {K : PySem.W.Frag} {mg : Str → Option Value} {Φ : Phi} {n : Nat}
theorem rdG_name {i : Nat} {v : V} {σ : L2.St} {H : Hp} {Q : L2.St → Hp → Prop} (h : rdG P w K mg (.nm i) v σ H Q) : gName i v σ H Q := by
  obtain ⟨B, G, s, r, env', R, hh, e, k⟩ := h
  have ⟨hr, al⟩ : RR P w K mg B G H r v ∧ Alone s σ r v := hh.resolve_right fun z => z.1 i rfl
  simp only [asgT] at e
  by_cases hi : i < s.env.length
  · rw [if_pos hi] at e
    cases e
    refine k _ (R.store hi hr al) ⟨by simp, fun j hj => ?_⟩
    have hj : i ≠ j := fun z => hj (by simp [Tg.vars, z])
    rw [List.getElem?_set_ne hj]
  · rw [if_neg hi] at e; cases e
theorem sole_one {t x : Expr} {l : Nat} {env : Env} : swapsWithSole [t] x l env = swapsWith x (some t) l env := by rfl
/-- name = [..] -/
theorem set_comp {X : Cx} {c : Ck} {rs : List Str} {E : XK} (cool : c.hot = false) (C : CtxS P w K mg Φ n X c rs E) {i : Nat} {y : Str} {py p : Pos} {elt : Ex} {tg : Tg} {it : Itx} {cond : Ex} {x1 : Expr} {gs : List Comprehension} {scope : Scope} {pos : Pos} (ht : chkT c (.nm i) (.inl (.Name y py)) = true)
    (he : chkE c (.comp elt tg it cond) (.ListComp x1 gs scope pos) = true) : PS X (.Assign [.Name y py] (.ListComp x1 gs scope pos) p) (rdS P w K mg Φ E (.asg (.nm i) (.comp elt tg it cond))) := by
  simp only [chkT, Bool.and_eq_true, decide_eq_true_eq] at ht
  obtain ⟨l1, l2⟩ := loc_of C.ok ht.2
  cases hsw : swB c y py scope pos with
  | false =>
    have pe := (sndE c _ _ he X E C.ok).1
    exact PS.imp (ps_set C.ok.nd (by rw [C.ok.N]; exact ht.1) l1 pe (sw_false C.ok.sc hsw) l2) fun D σ H q => by
      have z := rdS_asg q
      obtain ⟨B, G, s, R, z⟩ := z
      exact ⟨B, G, s, R, pO_mono z fun r s' k v H' G' l R' hr al => rdG_name (k v H' G' l R' hr al)⟩
  | true =>
    obtain ⟨x1', t, yy, ifs, z, scope', p', e, hq⟩ := inv_comp he
    cases e
    replace he := hq
    rw [Bool.and_eq_true, Bool.and_eq_true, Bool.and_eq_true, Bool.and_eq_true, Bool.and_eq_true, Bool.and_eq_true, Bool.and_eq_true, Bool.and_eq_true, Bool.and_eq_true] at he
    obtain ⟨⟨⟨⟨⟨⟨⟨⟨⟨_, h1⟩, h2⟩, h3⟩, h4⟩, h5⟩, h6⟩, h7⟩, h8⟩, h9⟩ := he
    obtain rfl := of_decide_eq_true h1
    have h3 : isSet yy = false := by simpa using h3
    have bok : BlkOk X.N X.env.scope scope (ownOf c.N tg.vars) := by rw [C.ok.N, C.ok.sc]; exact blkOk_by h4
    have pi : PI X t yy (rdI P w K mg Φ E it) := sndI c it t yy h6 X E C.ok
    have pr : isPairs it = true → ∀ i, tg ≠ .nm i := fun hp i e => by
      subst e
      cases t with
      | Name tn tp => exact pair_tgt hp h6
      | _ => simp [chkT] at h5
    unfold swB at hsw
    rw [Bool.and_eq_true, Bool.and_eq_true, Bool.not_eq_true'] at hsw
    have hy : X.env.scope.names.lookup y = some .local := by rw [C.ok.sc]; exact of_decide_eq_true hsw.1.1
    have z : PS X (.Assign [.Name y py] (.ListComp x1 [⟨t, yy, ifs, 0⟩] scope pos) p) (tAsg (tLc (rdI P w K mg Φ E it) (rdG P w K mg tg) (rdT P w K mg Φ FX cond) (rdE P w K mg Φ FX elt) ((ownOf c.N tg.vars).map (·.2))) (gName i)) := by
      have off : ∀ {s : Shared} {H : Hp} {Cc : Addr} {cl : List (Str × Addr)} {fp : List Addr}, c.hot = true → Warm (X.blk s H scope (compEnvC scope cl Cc X.env) fp) := fun e => by rw [cool] at e; cases e
      refine ps_setLc (C.ok.calm cool) C.ok.nd (by rw [C.ok.N]; exact ht.1) hy (sw_true (by rw [C.ok.sc]; exact C.kind) hy hsw.1.2 hsw.2) pi bok (fun s H Cc cl fp => ?_) (fun s H Cc cl fp => ?_) (fun s H Cc cl fp => ?_) (no_fold _ h3)
      · exact snd_tgt (C.ok.blk s H scope Cc cl fp off) tg (.inl t) h5
      · cases ifs with
        | nil =>
          have : cond = .bl true := by
            cases cond with
            | bl b => cases b <;> first | rfl | cases h9
            | _ => cases h9
          subst this
          exact ⟨fun pins s σ H Q I q => pts_nil.run pins s σ H Q I (by
            obtain ⟨B, G, s0, R, q⟩ := q
            exact q H G .rfl R)⟩
        | cons u us =>
          cases us with
          | nil => exact pts_one ((sndE (c.blk scope) cond u h9 _ _ (C.ok.blk s H scope Cc cl fp off)).2 h8)
          | cons _ _ => cases h9
      · exact (sndE (c.blk scope) elt x1 h7 _ _ (C.ok.blk s H scope Cc cl fp off)).1
    rw [ownOf_snd] at z
    refine PS.imp z fun D σ H q => ?_
    have q2 := rdS_asg q
    refine comp_read (Q := fun x H1 => gName i x σ H1 D.nx) h2 pr ?_
    obtain ⟨B, G, s, R, q2⟩ := q2
    exact ⟨B, G, s, R, pO_mono q2 fun r s' k v H' G' l R' hr al => rdG_name (k v H' G' l R' hr al)⟩
variable (P w K mg) in
def SndS (Φ : Phi) (n : Nat) (c : Ck) (rs : List Str) (e : Sm) (x : Stmt) : Prop := ∀ (X : Cx) (E : XK), CtxS P w K mg Φ n X c rs E → PS X x (rdS P w K mg Φ E e)
mutual
theorem sndS (rs : List Str) (c : Ck) : ∀ (e : Sm) (x : Stmt), chkS rs c e x = true → SndS P w K mg Φ n c rs e x
  | .expr e, x, h => fun X E C => by
    obtain ⟨y, p, rfl, hq⟩ := inv_expr h
    simp only [Bool.and_eq_true, Bool.not_eq_true'] at hq
    exact PS.imp (ps_expr (sndE c e y hq.1 X E C.ok).1 (sw_none hq.2)) fun D σ H q => rdS_expr q
  | .pass, x, h => fun X E C => by
    rcases inv_pass h with ⟨y, k, p, p2, rfl⟩ | ⟨p, rfl⟩
    · exact PS.imp ps_doc fun D σ H q => rdS_pass q
    · exact PS.imp ps_pass fun D σ H q => rdS_pass q
  | .asg t e, x, h => fun X E C => by
    obtain ⟨a, y, p, rfl, hq⟩ := inv_asg h
    simp only [Bool.and_eq_true] at hq
    obtain ⟨⟨h1, h2⟩, h3⟩ := hq
    have pe := (sndE c e y h2 X E C.ok).1
    cases a with
    | Name z pz =>
      cases t with
      | nm i =>
        by_cases hc : isComp y = true
        · cases y with
          | ListComp x1 gs scope pos =>
            cases e with
            | comp elt tg it cond =>
              have cool : c.hot = false := by
                simp only [asgOk, hc, Bool.not_true, Bool.false_or, Bool.and_eq_true, Bool.not_eq_true'] at h3
                exact h3.1
              exact set_comp cool C h1 h2
            | _ => simp [chkE] at h2
          | SetComp _ _ _ _ => simp [asgOk, isComp] at h3
          | DictComp _ _ _ _ _ => simp [asgOk, isComp] at h3
          | _ => cases hc
        · have hc : isComp y = false := Bool.eq_false_iff.mpr hc
          simp only [chkT, Bool.and_eq_true, decide_eq_true_eq] at h1
          obtain ⟨l1, l2⟩ := loc_of C.ok h1.2
          exact PS.imp (ps_set C.ok.nd (by rw [C.ok.N]; exact h1.1) l1 pe (sw_none hc) l2) fun D σ H q => by
            obtain ⟨B, G, s, R, z⟩ := rdS_asg q
            exact ⟨B, G, s, R, pO_mono z fun r s' k v H' G' l R' hr al => rdG_name (k v H' G' l R' hr al)⟩
      | nil => simp [chkT] at h1
      | cons _ _ => simp [chkT] at h1
    | Tuple ts k pt =>
      have pg : PG X (.Tuple ts k pt) (rdG P w K mg t) := snd_tgt C.ok t (.inl _) h1
      cases hy : isTupE y with
      | false => exact PS.imp (ps_asg pe pg sole_tup (stores_none hy) rfl) fun D σ H q => rdS_asg q
      | true =>
        cases y with
        | Tuple vs k2 p2 =>
          have h3 : (vs.all (foldedForSure 8) || ts.any (notLoc c.sc)) = true := h3
          rcases Bool.or_eq_true .. ▸ h3 with h3 | h3
          · exact PS.imp (ps_asg pe pg sole_tup (stores_fold h3) rfl) fun D σ H q => rdS_asg q
          · exact PS.imp (ps_asg pe pg sole_tup (stores_cell (by rw [C.ok.sc]; exact h3)) rfl) fun D σ H q => rdS_asg q
        | _ => cases hy
    | _ => simp [asgOk] at h3
  | .par t es, x, h => fun X E C => by
    obtain ⟨i, j, a, b, x, px, y, py, k, p1, u, v, k2, p2, p, rfl, rfl, rfl, hq⟩ := inv_par h
    simp only [Bool.and_eq_true, decide_eq_true_eq, Bool.not_eq_true'] at hq
    obtain ⟨⟨⟨⟨⟨⟨⟨⟨⟨⟨⟨⟨⟨h0, h1⟩, h2⟩, h3⟩, h4⟩, h5⟩, h6⟩, h7⟩, h8⟩, h9⟩, h10⟩, h11⟩, h12⟩, h13⟩ := hq
    have pa := (sndE c a u h12 X E C.ok).1
    have pb := (sndE c b v h13 X E C.ok).1
    have hx : X.env.scope.names.lookup x = some .local := by rw [C.ok.sc]; exact h4
    have hy : X.env.scope.names.lookup y = some .local := by rw [C.ok.sc]; exact h5
    exact PS.imp (ps_par (C.ok.calm h0) C.ok.nd (by rw [C.ok.N]; exact h1) (by rw [C.ok.N]; exact h2) h3 hx hy (pa_cons pa (pa_cons pb pa_nil (star_each h9)) (star_each h8))
      (stores_pair (by rw [C.ok.sc]; exact C.kind) h8 h9 hx hy h6 h7 h10 h11) rfl) fun D σ H q => rdS_par2 q
  | .set i k v, x, h => fun X E C => by
    obtain ⟨x, px, y, ps, z, p, rfl, hq⟩ := inv_set h
    simp only [Bool.and_eq_true, decide_eq_true_eq, Bool.not_eq_true'] at hq
    obtain ⟨⟨⟨⟨⟨⟨h1, h2⟩, h3⟩, h4⟩, h5⟩, h6⟩, h7⟩ := hq
    have hsub : ∀ v, assign (.Subscript (.Name x px) y ps) X.env v = (do
        let ov ← holding [v] (eval (.Name x px) X.env)
        let iv ← holding [v, ov] (eval y X.env)
        standAt ps
        holding [v, ov, iv] (setItem ov iv v)
        release [v, ov, iv] []) := by
      intro v
      cases y <;> first | rfl | cases h4
    exact PS.imp (ps_asg (sndE c v z h6 X E C.ok).1 (pg_sub (pe_v C.ok h1 h2 h3) (sndE c k y h5 X E C.ok).1 (set_any C.ok.eP C.ok.ew C.ok.eK C.ok.units) hsub) (sole_one.trans (sw_none h7)) rfl rfl) fun D σ H q => rdS_set q
  | .app i e, x, h => fun X E C => by
    obtain ⟨x, px, m, ap, y, cp, p, rfl, hq⟩ := inv_app h
    simp only [Bool.and_eq_true, decide_eq_true_eq, Bool.not_eq_true'] at hq
    obtain ⟨⟨⟨⟨⟨⟨rfl, h1⟩, h2⟩, h3⟩, h4⟩, h5⟩, h6⟩ := hq
    have pe := (sndE c e y h6 X E C.ok).1
    have z := pe_bm (apos := ap) (cpos := cp) F.plainAttrs_list F.slot_list_append F.type_list_append mt_append (pe_v (p := px) C.ok h2 h3 h4) (pa_cons pe pa_nil (star_each h5)) rfl (by rw [star_each h5]; rfl) h1 (star_each h5) rfl
    rw [C.ok.eK] at z
    exact PS.imp (ps_expr z (sw_none rfl)) fun D σ H q => rdS_app q
  | .appAt o e, x, h => (inv_appAt h).elim
  | .ite t a b, x, h => fun X E C => by
    obtain ⟨u, A, B, p, rfl, hq⟩ := inv_sif h
    simp only [Bool.and_eq_true] at hq
    obtain ⟨⟨⟨h1, h2⟩, h3⟩, h4⟩ := hq
    exact PS.imp (ps_if ((sndE c t u h2 X E C.ok).2 h1) (sndSs rs c a A h3 X E C) (sndSs rs c b B h4 X E C)) fun D σ H q => rdS_ite q
  | .for t it b, x, h => fun X E C => by
    obtain ⟨a, y, B, p, rfl, hq⟩ := inv_for h
    simp only [Bool.and_eq_true, Bool.not_eq_true'] at hq
    obtain ⟨⟨⟨⟨h0, h1⟩, h2⟩, h3⟩, h4⟩ := hq
    have pr : isPairs it = true → ∀ i, t ≠ .nm i := fun hp i e => by
      subst e
      cases a with
      | Name tn tp => exact pair_tgt hp h2
      | _ => simp [chkT] at h1
    exact PS.imp (ps_for C.pass (C.ok.calm h0) (sndI c it a y h2 X E C.ok) (snd_tgt C.ok t (.inl a) h1) (sndSs rs c b B h4 X E C) (no_fold _ h3)) fun D σ H q => rdS_for pr q
  | .while e b, x, h => fun X E C => by
    obtain ⟨y, B, p, rfl, hq⟩ := inv_while h
    simp only [Bool.and_eq_true] at hq
    obtain ⟨⟨h1, h2⟩, h3⟩ := hq
    exact PS.imp (ps_while C.pass ((sndE c e y h2 X E C.ok).2 h1) (sndSs rs c b B h3 X E C)) fun D σ H q => rdS_while q
  | .ret e, x, h => fun X E C => by
    obtain ⟨y, p, rfl, hq⟩ := inv_ret h
    exact PS.imp (ps_ret (pe_b C.ok hq (sndE c e y hq X E C.ok).1)) fun D σ H q => rdS_ret q
  | .retN, x, h => fun X E C => by
    obtain ⟨p, rfl⟩ := inv_retN h
    exact PS.imp ps_retN fun D σ H q => rdS_retN q
  | .setF cl o f e, x, h => fun X E C => by
    obtain ⟨y, g, p1, z, p, rfl, hq⟩ := inv_setF h
    simp only [Bool.and_eq_true, decide_eq_true_eq, Bool.not_eq_true'] at hq
    obtain ⟨⟨⟨⟨rfl, h1⟩, h2⟩, h3⟩, h4⟩ := hq
    have z := ps_fld (f := g) (pos' := p1) (pos := p) (sndE c o y h3 X E C.ok).1 (sndE c e z h4 X E C.ok).1 (sw_none h2)
    rw [C.ok.eK] at z
    exact PS.imp z fun D σ H q => rdS_setF (C.ok.fat _ h1) q
  | .tryr b, x, h => fun X E C => by
    obtain ⟨body, pe, p1, e, le, p2, e2, p3, p4, p5, p6, p7, rfl, hq⟩ := inv_tryr h
    simp only [Bool.and_eq_true, decide_eq_true_eq, Bool.not_eq_true'] at hq
    obtain ⟨⟨⟨⟨⟨⟨⟨⟨⟨⟨h0, hr⟩, rfl⟩, rfl⟩, rfl⟩, hN⟩, ho⟩, hl⟩, hg1⟩, hg2⟩, hb⟩ := hq
    have U := C.ok.sui hr
    obtain ⟨CP, m1, m2⟩ := U.pe
    obtain ⟨i, hi⟩ := List.getElem?_of_mem hN
    have hin : i < c.N.length := (List.getElem?_eq_some_iff.mp hi).1
    have le' : X.env.scope.names.lookup e2 = some .local := by rw [C.ok.sc]; exact hl
    have z := L2N.ps_try_as (X := X) (i := i) (c := .ref CP) (Wout := fun _ _ _ _ => False) (pos := p7) (np := p1) (pos' := p6) (ts := tsR K mg i) (body := body)
      (tb := fun W D σ H => ∃ E' : XK, (∀ cls d (σ' : L2.St) H', σ'.length = c.N.length → E' cls d H' → W cls d σ' H') ∧ rdSs P w K mg Φ E' b D σ H) C.stk C.frm C.ok.nd (by rw [C.ok.N]; exact hi) le' ⟨gl_of C.ok hg1, by decide, .inl (by rw [C.ok.em]; exact m1)⟩ (fun u s' ⟨_, _, _, _, _, _, _, _, _, _, _, _, _, _, _, _, z⟩ => z.elim)
      (fun W pn xe tk ps => ⟨fun pins s' σ H' D I ⟨E', hW, hr⟩ => ?_⟩) (fun a0 oe cls d pn hz hf => suite_ok (p2 := p2) (p3 := p3) (p4 := p4) (p5 := p5) C.ok h0 U (by rw [C.ok.N]; exact hi) ho le' hg2 a0 oe cls d pn hz hf)
    · rw [C.ok.eK] at z
      refine PS.imp z fun D σ H q => ⟨EtR K mg CP i c.N.length D, fun cls d σ' H' hl he => he σ' hl, rdS_tryr hin m2 q⟩
    · have tk1 : L2N.Takes (X.tr pn xe) (fun cls d _ H' => E' cls d H') := fun u s2 ⟨b1, b2, b3, b4, b5, b6, b7, b8, c1, J, c2, c3, c4, c5, c6, c7, c8⟩ =>
        tk u s2 ⟨b1, b2, b3, b4, b5, b6, b7, b8, c1, J, c2, c3, c4, c5, c6, c7, hW _ _ _ _ (by have z := J.len; rw [show (X.tr pn xe).N = c.N from C.ok.N] at z; exact z) c8⟩
      exact (sndSs [] c.tr b body hb (X.tr pn xe) E' ⟨C.ok.tr h0 tk1, ps, C.kind, C.stk, C.frm, fun x hx => nomatch hx⟩).run pins s' σ H' D I hr
  | .raise cl, x, h => fun X E C => by
    obtain ⟨y, px, m, k, p1, p2, p, rfl, hq⟩ := inv_raise h
    simp only [Bool.and_eq_true, decide_eq_true_eq, Bool.not_eq_true'] at hq
    obtain ⟨⟨⟨h0, rfl⟩, h1⟩, h2⟩ := hq
    obtain ⟨Ca, hC, mk⟩ := C.exc cl h2 h1
    exact PS.imp (L2N.ps_raise (C.ok.calm h0) C.ok.tk (mk m k px p1 p2)) fun D σ H q => rdS_raise q Ca hC
theorem sndSs (rs : List Str) (c : Ck) : ∀ (e : Sms) (x : List Stmt), chkSs rs c e x = true → ∀ (X : Cx) (E : XK), CtxS P w K mg Φ n X c rs E → PSs X x (rdSs P w K mg Φ E e)
  | .nil, x, h => fun X E C => by
    cases x with
    | nil => exact PSs.imp pss_nil fun D σ H q => rdSs_nil q
    | cons _ _ => simp [chkSs] at h
  | .cons s r, x, h => fun X E C => by
    cases x with
    | nil => simp [chkSs] at h
    | cons x xs =>
      simp only [chkSs, Bool.and_eq_true] at h
      exact PSs.imp (pss_cons (sndS rs c s x h.1 X E C) (sndSs rs c r xs h.2 X E C)) fun D σ H q => rdSs_cons q
end
end
end Pah
end
section
set_option maxHeartbeats 4000000
/-! Err: a def that tells the class of an exception is called in the suite that holds it; what _law_refused makes of a lambda. -/
namespace Pah
open PySem PySem.Spec PyProof.Rows L2
section
variable {X : Cx} {pins : List (Addr × Obj)} {σ : L2.St} {H : Hp} {s : Shared}
/-- the call of a def while the exception p is handled -/
theorem run_hot1 {Q : VK} {p : Addr × Obj} {x : Str} {pg : Arguments} {bg : List Stmt} {sg : Scope} {f : Addr} {fd : FuncData} {N ps : List Str} {us : List Value} {vs : List V} {k : Nat}
    (hot : L2H.Hot1 X.A p) (inp : p ∈ X.pn) (room : L2H.RoomH (k + 1) X.A) (FD : FunD X.K x x pg bg sg [] [] f fd) (S : FnScope N ps sg) (hb : Binds X.K fd ps []) (I : Inv X pins σ H s) (r : Vals vs us) (hl : vs.length = ps.length)
    (body : ∀ (cdv : Value), L2H.RoomH k (X.A.deeper (envOfC x sg s.heap.objs.size f cdv)) →
      ∃ t, PSs (L2H.cxH C8.CX0 X.prog X.w X.K X.mg X.base N x sg f cdv X.A X.stack s H C8.E0 p) bg t ∧ t { nx := fun _ H' => Q .non H', rt := Q } (L2.start N vs) H) :
    wpAny (model X.prog X.w) X.A (call (.ref f) us) (EP X pins σ Q) X.xe s := by
  obtain ⟨oc, od, dV, kV, doc, pm, an, cdv, ct, osl, rfl, lk, hcd, _, _⟩ := FD.ex
  have b := hb s us I.kIn (by rw [List.append_nil, ← r.length]; exact hl)
  rw [List.append_nil] at b
  have P1 := I.pin p (List.mem_append_left _ inp)
  have pin : L2H.PinOk X.stack H s p := ⟨P1.1, P1.2.1, fun hm => (List.mem_cons.mp (I.stkSub p.1 hm)).elim P1.2.2.1 P1.2.2.2.1, P1.2.2.2.2⟩
  have e0 := I.env0
  have kinds : ∀ y ∈ ps.zip us, sg.names.lookup y.1 = some .local ∨ (sg.names.lookup y.1 = some .cell ∧ ((cellsFrom (s.heap.objs.size + 1) sg.names []).lookup y.1).isSome = true) := fun y hy =>
    (S.par y.1 (List.of_mem_zip hy).1).elim .inl fun q => .inr ⟨q, PySem.W.cellsFrom_some _ _ _ (.inl q)⟩
  have called : codeAny (model X.prog X.w) X.A (.call (.ref f) ⟨us, []⟩) (CR C8.CX0 X.stack X.prog X.w H s Q C8.E0) s := by
    refine codeAny_call_function room.depth (I.kIn _ _ lk) rfl S.co S.gen rfl (PySem.W.codeRec_of I.kIn hcd) (b _ _ _ _ (wpAny_newFunctionEnv_cells S.kind kinds fun env he s1 x1 => ?_))
    subst he
    refine ⟨I.nolimit.keeps x1.toInCall.keep, codeAny_func ?_⟩
    obtain ⟨t, ht, q⟩ := body cdv (room.deeper _)
    have J : Inv (L2H.cxH C8.CX0 X.prog X.w X.K X.mg X.base N x sg f cdv X.A X.stack s H C8.E0 p) [] (L2.start N vs) H s1 := L2H.inv_startH S pin e0 hl r x1
    refine wpAny_mono (ht.run [] s1 (L2.start N vs) H _ J q) (fun fl s' hs => ?_) fun e s' hs => hs
    have out : ∀ {σ' : L2.St} {H' : Hp} {v : V} {u : Value}, Inv (L2H.cxH C8.CX0 X.prog X.w X.K X.mg X.base N x sg f cdv X.A X.stack s H C8.E0 p) [] σ' H' s' → RelV v u → Q v H' → CE X.stack X.prog X.w H s Q u s' :=
      fun {σ' H' v u} J rv q => ⟨v, H', J.os, J.bare, J.base, J.hok, rv, q⟩
    cases fl with
    | ret u => obtain ⟨v, σ', H', J, rv, q⟩ := hs; exact out J rv q
    | next => obtain ⟨σ', H', J, q⟩ := hs; exact out (v := V.non) (u := Value.none) J rfl q
    | brk => obtain ⟨_, _, _, q⟩ := hs; exact q.elim
    | cont => obtain ⟨_, _, _, q⟩ := hs; exact q.elim
  refine wpAny_call (codeAny_mono called fun r s2 hq => ?_)
  cases r with
  | error e => exact (show False from hq).elim
  | ok fl =>
    cases fl with
    | ret u => exact I.after hq
    | _ => exact False.elim hq
end
def scB (N ps : List Str) (sc : Scope) : Bool := decide (sc.kind = .function) && !sc.isCoroutine && !sc.isGenerator && decide N.Nodup && decide (N.take ps.length = ps) && (ps.all fun x => decide (sc.names.lookup x = some .local) || decide (sc.names.lookup x = some .cell)) && (sc.names.all fun y => decide (y.2 ≠ .free))
theorem sc_of {N ps : List Str} {sc : Scope} (h : scB N ps sc = true) : FnScope N ps sc := by
  unfold scB at h
  simp only [Bool.and_eq_true, decide_eq_true_eq, Bool.not_eq_true', List.all_eq_true, Bool.or_eq_true] at h
  obtain ⟨⟨⟨⟨⟨⟨h1, h2⟩, h3⟩, h4⟩, h5⟩, h6⟩, h7⟩ := h
  exact ⟨h1, h2, h3, h4, h5, h6, h7⟩
section
variable {P : Program} {w : World} {K : PySem.W.Frag} {mg : Str → Option Value}
theorem slots_get {ds : List D} {k i : Nat} {r : RV} (h : (ds.map (fun d => some (RV.v d)) ++ List.replicate k none)[i]? = some (some r)) : ∃ d, ds[i]? = some d ∧ r = .v d := by
  by_cases hi : i < ds.length
  · rw [List.getElem?_append_left (by simpa using hi), List.getElem?_map, List.getElem?_eq_getElem hi] at h
    simp only [Option.map_some, Option.some.injEq] at h
    exact ⟨_, List.getElem?_eq_getElem hi, h.symm⟩
  · rw [List.getElem?_append_right (by simpa using hi), List.getElem?_replicate] at h
    split at h <;> cases h
theorem start_get {N : List Str} {vs : List V} {i : Nat} {v : V} (h : vs[i]? = some v) : (start N vs)[i]? = some (some v) := by
  have hi := (List.getElem?_eq_some_iff.mp h).1
  unfold L2.start
  rw [List.getElem?_append_left (by simpa using hi), List.getElem?_map, h]
  rfl
theorem sr_start {G : Gh} {H : Hp} {m : Mm} {N : List Str} {vs : List V} {ds : List D} {k : Nat} {B : Ba} (M : SM P w K mg B G m H) (r : RDs P w K mg G vs ds) (hk : N.length - ds.length = k) (hl : ds.length ≤ N.length) :
    SR P w K mg B G ⟨ds.map (fun d => some (RV.v d)) ++ List.replicate k none, m⟩ (start N vs) H where
  m := M
  len := by
    unfold L2.start
    simp only [List.length_append, List.length_map, List.length_replicate, r.length]
    omega
  slot := fun i r' e => by
    obtain ⟨d, e1, rfl⟩ := slots_get e
    obtain ⟨v, e2, hd⟩ := r.get e1
    exact ⟨v, start_get e2, hd⟩
  apart := fun i j ri rj v _ e1 _ f1 _ _ => by
    obtain ⟨d, _, rfl⟩ := slots_get e1
    cases f1
end
/-! ### while the exception of the class C is handled at a -/
def phiH (C : Str) (a : Addr) : Phi := ⟨fun _ _ _ => .stuck, fun y => if y = "%e" then some (.exc C a) else none⟩
/-- the classes that _law_error asks for -/
def errCs : List Str := ["InvalidNet", "InvalidTable", "InvalidRun", "InvalidClaim", "InvalidOutcome", "InvalidChain", "InvalidRow", "InvalidPlace", "InvalidIndex", "InvalidMove", "InvalidText", "NothingToUndo", "TooMany"]
def ckH (N : List Str) (sc : Scope) : Ck := { N := N, sc := sc, fn := fun _ => true, fs := [], cs := [], xs := errCs, hot := true, lm := false }
section
variable (P : Program) (w : World) (K : PySem.W.Frag) (mg : Str → Option Value)
/-- what is known of the classes of errors -/
def ClsF : Prop := ∀ C z, errW C = some z → ∃ Ca, mg C = some (.ref Ca) ∧ ExcC K Ca ∧ (∃ CP, mg "PassError" = some (.ref CP) ∧ PySem.W.exmOne K (.ref Ca) (.ref CP) = some true) ∧ ∀ C2 ∈ errCs, ∃ Ca2, mg C2 = some (.ref Ca2) ∧ PySem.W.kitOne K (.ref Ca) (.ref Ca2) = some (exsub C C2)
/-- what is known of _law_error: its term F tells the word -/
structure ErrF (F : Fn) (x : Str) (pg : Arguments) (bg : List Stmt) (sg : Scope) (N : List Str) (en : Str) : Prop where
  fn : ∃ f fd, mg x = some (.ref f) ∧ FunD K x x pg bg sg [] [] f fd ∧ Binds K fd [en] []
  sc : FnScope N [en] sg
  ns : N.length = F.ns
  chk : chkSs [] (ckH N sg) F.body bg = true
  ev : ∀ C z a, errW C = some z → ∃ s1, evSs (phiH C a) F.body ⟨[D.exc C a].map (fun d => some (RV.v d)) ++ List.replicate (F.ns - 1) none, []⟩ = .ok (.ret (.v (.str z))) s1
  blt : ∀ y ∈ bNames, mg y = none
end
section
variable {P : Program} {w : World} {K : PySem.W.Frag} {mg : Str → Option Value}
theorem ctx_hot {base : Heap} {N : List Str} {x : Str} {sg : Scope} {f : Addr} {cdv : Value} {A : Around} {outer : List Env} {s : Shared} {H : Hp} {p : Addr × Obj} {C : Str} {Ca : Addr} {k : Nat} (hn : N.Nodup) (hb : ∀ y ∈ bNames, mg y = none) (hot : L2H.Hot1 A p) (room : L2H.RoomH k (A.deeper (envOfC x sg s.heap.objs.size f cdv)))
    (hz : Zc (.ref Ca) none p.2) (hc : ExcC K Ca) (hs : ∀ C2 ∈ errCs, ∃ Ca2, mg C2 = some (.ref Ca2) ∧ PySem.W.kitOne K (.ref Ca) (.ref Ca2) = some (exsub C C2)) :
    CtxOk P w K mg (phiH C p.1) 0 (L2H.cxH C8.CX0 P w K mg base N x sg f cdv A outer s H C8.E0 p) (ckH N sg) (fun _ _ _ => False) where
  eP := rfl
  ew := rfl
  eK := rfl
  em := rfl
  calm := fun h => nomatch h
  room := fun h => nomatch h
  un := by have := room.un; show (A.deeper (envOfC x sg s.heap.objs.size f cdv)).units + 150 < cLine; omega
  warm := fun _ => warm_of ⟨p, hot, List.mem_singleton.mpr rfl⟩
  hc := fun _ _ => ⟨p, hot, List.mem_singleton.mpr rfl⟩
  hx := fun _ cl a e => by
    have e : (if ("%e" : Str) = "%e" then some (D.exc C p.1) else none) = some (.exc cl a) := e
    rw [if_pos rfl] at e
    cases e
    obtain ⟨_, vs, hd, _⟩ := hot
    exact ⟨p.2, Ca, List.mem_singleton.mpr rfl, hz, ⟨vs, hd⟩, hc, hs⟩
  N := rfl
  nd := hn
  sc := rfl
  fn := fun _ _ => rfl
  tk := fun u s' ⟨_, _, _, _, _, _, _, _, _, _, _, _, _, _, _, _, z⟩ => z.elim
  blt := hb
  con := fun x h => nomatch h
  calls := fun f np h => nomatch h
  dyn := fun f ds m a _ h => absurd rfl h
  lam := fun h => nomatch h
  sui := fun h => nomatch h
  fat := fun p h => nomatch h
  prp := fun p h => nomatch h
  cme := fun p h => nomatch h
  mak := fun x h => nomatch h
/-- nothing is known but the tables -/
theorem sm_bare {H : Hp} (t : LamX.Tabs (Tk K) H) : SM P w K mg (Bof ⟨fun _ => none, []⟩ [] H) ⟨fun _ => none, []⟩ [] H :=
  ⟨fun _ _ e => (nomatch e), rfl, fun j ds e _ => (by simp at e), fun a h => (nomatch h), List.nodup_nil, .rfl, fun _ _ e _ => e, fun a h => (by
    rcases h with ⟨j, ds, e, _, _⟩ | ⟨ps, e⟩
    · simp at e
    · rw [e]; exact fun z => nomatch z), fun a h => absurd rfl h, fun a h => (nomatch h), fun a h => .inl (.inl h), t, fun a ps h => .inr ⟨ps, h⟩, fun a ps h => (nomatch h)⟩
theorem bare_end {H H' : Hp} {G' : Gh} {m' : Mm} (N : SM P w K mg (Bof ⟨fun _ => none, []⟩ [] H) G' m' H') : LamX.ExtN H H' ∧ There H H' := by
  have wr : ∀ a, (Bof ⟨fun _ => none, []⟩ [] H).wr a → ∃ ps, H a = some (.tbl ps) := fun a h => by
    rcases h with ⟨j, ds, e, _, _⟩ | h
    · simp at e
    · exact h
  have ext : LamX.ExtN H H' := fun b o e n => N.old b o e fun h => by
    obtain ⟨ps, e2⟩ := wr b h
    rw [e] at e2
    exact n ps (Option.some.inj e2)
  refine ⟨ext, fun a ha => ?_⟩
  by_cases h : ∃ ps, H a = some (.tbl ps)
  · exact N.wrH a (.inr h)
  · cases e : H a with
    | none => exact absurd e ha
    | some o => rw [ext a o e fun ps z => h ⟨ps, by rw [e, z]⟩]; exact fun z => nomatch z
/-- _law_error(e) in the suite -/
theorem run_err {X : Cx} {F : Fn} {x en : Str} {pg : Arguments} {bg : List Stmt} {sg : Scope} {N : List Str} {C z : Str} {a f Ca : Addr} {oe : Obj} {fd : FuncData} {pins : List (Addr × Obj)} {σ : L2.St} {H : Hp} {s : Shared} {Q : VK} (eK : X.K = K) (em : X.mg = mg) (EF : ErrF K mg F x pg bg sg N en) (hp : (a, oe) ∈ X.pn) (hot : L2H.Hot1 X.A (a, oe)) (room : L2H.RoomH 1 X.A)
    (FD : FunD K x x pg bg sg [] [] f fd) (hb : Binds K fd [en] []) (hz : Zc (.ref Ca) none oe) (hw : errW C = some z) (hc : ExcC K Ca) (hs : ∀ C2 ∈ errCs, ∃ Ca2, mg C2 = some (.ref Ca2) ∧ PySem.W.kitOne K (.ref Ca) (.ref Ca2) = some (exsub C C2))
    (I : Inv X pins σ H s) (t : LamX.Tabs (Tk K) H) (q : ∀ H2, LamX.ExtN H H2 → There H H2 → LamX.Tabs (Tk K) H2 → Q (.str z) H2) : wpAny (model X.prog X.w) X.A (call (.ref f) [.ref a]) (EP X pins σ Q) X.xe s := by
  subst eK em
  refine run_hot1 (k := 0) (N := N) (ps := [en]) (vs := [.ref a]) hot hp room FD EF.sc hb I (.cons rfl .nil) rfl fun cdv room' => ?_
  have cx := ctx_hot (P := X.prog) (w := X.w) (base := X.base) (N := N) (x := x) (f := f) (outer := X.stack) (H := H) (C := C) EF.sc.nd EF.blt hot room' hz hc hs
  refine ⟨_, sndSs (n := 0) [] (ckH N sg) F.body bg EF.chk _ _ ⟨cx, passes_of rfl, EF.sc.kind, rfl, rfl, fun y h => nomatch h⟩, ?_⟩
  obtain ⟨s1, e⟩ := EF.ev C z a hw
  have l1 : 1 ≤ N.length := by
    have := congrArg List.length EF.sc.pre
    rw [List.length_take] at this
    simp at this
    omega
  refine ⟨_, _, _, sr_start (ds := [.exc C a]) (sm_bare t) (.cons .exc .nil) (k := F.ns - 1) (by rw [EF.ns]; rfl) l1, ?_⟩
  rw [e]
  intro v H' G' l M hr
  have hr : RD X.prog X.w X.K X.mg G' v (.str z) := hr
  cases hr
  obtain ⟨x1, x2⟩ := bare_end M
  exact q H' x1 x2 M.tab
end
section
variable {K : PySem.W.Frag} {mg : Str → Option Value}
/-- what is known of _law_refused -/
structure RefF (K : PySem.W.Frag) (mg : Str → Option Value) : Prop where
  cls : ClsF K mg
  err : ∃ (F : Fn) (pg : Arguments) (bg : List Stmt) (sg : Scope) (N : List Str) (en : Str), ErrF K mg F "_law_error" pg bg sg N en
  ref : ∃ (g : Addr) (fd : FuncData) (pg : Arguments) (sg : Scope) (a e : Str) (j : Nat) (p1 p2 p3 p4 p5 p6 p7 p8 p9 p10 p11 p12 : Pos), mg "_law_refused" = some (.ref g) ∧
    FunD K "_law_refused" "_law_refused" pg [.Try [.Expr (.Call (.Name a p1) [] [] p2) p3] [.ExceptHandler (some (.Name "PassError" p4)) (some e) [.Return (some (.Call (.Name "_law_error" p5) [.Name e p6] [] p7)) p8] p9] [] [] p10, .Return (some (.Constant (.str "") j p11)) p12] sg [] [] g fd ∧
    Binds K fd [a] [] ∧ FnScope [a, e] [a] sg ∧ Vis sg a ∧ sg.names.lookup e = some .local ∧ sg.names.lookup ("PassError" : Str) = some .globalImplicit ∧ sg.names.lookup ("_law_error" : Str) = some .globalImplicit ∧
    okName a = true ∧ okName e = true
theorem refd_gives {X : Cx} (eK : X.K = K) (em : X.mg = mg) (R : RefF K mg) (q : Str) : ∃ (g : Addr) (fd : FuncData) (pg : Arguments) (bg : List Stmt) (sg : Scope) (Ng : List Str) (a : Str), mg "_law_refused" = some (.ref g) ∧ FunD K "_law_refused" "_law_refused" pg bg sg [] [] g fd ∧ Binds K fd [a] [] ∧ FnScope Ng [a] sg ∧ Ng[0]? = some a ∧ Vis sg a ∧
    (a == ("__debug__" : Str)) = false ∧ (a == ("__classdict__" : Str)) = false ∧ ∀ cdg, GivesN X Ng "_law_refused" sg g cdg bg a q (TTr K mg) := by
  subst eK em
  obtain ⟨g, fd, pg, sg, a, e, j, p1, p2, p3, p4, p5, p6, p7, p8, p9, p10, p11, p12, hg, FD, hb, Sg, va, le, lp, ll, oa, oe0⟩ := R.ref
  obtain ⟨F, pgE, bgE, sgE, NE, enE, EF⟩ := R.err
  obtain ⟨fE, fdE, mE, FE, bE⟩ := EF.fn
  refine ⟨g, fd, pg, _, sg, [a, e], a, hg, FD, hb, Sg, rfl, va, (okName_of oa).1, (okName_of oa).2.1, fun cdg f c' s H Q tl act hc h k room => ?_⟩
  generalize hZ : (cxOf C8.CX0 X.prog X.w X.K X.mg X.base [a, e] "_law_refused" sg g cdg X.A X.stack s H C8.E0).nox = Z
  have zK : Z.K = X.K := by rw [← hZ]; rfl
  have zm : Z.mg = X.mg := by rw [← hZ]; rfl
  have zsc : Z.env.scope = sg := by rw [← hZ]; rfl
  have zN : Z.N = [a, e] := by rw [← hZ]; rfl
  have zA : Z.A = X.A.deeper (envOfC "_law_refused" sg s.heap.objs.size g cdg) := by rw [← hZ]; rfl
  have gl : ∀ y, sg.names.lookup y = some .globalImplicit → Gl Z y := fun y hy => by show Z.env.scope.names.lookup y = _; rw [zsc]; exact hy
  have room2 : ∀ hd : Option Value, L2H.RoomH 1 (Z.A.mark hd) := fun hd => by
    have r1 : Room 1 Z.A := by rw [zA]; exact room.mono (by omega)
    exact ⟨r1.dp, r1.un⟩
  have CP : ∃ CP, X.mg "PassError" = some (.ref CP) ∧ ∀ C z Ca, errW C = some z → X.mg C = some (.ref Ca) → PySem.W.exmOne X.K (.ref Ca) (.ref CP) = some true := by
    obtain ⟨Ca, h1, _, ⟨CP, h2, h3⟩, _⟩ := R.cls "InvalidNet" "net" (by decide)
    refine ⟨CP, h2, fun C z Ca2 hw hm => ?_⟩
    obtain ⟨Ca', g1, _, ⟨CP', g2, g3⟩, _⟩ := R.cls C z hw
    rw [hm] at g1
    cases g1
    rw [h2] at g2
    cases g2
    exact g3
  obtain ⟨CP, mCP, exm⟩ := CP
  let ts : Addr → Value → Option Addr → TS := fun a0 cls d D σ H => ∃ (C : Str) (Ca : Addr) (z : Str), X.mg C = some (.ref Ca) ∧ cls = .ref Ca ∧ d = none ∧ errW C = some z ∧ σ[1]? = some (some (V.ref a0)) ∧ LamX.Tabs (Tk X.K) H ∧ ∀ H2, LamX.ExtN H H2 → There H H2 → LamX.Tabs (Tk X.K) H2 → D.rt (.str z) H2
  have suite : ∀ (a0 : Addr) (oe : Obj) (cls : Value) (d : Option Addr) (pn : List (Addr × Obj)), L2N.Zn cls d oe → (∃ vs, oe.data = .fields vs) → PSs (Z.suite a0 ((a0, oe) :: pn)) [.Return (some (.Call (.Name "_law_error" p5) [.Name e p6] [] p7)) p8] (ts a0 cls d) := by
    intro a0 oe cls d pn hz hf
    refine PSs.imp (pss_one (ps_ret (te := fun (σ : L2.St) (H : Hp) (Q : VK) => ∃ (C : Str) (Ca : Addr) (z : Str), X.mg C = some (.ref Ca) ∧ cls = .ref Ca ∧ d = none ∧ errW C = some z ∧ σ[1]? = some (some (V.ref a0)) ∧ LamX.Tabs (Tk X.K) H ∧ ∀ H2, LamX.ExtN H H2 → There H H2 → LamX.Tabs (Tk X.K) H2 → Q (.str z) H2) ⟨fun pins s0 σ0 H0 Q0 I hh => ?_⟩)) fun D σ H q => q
    obtain ⟨C, Ca, z, mC, rfl, rfl, hw, hσ, tb, hq⟩ := hh
    refine wpAny_Call_Name_kw (ld_glob I (gl _ ll) (by show Z.mg _ = _; rw [zm]; exact mE) ?_ (by decide))
    have pv : PA (Z.suite a0 ((a0, oe) :: pn)) [.Name e p6] (tCons (tVar 1) tNil) := pa_cons (pe_var (by show Z.N[1]? = _; rw [zN]; rfl) (.inl (by show Z.env.scope.names.lookup e = _; rw [zsc]; exact le)) (okName_of oe0).1 (okName_of oe0).2.1) pa_nil
    refine PySem.W.callWith_K (h₀ := Z.base) I.ok.mod.kin (by show PySem.W.keepIn Z.K _ = _; rw [zK]; exact FE.kp) (thn (pv.run p7 pins s0 σ0 H0 (fun vs H1 => vs = [V.ref a0] ∧ H1 = H0) I ⟨.ref a0, hσ, rfl, rfl⟩) fun us s1 ⟨vs, H1, I1, r, ev, eH⟩ => ⟨I1.kIn, ?_⟩) (by rfl) (by rfl)
    subst ev eH
    cases r with
    | cons r1 r2 =>
      cases r2
      cases r1
      obtain ⟨Ca', g1, g2, _, g4⟩ := R.cls C z hw
      rw [mC] at g1
      cases g1
      exact run_err (X := Z.suite a0 ((a0, oe) :: pn)) (oe := oe) (a := a0) zK zm EF List.mem_cons_self ⟨rfl, by obtain ⟨vs, hv⟩ := hf; exact ⟨vs, hv, hz.2.2 vs hv⟩⟩ (room2 _) FE bE hz.zc hw g2 g4 I1 tb hq
  refine ⟨_, pss_cons (L2N.ps_try_as (X := Z) (i := 1) (c := .ref CP) (Wout := fun _ _ _ _ => False) (ts := ts)
      (tb := fun W D σ H => ∃ Ech : XK, (∀ cls d (σ' : L2.St) H', σ'.length = 2 → Ech cls d H' → W cls d σ' H') ∧ σ[0]? = some (some (.ref f)) ∧ H c' = some (LamX.CodeO c' q) ∧ tl Ech H fun _ H' => D.nx σ H')
      (by rw [← hZ]; rfl) (by rw [← hZ]; rfl) (by rw [zN]; exact Sg.nd) (by rw [zN]; rfl) (by show Z.env.scope.names.lookup e = _; rw [zsc]; exact le) ⟨gl _ lp, by decide, .inl (by rw [zm]; exact mCP)⟩ (fun u s' ⟨_, _, _, _, _, _, _, _, _, _, _, _, _, _, _, _, z⟩ => z.elim) (fun W pn xe tk _ => ?_) suite) (pss_one (ps_ret pe_str)), ?_⟩
  · refine ⟨fun pins s' σ H' D I ⟨Ech, hW, h1, h2, h3⟩ => ?_⟩
    rw [← hZ] at tk I ⊢
    have tk1 : L2N.Takes ((cxOf C8.CX0 X.prog X.w X.K X.mg X.base [a, e] "_law_refused" sg g cdg X.A X.stack s H C8.E0).tr pn xe) (fun cls d σ' H' => σ'.length = 2 → W cls d σ' H') := fun u s2 ⟨b1, b2, b3, b4, b5, b6, b7, b8, c1, J, c2, c3, c4, c5, c6, c7, c8⟩ =>
      tk u s2 ⟨b1, b2, b3, b4, b5, b6, b7, b8, c1, J, c2, c3, c4, c5, c6, c7, c8 J.len⟩
    have hp := act _ pn xe Ech p1 p2 tk1 fun cls d σ' H' he hl => hW cls d σ' H' hl he
    exact (pss_one (ps_expr (pos := p3) hp)).run pins s' σ H' D I ⟨h1, h2, h3⟩
  · refine ⟨fun cls d H' => ∃ (C : Str) (Ca : Addr) (z : Str), X.mg C = some (.ref Ca) ∧ cls = .ref Ca ∧ d = none ∧ errW C = some z ∧ LamX.Tabs (Tk X.K) H' ∧ ∀ H2, LamX.ExtN H' H2 → There H' H2 → LamX.Tabs (Tk X.K) H2 → Q (.str z) H2, fun cls d σ' H' hl ⟨C, Ca, z, mC, ec, ed, hw, tb, hq⟩ => ?_, rfl, hc, h⟩
    subst ec ed
    refine ⟨true, by rw [zK]; exact exm C z Ca hw mC, fun _ a0 _ => ⟨C, Ca, z, mC, rfl, rfl, hw, List.getElem?_set_self (by rw [hl]; decide), tb, hq⟩, fun h => nomatch h⟩
end
end Pah
end
section
set_option maxHeartbeats 4000000
/-! Snd17: each def keeps its promise: what callF says. -/
namespace Pah
open PySem PySem.Spec PyProof.Rows L2
/-- where a def stands -/
inductive Kd where
  | glob | prop (c m : Str) | cls (c m : Str) | init (c : Str)
  deriving DecidableEq, Inhabited
/-- a def of the text and its term; N: its names, by slots -/
structure DefR where
  x : Str
  st : Stmt
  F : Fn
  N : List Str
  k : Kd := .glob
def DefR.ps (d : DefR) : List Str := (defArgs d.st).args.map (·.arg) ++ (defArgs d.st).vararg.toList.map (·.arg)
/-- whether what is left over comes as a tuple -/
def DefR.star (d : DefR) : Bool := (defArgs d.st).vararg.isSome
/-- its own name -/
def DefR.nm (d : DefR) : Str := match d.k with
  | .glob => d.x
  | .prop _ m => m
  | .cls _ m => m
  | .init _ => "__init__"
def Gof (l : List DefR) (x : Str) : Option Fn := (l.find? fun d => decide (d.x = x)).map (·.F)
def prOf (l : List DefR) : List (Str × Str) := l.filterMap fun d => match d.k with
  | .prop c m => some (c, m)
  | _ => none
def cmOf (l : List DefR) : List (Str × Str) := l.filterMap fun d => match d.k with
  | .cls c m => some (c, m)
  | _ => none
def mkOf (l : List DefR) : List Str := l.filterMap fun d => match d.k with
  | .init c => some c
  | _ => none
def fsOf (l : List DefR) : List (Str × Nat) := (l.filter fun d => decide (d.k = .glob)).map fun e => (e.x, e.F.np)
/-- what a law's table is read with: constants, lambda makers, fields, whether _law_error is there -/
structure Wh where
  cs : List Str
  rs : List Str
  ls : List Str
  fa : List (Str × Str)
  er : Bool
def ckOf (l : List DefR) (W : Wh) (d : DefR) : Ck := { N := d.N, sc := defScope d.st, fn := fun _ => true, fs := fsOf l, cs := W.cs, xs := [], hot := false, lm := decide (d.x ∈ W.ls), fa := W.fa, pr := prOf l, cm := cmOf l, mks := mkOf l, er := W.er }
def chkK (d : DefR) : Bool := match d.k with
  | .glob => !d.star
  | .prop c m => !d.star && decide (d.x = c ++ "." ++ m) && decide (d.F.np = 1)
  | .cls c m => !d.star && decide (d.x = c ++ "." ++ m) && decide (d.F.np = 2)
  | .init c => d.star && decide (d.x = c ++ ".__init__") && decide (d.F.np = 2)
def chkD (l : List DefR) (W : Wh) (d : DefR) : Bool := scB d.N d.ps (defScope d.st) && decide (d.N.length = d.F.ns) && decide (d.ps.length = d.F.np) && chkSs W.rs (ckOf l W d) d.F.body (defBody d.st) && chkK d
/-- how its arguments bind -/
def BindOk (d : DefR) : Prop := ∀ (kV doc pm : Value) (an : Option Addr) (cdv ct : Value), if d.star = true then
    ∀ us rest : List Value, us.length = 1 → bindArgs (PySem.W.fnOf d.nm d.x (defArgs d.st) (defBody d.st) (defScope d.st) .none kV doc pm an cdv ct) ⟨us ++ rest, []⟩ = (newTuple rest >>= fun t => pure ((d.ps.take 1).zip us ++ [(d.ps.getD 1 "", t)]))
  else ∀ us : List Value, us.length = d.ps.length → bindArgs (PySem.W.fnOf d.nm d.x (defArgs d.st) (defBody d.st) (defScope d.st) .none kV doc pm an cdv ct) ⟨us, []⟩ = pure (d.ps.zip us)
section
variable (P : Program) (w : World) (K : PySem.W.Frag) (mg : Str → Option Value)
/-- it stands at f -/
def DefR.At (d : DefR) (f : Addr) : Prop := match d.k with
  | .glob => mg d.x = some (.ref f)
  | .prop c m => ∃ C pa, mg c = some (.ref C) ∧ Cls K C ∧ PropOf K C m pa f
  | .cls c m => ∃ C mc pa, mg c = some (.ref C) ∧ PySem.W.keepIn K (.ref C) = true ∧ ClX.CRead K C mc ∧ ClX.CMet K C mc m pa f
  | .init c => ∃ C, mg c = some (.ref C) ∧ Mk K C f
abbrev DefR.Fd (d : DefR) (f : Addr) (fd : FuncData) : Prop := FunD K d.nm d.x (defArgs d.st) (defBody d.st) (defScope d.st) [] [] f fd
/-- what must be known of the module -/
structure ModOk (l : List DefR) (cons : List (Str × D)) (W : Wh) : Prop where
  fns : ∀ d ∈ l, ∃ f fd, d.At K mg f ∧ d.Fd K f fd
  blt : ∀ x ∈ bNames, mg x = none
  con : ∀ x d, (x, d) ∈ cons → ∃ v u, mg x = some u ∧ RelV v u ∧ ∀ G, RD P w K mg G v d
  exc : ∀ x ∈ W.rs, ∃ (C : Addr) (B newId initId : String) (bm : List Value), mg x = some (.ref C) ∧ ExcBaseFacts B newId initId bm ∧ PySem.W.excIn K C bm newId = true ∧ PySem.W.keepIn K (.ref C) = true ∧
    PySem.W.subIn K (.ref C) (.type "BaseException") = some true ∧ PySem.W.typeIn K (.ref C) = some (.type "type") ∧ (x == ("__debug__" : Str)) = false
  adr : ∀ d ∈ l, d.k = .glob → mg d.x = some (.ref (He.fAd K (d.x, none)))
  ref : W.ls ≠ [] ∨ W.er = true → RefF K mg
  uq : ∀ p ∈ Tk K, ∀ q ∈ Tk K, p.1 = q.1 → p.2 = q.2
  fat : ∀ p ∈ W.fa, ∃ C, mg p.1 = some (.ref C) ∧ Cls K C ∧ NoAttr K C p.2
  non : ∀ d ∈ l, d.k ≠ .glob → mg d.x = none
end
section
variable {P : Program} {w : World} {K : PySem.W.Frag} {mg : Str → Option Value} {l : List DefR} {cons : List (Str × D)} {W : Wh}
def phi (l : List DefR) (cons : List (Str × D)) (n : Nat) : Phi := ⟨callF (Gof l) (fun x => cons.lookup x) n, fun x => cons.lookup x⟩
theorem Gof_mem {d : DefR} (hn : (l.map (·.x)).Nodup) (h : d ∈ l) : Gof l d.x = some d.F := by
  unfold Gof
  have : l.find? (fun e => decide (e.x = d.x)) = some d := by
    induction l with
    | nil => cases h
    | cons a l ih =>
      rw [List.map_cons, List.nodup_cons] at hn
      rcases List.mem_cons.mp h with rfl | h
      · simp
      · have hne : a.x ≠ d.x := fun e => hn.1 (e ▸ List.mem_map_of_mem h)
        rw [List.find?_cons, decide_eq_false hne]
        exact ih hn.2 h
  rw [this]
  rfl
theorem qn (x : Str) : x ++ (".<locals>." : Str) ++ ("<lambda>" : Str) = x ++ (".<locals>.<lambda>" : Str) := by
  rw [show (".<locals>.<lambda>" : Str) = (".<locals>." : Str) ++ ("<lambda>" : Str) from by rfl]
  exact congrArg Str.mk Array.append_assoc
theorem gof_len (hno : ∀ d ∈ l, d.k ≠ .glob → mg d.x = none) {f : Str} {ds : List D} {m : Mm} {n : Nat} {a : Addr} (hm : mg f = some (.ref a)) (h : (phi l cons n).call f ds m ≠ .stuck) : (f, ds.length) ∈ fsOf l := by
  cases n with
  | zero => exact absurd rfl h
  | succ n =>
    have h : callF (Gof l) (fun x => cons.lookup x) (n + 1) f ds m ≠ .stuck := h
    unfold callF at h
    cases e : Gof l f with
    | none => rw [e] at h; exact absurd rfl h
    | some F =>
      rw [e] at h
      unfold Gof at e
      cases e2 : l.find? (fun d => decide (d.x = f)) with
      | none => rw [e2] at e; cases e
      | some d =>
        rw [e2] at e
        have e : d.F = F := by simpa using e
        have m1 := List.mem_of_find?_eq_some e2
        have m2 : d.x = f := by simpa using List.find?_some e2
        by_cases hl : ds.length = F.np
        · refine List.mem_map.mpr ⟨d, List.mem_filter.mpr ⟨m1, ?_⟩, by rw [m2, hl, e]⟩
          by_cases hk : d.k = .glob
          · exact decide_eq_true hk
          · have z := hno d m1 hk
            rw [m2, hm] at z
            cases z
        · simp only [hl, if_false] at h
          exact absurd rfl h
/-- what is let out of a call whose caller had laid a tuple ahead of it -/
theorem cx_up : StX.CXUp (L2N.CX P w) := fun fr s0 H0 s1 H1 EE u s2 un kp ho hh => by
  obtain ⟨a, Bh, Hx, cl, d, h1, h2, h3, ub, h5, h6, h7, h8⟩ := hh
  refine ⟨a, Bh, Hx, cl, d, h1, h2, h3, { keep := ?_, slot := ?_, free := ?_, there := ?_, tups := ?_, frzs := ?_, tbls := ?_ }, h5, h6.trans ho, h7, h8⟩
  · exact fun b o q z y => ub.keep b o (kp b o q) (un.free b o q z (by simp)) y
  · exact fun b o q y => ub.slot b o (kp b o q) y
  · exact fun b o q z => ub.free b o (kp b o q) (un.free b o q z (by simp))
  · exact fun b o q y => ub.there b o (kp b o q) y
  · exact fun b xs q => ub.tups b xs (un.tups b xs q)
  · exact fun b o xs q => ub.frzs b o xs (un.frzs b o xs q)
  · intro b ps q
    obtain ⟨m1, e1⟩ := un.tbls b ps q
    obtain ⟨m2, e2⟩ := ub.tbls b _ e1
    exact ⟨m1 ++ m2, by rw [e2, Array.append_assoc]⟩
/-- _law_error, in a suite -/
theorem sui_of (R : RefF K mg) : SuiOk P w K mg where
  pe := by
    obtain ⟨Ca, h1, _, ⟨CP, h2, h3⟩, _⟩ := R.cls "InvalidNet" "net" (by decide)
    refine ⟨CP, h2, fun C z Ca2 hw hm => ?_⟩
    obtain ⟨Ca', g1, _, ⟨CP', g2, g3⟩, _⟩ := R.cls C z hw
    rw [hm] at g1
    cases g1
    rw [h2] at g2
    cases g2
    exact g3
  le := by
    obtain ⟨F, pgE, bgE, sgE, NE, enE, EF⟩ := R.err
    obtain ⟨fE, fdE, mE, FE, bE⟩ := EF.fn
    refine ⟨fE, mE, FE.kp, fun X a oe pins σ H s Q C z Ca _ _ eK em hp hot room mC hw hz I tb hq => ?_⟩
    obtain ⟨Ca', g1, g2, _, g4⟩ := R.cls C z hw
    rw [mC] at g1
    cases g1
    exact run_err (X := X) (oe := oe) (a := a) eK em EF hp hot room FE bE hz hw g2 g4 I tb hq
theorem fns_ok {base : Heap} (Mo : ModOk P w K mg l cons W) (hcs : W.cs = cons.map (·.1)) (hls : ∀ x ∈ W.ls, x ∈ lamNames) (hlg : ∀ d ∈ l, d.x ∈ W.ls → d.k = .glob) (hT : ∀ x ∈ W.ls, LamX.TabB base mg (He.cT K (x, none)).1 (He.cT K (x, none)).2) (hn : (l.map (·.x)).Nodup) (hc : l.all (chkD l W) = true) (hb : ∀ d ∈ l, BindOk d) (n : Nat) :
    ∀ d ∈ l, ∀ f fd, d.At K mg f → d.Fd K f fd → (d.star = false → FnOk P w K mg base (L2N.CX P w) (4 * n) f fd d.ps (spF P w K mg (phi l cons n) d.x d.F.np)) ∧ (d.star = true → FnR P w K mg base (L2N.CX P w) (4 * n) f (spS P w K mg (phi l cons n) d.x)) := by
  induction n with
  | zero =>
    intro d hd f fd _ _
    refine ⟨fun _ => ⟨fun vs H Q E h => ?_, fun A outer s H args us vs Q E hr e0 hbn r h => ?_⟩, fun _ A outer s H us vs Q E hr e0 r h => ?_⟩
    · obtain ⟨_, _, _, _, _, _, q⟩ := h
      exact q.elim
    · obtain ⟨_, _, _, _, _, _, q⟩ := h
      exact q.elim
    · obtain ⟨x, rest, _, _, h⟩ := h
      obtain ⟨_, _, _, _, _, _, q⟩ := h _ { cls := .none, data := .plain } rfl (e0.hok.fresh (Nat.le_refl _))
      exact q.elim
  | succ n ih =>
    intro d hd f fd hf FD
    have hk := List.all_eq_true.mp hc d hd
    unfold chkD at hk
    simp only [Bool.and_eq_true, decide_eq_true_eq] at hk
    obtain ⟨⟨⟨⟨k1, k2⟩, k3⟩, k4⟩, k5⟩ := hk
    have S := sc_of k1
    have hnp : d.ps.length ≤ d.N.length := by
      have := congrArg List.length S.pre
      rw [List.length_take] at this
      omega
    obtain ⟨oc, od, dV, kV, doc, pm, an, cdv, ct, osl, rfl, lk, hcd, hdV, _⟩ := FD.ex
    have gl := fun (d' : DefR) (hd' : d' ∈ l) => Mo.fns d' hd'
    have lamok : ∀ (A : Around) (outer : List Env) (s : Shared) (H : Hp) (E : XK), d.x ∈ W.ls → LamOk K mg (cxOf (L2N.CX P w) P w K mg base d.N d.x (defScope d.st) f cdv A outer s H E) := fun A outer s H E hm => by
      have dg := hlg d hd hm
      have adr : f = He.fAd K (d.x, none) := by
        have z := Mo.adr d hd dg
        unfold DefR.At at hf
        rw [dg] at hf
        have hf : mg d.x = some (.ref f) := hf
        rw [hf] at z
        injection z with z
        injection z
      obtain ⟨cc, rfl⟩ := He.codeIn_ref hcd
      have ec : He.codeOf K (d.x, none) = cc := He.codeOf_eq (p := (d.x, none)) (by rw [← adr]; exact lk) rfl
      have tb := hT d.x hm
      rw [show (He.cT K (d.x, none)).1 = cc from ec] at tb
      have inT : ((He.cT K (d.x, none)).2, d.x ++ (".<locals>.<lambda>" : Str)) ∈ Tk K := List.mem_map.mpr ⟨d.x, List.mem_filter.mpr ⟨hls d.x hm, by
        unfold He.fnW
        rw [← adr, lk]
        rfl⟩, rfl⟩
      refine ⟨⟨cc, _, rfl, tb, ?_, fun p hp e => ?_⟩, refd_gives (K := K) (mg := mg) (X := cxOf (L2N.CX P w) P w K mg base d.N d.x (defScope d.st) f (.ref cc) A outer s H E) rfl rfl (Mo.ref (.inl fun z => by rw [z] at hm; cases hm)) _⟩
      · show (_, d.x ++ (".<locals>." : Str) ++ ("<lambda>" : Str)) ∈ Tk K
        rw [qn]
        exact inT
      · show p.2 = d.x ++ (".<locals>." : Str) ++ ("<lambda>" : Str)
        rw [qn]
        exact Mo.uq p hp _ inT e
    -- the body
    have body : ∀ (A : Around) (outer : List Env) (s : Shared) (H : Hp) (vs : List V) (Q : VK) (E : XK), Room (4 * n + 3) (A.deeper (envOfC d.x (defScope d.st) s.heap.objs.size f cdv)) → spF P w K mg (phi l cons (n + 1)) d.x d.F.np vs H Q E →
        ∃ t, PSs (cxOf (L2N.CX P w) P w K mg base d.N d.x (defScope d.st) f cdv A outer s H E) (defBody d.st) t ∧ t { nx := fun _ H' => Q .non H', rt := Q } (start d.N vs) H := by
      intro A outer s H vs Q E hr h
      refine ⟨rdSs P w K mg (phi l cons n) E d.F.body, ?_, ?_⟩
      · have CO : CtxOk P w K mg (phi l cons n) n (cxOf (L2N.CX P w) P w K mg base d.N d.x (defScope d.st) f cdv A outer s H E) (ckOf l W d) E :=
          { eP := rfl, ew := rfl, eK := rfl, em := rfl, calm := fun _ => rfl
            room := fun _ => hr.mono (by split <;> omega)
            un := (by have := hr.un; show (A.deeper (envOfC d.x (defScope d.st) s.heap.objs.size f cdv)).units + 150 < cLine; omega)
            warm := fun h => (by cases h)
            hc := fun h => (by cases h)
            hx := fun h => absurd rfl h
            N := rfl, nd := S.nd, sc := rfl, fn := fun _ _ => rfl
            tk := L2N.takes_of rfl rfl rfl rfl
            blt := Mo.blt
            con := fun x hx => ?con
            calls := fun g np hg => ?calls
            dyn := fun f ds m a hm h => gof_len Mo.non hm h
            lam := fun h => lamok A outer s H E (of_decide_eq_true h)
            sui := fun h => sui_of (Mo.ref (.inr h))
            fat := Mo.fat
            prp := fun p hp => ?prp
            cme := fun p hp => ?cme
            mak := fun x hx => ?mak }
        · refine sndSs (n := n) W.rs (ckOf l W d) d.F.body (defBody d.st) k4 _ E ⟨CO, passes_of rfl, S.kind, rfl, rfl, fun x hx hg => ?_⟩
          obtain ⟨C, B, i1, i2, bm, h1, h2, h3, h4, h5, h6, h7⟩ := Mo.exc x hx
          refine ⟨C, h1, fun m j p p2 pos => ?_⟩
          exact L2N.pmk_own h2 h3 h1 h4 (raises_own h5 h6) (show (defScope d.st).names.lookup x = _ from of_decide_eq_true hg) h7
        case con =>
          have hx : x ∈ W.cs := hx
          rw [hcs] at hx
          obtain ⟨p, hp, rfl⟩ := List.mem_map.mp hx
          cases e : cons.lookup p.1 with
          | none =>
            exfalso
            have key : ∀ (cs : List (Str × D)), p ∈ cs → cs.lookup p.1 ≠ none := by
              intro cs
              induction cs with
              | nil => intro h; cases h
              | cons a cs ih =>
                intro h
                rw [List.lookup_cons]
                cases hb : p.1 == a.1 with
                | true => simp
                | false =>
                  rcases List.mem_cons.mp h with e | h
                  · rw [e] at hb; simp at hb
                  · exact ih h
            exact key cons hp e
          | some dd =>
            obtain ⟨v, u, h1, h2, h3⟩ := Mo.con p.1 dd (PySem.mem_of_lookup e)
            exact ⟨dd, v, u, e, h1, h2, h3⟩
        case calls =>
          obtain ⟨d', hd', e⟩ := List.mem_map.mp hg
          obtain ⟨hd', hg'⟩ := List.mem_filter.mp hd'
          have hg' : d'.k = .glob := of_decide_eq_true hg'
          cases e
          obtain ⟨f', fd', h1, h2⟩ := Mo.fns d' hd'
          have hk' := List.all_eq_true.mp hc d' hd'
          unfold chkD at hk'
          simp only [Bool.and_eq_true, decide_eq_true_eq] at hk'
          have ns : d'.star = false := by
            have z := hk'.2
            unfold chkK at z
            rw [hg'] at z
            simpa using z
          have h1' : mg d'.x = some (.ref f') := by
            unfold DefR.At at h1
            rw [hg'] at h1
            exact h1
          refine ⟨f', fd', d'.ps, h1', h2.kp, hk'.1.1.2, (ih d' hd' f' fd' h1 h2).1 ns, h2.bindsN fun kV doc pm an cdv ct => ?_⟩
          have z := hb d' hd' kV doc pm an cdv ct
          rw [if_neg (by rw [ns]; exact Bool.false_ne_true)] at z
          exact z
        case prp =>
          obtain ⟨d', hd', e⟩ := List.mem_filterMap.mp hp
          obtain ⟨f', fd', h1, h2⟩ := Mo.fns d' hd'
          have hk' := List.all_eq_true.mp hc d' hd'
          unfold chkD at hk'
          simp only [Bool.and_eq_true, decide_eq_true_eq] at hk'
          have z := hk'.2
          cases ek : d'.k with
          | prop c m =>
            rw [ek] at e
            cases e
            unfold chkK at z
            rw [ek] at z
            simp only [Bool.and_eq_true, decide_eq_true_eq, Bool.not_eq_true'] at z
            obtain ⟨⟨ns, ex⟩, np⟩ := z
            have F := (ih d' hd' f' fd' h1 h2).1 ns
            rw [ex, np] at F
            unfold DefR.At at h1
            rw [ek] at h1
            obtain ⟨C, pa, g1, g2, g3⟩ := h1
            refine ⟨C, pa, f', fd', d'.ps, g1, g2, g3, F, h2.bindsN fun kV doc pm an cdv ct => ?_⟩
            have z := hb d' hd' kV doc pm an cdv ct
            rw [if_neg (by rw [ns]; exact Bool.false_ne_true)] at z
            exact z
          | _ => rw [ek] at e; cases e
        case cme =>
          obtain ⟨d', hd', e⟩ := List.mem_filterMap.mp hp
          obtain ⟨f', fd', h1, h2⟩ := Mo.fns d' hd'
          have hk' := List.all_eq_true.mp hc d' hd'
          unfold chkD at hk'
          simp only [Bool.and_eq_true, decide_eq_true_eq] at hk'
          have z := hk'.2
          cases ek : d'.k with
          | cls c m =>
            rw [ek] at e
            cases e
            unfold chkK at z
            rw [ek] at z
            simp only [Bool.and_eq_true, decide_eq_true_eq, Bool.not_eq_true'] at z
            obtain ⟨⟨ns, ex⟩, np⟩ := z
            have F := (ih d' hd' f' fd' h1 h2).1 ns
            rw [ex, np] at F
            unfold DefR.At at h1
            rw [ek] at h1
            obtain ⟨C, mc, pa, g1, g2, g3, g4⟩ := h1
            have bnd : Binds K fd' d'.ps [] := h2.bindsN fun kV doc pm an cdv ct => by
              have z := hb d' hd' kV doc pm an cdv ct
              rw [if_neg (by rw [ns]; exact Bool.false_ne_true)] at z
              exact z
            refine ⟨C, mc, pa, f', g1, g2, g3, g4, (F.raw bnd .nil).imp fun vs H Q E h => ?_⟩
            rw [List.append_nil]
            exact h
          | _ => rw [ek] at e; cases e
        case mak =>
          obtain ⟨d', hd', e⟩ := List.mem_filterMap.mp hx
          obtain ⟨f', fd', h1, h2⟩ := Mo.fns d' hd'
          have hk' := List.all_eq_true.mp hc d' hd'
          unfold chkD at hk'
          simp only [Bool.and_eq_true, decide_eq_true_eq] at hk'
          have z := hk'.2
          cases ek : d'.k with
          | init c =>
            rw [ek] at e
            cases e
            unfold chkK at z
            rw [ek] at z
            simp only [Bool.and_eq_true, decide_eq_true_eq] at z
            obtain ⟨⟨ns, ex⟩, np⟩ := z
            have F := (ih d' hd' f' fd' h1 h2).2 ns
            rw [ex] at F
            unfold DefR.At at h1
            rw [ek] at h1
            obtain ⟨C, g1, g2⟩ := h1
            exact ⟨C, f', g1, g2, F⟩
          | _ => rw [ek] at e; cases e
      · obtain ⟨G, m, ds, r, M, hl, q⟩ := h
        refine ⟨Bof G m H, G, ⟨ds.map (fun d => some (RV.v d)) ++ List.replicate (d.F.ns - d.F.np) none, m⟩, sr_start M r (by rw [k2, hl]) (by rw [hl, ← k3]; exact hnp), ?_⟩
        have q : pO P w K mg (Bof G m H) E G (callF (Gof l) (fun x => cons.lookup x) (n + 1) d.x ds m) fun r s' => ∀ v H' G', G.Le G' → SM P w K mg (Bof G m H) G' s'.mem H' → RR P w K mg (Bof G m H) G' H' r v → Q v H' := q
        unfold callF at q
        rw [Gof_mem hn hd] at q
        simp only [hl, if_true] at q
        show pO P w K mg (Bof G m H) E G (evSs (phi l cons n) d.F.body _) _
        have e0 : (⟨callF (Gof l) (fun x => cons.lookup x) n, fun x => cons.lookup x⟩ : Phi) = phi l cons n := rfl
        rw [e0] at q
        cases e : evSs (phi l cons n) d.F.body ⟨ds.map (fun d => some (RV.v d)) ++ List.replicate (d.F.ns - d.F.np) none, m⟩ with
        | stuck => rw [e] at q; exact q
        | exn cc p mm => rw [e] at q; exact q
        | ok fl s1 =>
          rw [e] at q
          have q : ∀ v H' G', G.Le G' → SM P w K mg (Bof G m H) G' s1.mem H' → RR P w K mg (Bof G m H) G' H' fl.rv v → Q v H' := q
          cases fl with
          | next => exact fun σ' H' G' l' R' => q .non H' G' l' R'.m .non
          | ret rr => exact fun v H' G' l' M' hr' => q v H' G' l' M' hr'
    refine ⟨fun ns => ?_, fun ys => ?_⟩
    · show FnOk P w K mg base (L2N.CX P w) (4 * n + 3 + 1) f _ d.ps _
      refine fn_of lk hcd S (fun vs H Q E h => ?_) body
      obtain ⟨G, m, ds, r, _, hl, _⟩ := h
      rw [r.length, hl, k3]
    · have np2 : d.F.np = 2 := by
        unfold chkK at k5
        cases ek : d.k with
        | init c => rw [ek] at k5; simp only [Bool.and_eq_true, decide_eq_true_eq] at k5; exact k5.2
        | _ => rw [ek] at k5; simp [ys] at k5
      have dVn : dV = .none := by
        rcases hdV with ⟨_, h⟩ | ⟨h, _⟩
        · exact h
        · exact absurd rfl h
      subst dVn
      have ps2 : d.ps = d.ps.take 1 ++ [d.ps.getD 1 ""] := by
        have h2 : d.ps.length = 2 := by rw [k3, np2]
        match hq : d.ps, h2 with
        | [a, b], _ => rfl
      intro A outer s H us vs Q E hr e0 r hsp
      obtain ⟨x, rest, ev, hz, hq⟩ := hsp
      subst ev
      cases r with
      | cons rx rr =>
        rename_i u1 u2
        have hn0 : H s.heap.objs.size = Option.none := e0.hok.fresh (Nat.le_refl _)
        have hl2 : u2.length ≤ sizeLine := by rw [← rr.length]; exact hz
        have bb := hb d hd kV doc pm an cdv ct
        rw [if_pos ys] at bb
        have bb := bb [u1] u2 rfl
        have z : codeAny (model P w) A (.call (.ref f) ⟨[u1] ++ u2, []⟩) (CR (L2N.CX P w) outer P w H s Q E) s := by
          refine StX.run_bnd (k := 4 * n + 3) (args := ⟨[u1] ++ u2, []⟩) lk hcd S (show Room (4 * n + 3 + 1) A from hr) e0 (G := fun xs H2 => ∃ p o, H p = Option.none ∧ o.dict = Option.none ∧ xs = [x, V.ref p] ∧ H2 = upd H p (.frz o (.tup rest))) (fun A' Ex Q' h => ?_) fun s2 H2 xs ⟨p, o, hp, ho, ex, eH⟩ hr' => ?_
          · rw [bb]
            refine wpAny_bind (wpAny_newTuple (wpAny_pure ?_) hl2)
            let ob : Obj := { cls := .type "tuple", data := .seq u2.toArray }
            have at_ : (s.heap.push ob).get? s.heap.objs.size = some ob := Heap.get?_push_size _ rfl
            have new : ObjOk P w (upd H s.heap.objs.size (.frz ob (.tup rest))) (s.heap.push ob) s.heap.objs.size (.frz ob (.tup rest)) := ⟨at_, hz, u2, rr, _, at_, rfl, _, rfl⟩
            have un := StX.un_laid (fs := frs outer) (s := s) (o := ob) (u := .frz ob (.tup rest)) hn0
            have y := h _ _ [x, V.ref s.heap.objs.size] [u1, Value.ref s.heap.objs.size] (StX.env0_laid e0 new) un rfl (fun e s' => cx_up outer s H _ _ E e s' un (fun b o q => Heap.get?_push_of_some _ q) rfl) (.cons rx (.cons rfl .nil)) (by rw [k3, np2]; rfl) ⟨_, ob, hn0, rfl, rfl, rfl⟩
            have ez : d.ps.zip [u1, Value.ref s.heap.objs.size] = (d.ps.take 1).zip [u1] ++ [(d.ps.getD 1 "", Value.ref s.heap.objs.size)] := by
              have h2 : d.ps.length = 2 := by rw [k3, np2]
              match hq : d.ps, h2 with
              | [a, b], _ => rfl
            rw [ez] at y
            exact y
          · subst ex eH
            have z := hq p o ho hp
            rw [← np2] at z
            exact body A outer s2 _ _ Q E hr' z
        exact z
end
end Pah
end
section
set_option maxHeartbeats 4000000
/-! ErrT: the term of _law_error, and what it tells. -/
namespace Pah
open PySem PySem.Spec PyProof.Rows L2
def tw (z C : Str) : Ex := .tup (.cons (.str z) (.cons (.isx C (.var 0)) .nil))
/-- e, some, word_so, good -/
def errFn : Fn := ⟨1, 4, .cons (.asg (.nm 1) (.lst (.cons (tw "net" "InvalidNet") (.cons (tw "table" "InvalidTable") .nil))))
  (.cons (.asg (.nm 1) (.bin .add (.var 1) (.lst (.cons (tw "run" "InvalidRun") (.cons (tw "claim" "InvalidClaim") .nil)))))
  (.cons (.asg (.nm 1) (.bin .add (.var 1) (.lst (.cons (tw "outcome" "InvalidOutcome") (.cons (tw "chain" "InvalidChain") .nil)))))
  (.cons (.asg (.nm 1) (.bin .add (.var 1) (.lst (.cons (tw "row" "InvalidRow") (.cons (tw "place" "InvalidPlace") .nil)))))
  (.cons (.asg (.nm 1) (.bin .add (.var 1) (.lst (.cons (tw "index" "InvalidIndex") (.cons (tw "move" "InvalidMove") .nil)))))
  (.cons (.asg (.nm 1) (.bin .add (.var 1) (.lst (.cons (tw "text" "InvalidText") (.cons (tw "undo" "NothingToUndo") .nil)))))
  (.cons (.app 1 (tw "many" "TooMany"))
  (.cons (.ret (.mth .join (.str " ") (.comp (.var 2) (.cons (.nm 2) (.cons (.nm 3) .nil)) (.el (.var 1)) (.var 3)))) .nil)))))))⟩
def wordOf : Out Fl → Option Str
  | .ok (.ret (.v (.str z))) _ => some z
  | _ => none
theorem wordOf_ok {o : Out Fl} {z : Str} (h : wordOf o = some z) : ∃ s1, o = .ok (.ret (.v (.str z))) s1 := by
  unfold wordOf at h
  split at h
  · cases h
    exact ⟨_, rfl⟩
  · cases h
theorem isx_ev {C C2 : Str} {a : Addr} {s : S} (h : s.env[0]? = some (some (.v (.exc C a)))) : evE (phiH C a) (.isx C2 (.var 0)) s = .ok (.v (.bl (exsub C C2))) s := by
  have e : (phiH C a).con "%e" = some (.exc C a) := by
    show (if ("%e" : Str) = "%e" then some (D.exc C a) else none) = _
    rw [if_pos rfl]
  show (lookV 0 s).bind _ = _
  unfold lookV
  rw [h]
  show (match RV.d (.v (.exc C a)), (phiH C a).con "%e" with
    | .exc c b, some (.exc c' b') => if c = c' ∧ b = b' then Out.ok (RV.v (D.bl (exsub c C2))) s else .stuck
    | _, _ => .stuck) = _
  rw [e]
  exact if_pos ⟨rfl, rfl⟩
theorem tw_ev {C C2 z : Str} {a : Addr} {s : S} (h : s.env[0]? = some (some (.v (.exc C a)))) : evE (phiH C a) (tw z C2) s = .ok (.v (.tup [.str z, .bl (exsub C C2)])) s := by
  show (evEs (phiH C a) (.cons (.str z) (.cons (.isx C2 (.var 0)) .nil)) s).bind _ = _
  have e : evEs (phiH C a) (.cons (.str z) (.cons (.isx C2 (.var 0)) .nil)) s = .ok [.str z, .bl (exsub C C2)] s := by
    show ((evE (phiH C a) (.isx C2 (.var 0)) s).bind _).bind _ = _
    rw [isx_ev h]
    rfl
  rw [e]
  kernel_rfl
/-- the pairs, and what is told by them -/
def prs (C : Str) : List D := [.tup [.str "net", .bl (exsub C "InvalidNet")], .tup [.str "table", .bl (exsub C "InvalidTable")], .tup [.str "run", .bl (exsub C "InvalidRun")], .tup [.str "claim", .bl (exsub C "InvalidClaim")],
  .tup [.str "outcome", .bl (exsub C "InvalidOutcome")], .tup [.str "chain", .bl (exsub C "InvalidChain")], .tup [.str "row", .bl (exsub C "InvalidRow")], .tup [.str "place", .bl (exsub C "InvalidPlace")],
  .tup [.str "index", .bl (exsub C "InvalidIndex")], .tup [.str "move", .bl (exsub C "InvalidMove")], .tup [.str "text", .bl (exsub C "InvalidText")], .tup [.str "undo", .bl (exsub C "NothingToUndo")], .tup [.str "many", .bl (exsub C "TooMany")]]
/-- the last line -/
def lastS : Sm := .ret (.mth .join (.str " ") (.comp (.var 2) (.cons (.nm 2) (.cons (.nm 3) .nil)) (.el (.var 1)) (.var 3)))
def ex0 (C : Str) (a : Addr) (ds : List D) : S := ⟨[some (.v (.exc C a)), some (.l ds), none, none], []⟩
theorem tws_ev {C C1 C2 z1 z2 : Str} {a : Addr} {s : S} (h : s.env[0]? = some (some (.v (.exc C a)))) : evE (phiH C a) (.lst (.cons (tw z1 C1) (.cons (tw z2 C2) .nil))) s = .ok (.l [.tup [.str z1, .bl (exsub C C1)], .tup [.str z2, .bl (exsub C C2)]]) s := by
  have e1 : evEs (phiH C a) (.cons (tw z1 C1) (.cons (tw z2 C2) .nil)) s = .ok [.tup [.str z1, .bl (exsub C C1)], .tup [.str z2, .bl (exsub C C2)]] s := by
    show (evE (phiH C a) (tw z1 C1) s).bind _ = _
    rw [tw_ev h]
    show ((evE (phiH C a) (tw z2 C2) s).bind _).bind _ = _
    rw [tw_ev h]
    rfl
  show (evEs (phiH C a) (.cons (tw z1 C1) (.cons (tw z2 C2) .nil)) s).bind _ = _
  rw [e1]
  exact if_pos (c := (2 ≤ lim)) (e := Out.stuck) (by unfold lim; omega)
theorem first2 {C C1 C2 z1 z2 : Str} {a : Addr} {r : Option RV} : evS (phiH C a) (.asg (.nm 1) (.lst (.cons (tw z1 C1) (.cons (tw z2 C2) .nil)))) ⟨[some (.v (.exc C a)), r, none, none], []⟩ =
    .ok .next (ex0 C a [.tup [.str z1, .bl (exsub C C1)], .tup [.str z2, .bl (exsub C C2)]]) := by
  show (evE (phiH C a) (.lst (.cons (tw z1 C1) (.cons (tw z2 C2) .nil))) _).bind _ = _
  rw [tws_ev rfl]
  rfl
theorem add2 {C C1 C2 z1 z2 : Str} {a : Addr} {ds : List D} (hl : ds.length ≤ 20) : evS (phiH C a) (.asg (.nm 1) (.bin .add (.var 1) (.lst (.cons (tw z1 C1) (.cons (tw z2 C2) .nil))))) (ex0 C a ds) =
    .ok .next (ex0 C a (ds ++ [.tup [.str z1, .bl (exsub C C1)], .tup [.str z2, .bl (exsub C C2)]])) := by
  have e3 : evE (phiH C a) (.bin .add (.var 1) (.lst (.cons (tw z1 C1) (.cons (tw z2 C2) .nil)))) (ex0 C a ds) = .ok (.l (ds ++ [.tup [.str z1, .bl (exsub C C1)], .tup [.str z2, .bl (exsub C C2)]])) (ex0 C a ds) := by
    show (((evE (phiH C a) (.lst (.cons (tw z1 C1) (.cons (tw z2 C2) .nil))) (ex0 C a ds)).bind fun x s => Out.ok x.d s).bind fun y s => (lookV 1 s).bind fun x s => Out.ok (x, y) s).bind (fun xy s => Out.of (binop .add xy.1 xy.2) s) = _
    rw [tws_ev rfl]
    show Out.of (binop .add (.lst ds) (.lst [.tup [.str z1, .bl (exsub C C1)], .tup [.str z2, .bl (exsub C C2)]])) _ = _
    rw [show binop .add (.lst ds) (.lst [.tup [.str z1, .bl (exsub C C1)], .tup [.str z2, .bl (exsub C C2)]]) = some (.l (ds ++ [.tup [.str z1, .bl (exsub C C1)], .tup [.str z2, .bl (exsub C C2)]])) from if_pos (by unfold lim; simp; omega)]
    rfl
  show (evE (phiH C a) (.bin .add (.var 1) _) _).bind _ = _
  rw [e3]
  rfl
theorem app1 {C C1 z1 : Str} {a : Addr} {ds : List D} (hl : ds.length ≤ 20) : evS (phiH C a) (.app 1 (tw z1 C1)) (ex0 C a ds) = .ok .next (ex0 C a (ds ++ [.tup [.str z1, .bl (exsub C C1)]])) := by
  show (evE (phiH C a) (tw z1 C1) (ex0 C a ds)).bind _ = _
  rw [tw_ev rfl]
  exact if_pos (c := (ds.length < lim)) (e := Out.stuck) (by unfold lim; omega)
theorem evSs_next {Φ : Phi} {st : Sm} {r : Sms} {s s1 : S} (h : evS Φ st s = .ok .next s1) : evSs Φ (.cons st r) s = evSs Φ r s1 := by
  show (evS Φ st s).bind _ = _
  rw [h]
  rfl
theorem last_ev (a : Addr) : ∀ p ∈ ([("InvalidNet", "net"), ("InvalidTable", "table"), ("InvalidRun", "run"), ("InvalidClaim", "claim"), ("InvalidOutcome", "outcome"), ("InvalidChain", "chain"), ("InvalidRow", "row"), ("InvalidPlace", "place"), ("InvalidIndex", "index"), ("InvalidMove", "move"), ("InvalidText", "text"), ("NothingToUndo", "undo")] : List (Str × Str)),
    wordOf (evSs (phiH p.1 a) (.cons lastS .nil) (ex0 p.1 a (prs p.1))) = some p.2 := by
  intro p hp
  simp only [List.mem_cons, List.not_mem_nil, or_false] at hp
  rcases hp with rfl | rfl | rfl | rfl | rfl | rfl | rfl | rfl | rfl | rfl | rfl | rfl
  all_goals kernel_rfl
theorem err_ev (C z : Str) (a : Addr) (h : errW C = some z) : ∃ s1, evSs (phiH C a) errFn.body ⟨[D.exc C a].map (fun d => some (RV.v d)) ++ List.replicate (errFn.ns - 1) none, []⟩ = .ok (.ret (.v (.str z))) s1 := by
  refine wordOf_ok ?_
  have e0 : (⟨[D.exc C a].map (fun d => some (RV.v d)) ++ List.replicate (errFn.ns - 1) none, []⟩ : S) = ⟨[some (.v (.exc C a)), none, none, none], []⟩ := rfl
  rw [e0]
  unfold errFn
  simp only
  rw [evSs_next first2, evSs_next (add2 (by simp)), evSs_next (add2 (by simp)), evSs_next (add2 (by simp)), evSs_next (add2 (by simp)), evSs_next (add2 (by simp)), evSs_next (app1 (by simp))]
  exact last_ev a (C, z) (PySem.mem_of_lookup h)
end Pah
end
section
set_option maxHeartbeats 4000000
/-! Head: what the head of a law tells of the module. -/
namespace Pah
open PySem PySem.Spec PyProof.Rows L2
/-! ### the facts -/
def strV : List Str → List Value → Bool
  | [], [] => true
  | x :: xs, .str y _ :: ys => decide (x = y) && strV xs ys
  | _, _ => false
theorem strV_ok : ∀ {xs : List Str} {us : List Value}, strV xs us = true → Vals (xs.map V.str) us
  | [], [], _ => .nil
  | x :: xs, .str y t :: ys, h => by
    simp only [strV, Bool.and_eq_true, decide_eq_true_eq] at h
    obtain ⟨rfl, h⟩ := h
    exact .cons ⟨t, rfl⟩ (strV_ok h)
  | [], _ :: _, h => by simp [strV] at h
  | _ :: _, [], h => by simp [strV] at h
  | x :: xs, .none :: ys, h => by simp [strV] at h
/-- the module's name x holds a tuple of these texts -/
def tupC (x : Str) (zs : List Str) (K : PySem.W.Frag) : Bool := match K.lookup (He.ga K x) with
  | some ⟨.type c, none, .seq its _, _⟩ => decide (c = "tuple") && decide (its.size ≤ sizeLine) && strV zs its.toList
  | _ => false
theorem tupC_ok {x : Str} {zs : List Str} {K : PySem.W.Frag} (h : tupC x zs K = true) (H : Hp) : TupN K H (He.ga K x) (zs.map V.str) := by
  unfold tupC at h
  cases q : K.lookup (He.ga K x) with
  | none => rw [q] at h; cases h
  | some o =>
    obtain ⟨oc, od, dt, osl⟩ := o
    rw [q] at h
    cases oc with
    | type c =>
      cases od with
      | none =>
        cases dt with
        | seq its n =>
          simp only [Bool.and_eq_true, decide_eq_true_eq] at h
          exact .inr ⟨_, its, n, q, congrArg Value.type h.1.1, rfl, rfl, h.1.2, strV_ok h.2⟩
        | _ => cases h
      | some a => cases dt <;> cases h
    | _ => cases od <;> cases dt <;> cases h
/-- the facts that a table of defs wants -/
def atOf (d : DefR) : PySem.W.Frag → Addr := match d.k with
  | .glob => fun K => He.fAd K (d.x, none)
  | .prop c m => fun K => He5.wf K (He.ga K c) "property" m
  | .cls c m => fun K => He5.wf K (He.ga K c) "classmethod" m
  | .init c => fun K => He.ma K (He.ga K c) "__init__"
def defOf (d : DefR) : He5.DefA := { at_ := atOf d, name := d.nm, qual := d.x, params := defArgs d.st, body := defBody d.st, scope := defScope d.st }
def faK (d : DefR) : List He.Fa := match d.k with
  | .glob => [.glo d.x]
  | .prop c _ => [.free d.x, .glo c, .cls c]
  | .cls c _ => [.free d.x, .glo c, .keep c]
  | .init c => [.free d.x, .glo c, .mkr c]
/-- a property as a class has it -/
def propB (K : PySem.W.Frag) (C : Addr) (m : Str) : Bool := He.eqO (PySem.W.findIn K (.ref C) m) (some (some (.ref (He.ma K C m)))) && He.eqO (PySem.W.specialIn K (.ref (He.ma K C m)) "__get__") (some (some (.builtin "property.__get__"))) &&
  decide (PySem.W.takesIn K (.ref (He.ma K C m)) = some true) && (match PySem.W.recIn K (He.ma K C m) "property" with
    | some (.ref _ :: _) => true
    | _ => false)
theorem propB_ok {K : PySem.W.Frag} {C : Addr} {m : Str} (h : propB K C m = true) : PropOf K C m (He.ma K C m) (He5.wf K C "property" m) := by
  unfold propB at h
  simp only [Bool.and_eq_true, decide_eq_true_eq] at h
  obtain ⟨⟨⟨h1, h2⟩, h3⟩, h4⟩ := h
  refine ⟨He.eqO_ok h1, He.eqO_ok h2, h3, ?_⟩
  unfold He5.wf
  split at h4
  · rename_i a r e
    exact ⟨r, by rw [e]⟩
  · cases h4
def creadB (K : PySem.W.Frag) (C : Addr) : Bool := PySem.W.readsIn K C (.type "type") && He.eqO (PySem.W.specialIn K (.ref C) "__getattribute__") (some (some (.builtin "type.__getattribute__")))
theorem creadB_ok {K : PySem.W.Frag} {C : Addr} (h : creadB K C = true) : ClX.CRead K C (.type "type") := by
  obtain ⟨h1, h2⟩ := He.ba h
  exact ⟨h1, He.eqO_ok h2⟩
def kindB (K : PySem.W.Frag) (d : DefR) : Bool := match d.k with
  | .prop c m => propB K (He.ga K c) m
  | .cls c m => creadB K (He.ga K c) && (He5.wrapB K (He.ga K c) "classmethod" "classmethod.__get__" m && PySem.W.fnIn K (He5.wf K (He.ga K c) "classmethod" m))
  | _ => true
def faOf (l : List DefR) (nums : List (Str × Int)) (tups : List (Str × List Str)) (W : Wh) : List He.Fa :=
  l.flatMap faK ++ bNames.map .free ++ nums.map (fun p => .int p.1 p.2) ++ tups.map (fun p => .glo p.1) ++ W.rs.map .glo ++ W.rs.map .exc ++ W.fa.flatMap fun p => [.glo p.1, .cls p.1, .noat p.1 p.2]
def consOf (nums : List (Str × Int)) (tups : List (Str × List Str)) (fns : List Str) : List (Str × D) := nums.map (fun p => (p.1, D.int p.2)) ++ tups.map (fun p => (p.1, D.tup (p.2.map .str))) ++ fns.map fun x => (x, D.fn x)
theorem rds_strs {P : Program} {w : World} {K : PySem.W.Frag} {mg : Str → Option Value} {G : Gh} : ∀ zs : List Str, RDs P w K mg G (zs.map V.str) (zs.map D.str)
  | [] => .nil
  | z :: zs => .cons (.str z) (rds_strs zs)
/-! ### what _law_refused and _law_error want -/
def errPs : List (Str × Str) := [("InvalidNet", "net"), ("InvalidTable", "table"), ("InvalidRun", "run"), ("InvalidClaim", "claim"), ("InvalidOutcome", "outcome"), ("InvalidChain", "chain"), ("InvalidRow", "row"), ("InvalidPlace", "place"), ("InvalidIndex", "index"), ("InvalidMove", "move"), ("InvalidText", "text"), ("NothingToUndo", "undo")]
theorem errPs_of {C z : Str} (h : errW C = some z) : (C, z) ∈ errPs := PySem.mem_of_lookup h
def excB (K : PySem.W.Frag) (D : Addr) : Bool := decide (PySem.W.findIn K (.ref D) "__getattribute__" = some (some (.builtin "BaseException.__getattribute__"))) && decide (PySem.W.findIn K (.ref D) "__getattr__" = some none) && decide (PySem.W.subIn K (.ref D) (.type "BaseException") = some true) &&
  decide (PySem.W.hasDictIn K D = true) && decide (PySem.W.findIn K (.ref D) "__class__" = some (some (.builtin "object.__class__"))) && decide (PySem.W.specialIn K (.builtin "object.__class__") "__get__" = some (some (.builtin "getset_descriptor.__get__"))) &&
  decide (PySem.W.takesIn K (.builtin "object.__class__") = some true) && decide (PySem.W.mroIn K D (.type "object") = some true)
theorem excB_ok {K : PySem.W.Frag} {D : Addr} (h : excB K D = true) : ExcC K D := by
  unfold excB at h
  simp only [Bool.and_eq_true, decide_eq_true_eq] at h
  obtain ⟨⟨⟨⟨⟨⟨⟨h1, h2⟩, h3⟩, h4⟩, h5⟩, h6⟩, h7⟩, h8⟩ := h
  exact ⟨h1, h2, h3, h4, h5, h6, h7, h8⟩
def clsB (K : PySem.W.Frag) : Bool := errPs.all fun p => excB K (He.ga K p.1) && decide (PySem.W.exmOne K (.ref (He.ga K p.1)) (.ref (He.ga K "PassError")) = some true) &&
  errCs.all fun C2 => decide (PySem.W.kitOne K (.ref (He.ga K p.1)) (.ref (He.ga K C2)) = some (exsub p.1 C2))
def refNames : List Str := "PassError" :: errCs
theorem cls_f {K : PySem.W.Frag} {mg : Str → Option Value} (g : ∀ x ∈ refNames, mg x = some (.ref (He.ga K x))) (h : clsB K = true) : ClsF K mg := fun C z hw => by
  have hp := errPs_of hw
  have h := List.all_eq_true.mp h _ hp
  simp only [Bool.and_eq_true, decide_eq_true_eq, List.all_eq_true] at h
  obtain ⟨⟨h1, h2⟩, h3⟩ := h
  have inC : ∀ p ∈ errPs, p.1 ∈ refNames := by decide +kernel
  exact ⟨_, g C (inC _ hp), excB_ok h1, ⟨_, g _ List.mem_cons_self, h2⟩, fun C2 h2 => ⟨_, g C2 (List.mem_cons_of_mem _ h2), h3 C2 h2⟩⟩
/-- the form of _law_refused -/
def refSh : List Stmt → Option (Str × Str)
  | [.Try [.Expr (.Call (.Name a _) [] [] _) _] [.ExceptHandler (some (.Name pe _)) (some e) [.Return (some (.Call (.Name le _) [.Name e2 _] [] _)) _] _] [] [] _, .Return (some (.Constant (.str z) _ _)) _] =>
    if pe = "PassError" ∧ le = "_law_error" ∧ e2 = e ∧ z = "" then some (a, e) else none
  | _ => none
theorem refSh_ok {b : List Stmt} {a e : Str} (h : refSh b = some (a, e)) : ∃ (j : Nat) (p1 p2 p3 p4 p5 p6 p7 p8 p9 p10 p11 p12 : Pos),
    b = [.Try [.Expr (.Call (.Name a p1) [] [] p2) p3] [.ExceptHandler (some (.Name "PassError" p4)) (some e) [.Return (some (.Call (.Name "_law_error" p5) [.Name e p6] [] p7)) p8] p9] [] [] p10, .Return (some (.Constant (.str "") j p11)) p12] := by
  unfold refSh at h
  split at h
  · split at h
    · rename_i hc
      obtain ⟨rfl, rfl, rfl, rfl⟩ := hc
      cases h
      exact ⟨_, _, _, _, _, _, _, _, _, _, _, _, _, rfl⟩
    · cases h
  · cases h
/-- the two defs' texts: re, er -/
def refB (re er : Stmt) : Bool := match refSh (defBody re) with
  | some (a, e) => scB [a, e] [a] (defScope re) && decide ((defArgs re).args.map (·.arg) = [a]) && (defArgs re).vararg.isNone && (defArgs er).vararg.isNone && decide ((defScope re).names.lookup e = some .local) && decide ((defScope re).names.lookup ("PassError" : Str) = some .globalImplicit) && decide ((defScope re).names.lookup ("_law_error" : Str) = some .globalImplicit) && okName a && okName e &&
      (match (defArgs er).args.map (·.arg) with
      | [en] => scB [en, "some", "word_so", "good"] [en] (defScope er) && chkSs [] (ckH [en, "some", "word_so", "good"] (defScope er)) errFn.body (defBody er)
      | _ => false)
  | none => false
def auxOf (re er : Stmt) : List DefR := [{ x := "_law_refused", st := re, F := errFn, N := [] }, { x := "_law_error", st := er, F := errFn, N := [] }]
theorem ref_f {K : PySem.W.Frag} {mg : Str → Option Value} {re er : Stmt} (h : refB re er = true) (hb : ∀ d ∈ auxOf re er, BindOk d) (hc : ClsF K mg) (blt : ∀ y ∈ bNames, mg y = none)
    (hd : ∀ d ∈ auxOf re er, ∃ f fd, mg d.x = some (.ref f) ∧ d.Fd K f fd) : RefF K mg := by
  unfold refB at h
  cases hs : refSh (defBody re) with
  | none => rw [hs] at h; cases h
  | some ae =>
    obtain ⟨a, e⟩ := ae
    rw [hs] at h
    simp only [Bool.and_eq_true, decide_eq_true_eq] at h
    obtain ⟨⟨⟨⟨⟨⟨⟨⟨⟨h1, h2⟩, hv1⟩, hv2⟩, h3⟩, h4⟩, h5⟩, h6⟩, h7⟩, h8⟩ := h
    have Sg := sc_of h1
    have sv1 : (defArgs re).vararg = none := by simpa using hv1
    have sv2 : (defArgs er).vararg = none := by simpa using hv2
    obtain ⟨g, fd, mg1, F1⟩ := hd _ List.mem_cons_self
    obtain ⟨g2, fd2, mg2, F2⟩ := hd _ (List.mem_cons_of_mem _ List.mem_cons_self)
    have b1 : Binds K fd ((defArgs re).args.map (·.arg)) [] := F1.bindsN fun kV doc pm an cdv ct us hl => by
      have z := hb _ List.mem_cons_self kV doc pm an cdv ct
      rw [if_neg (by show ¬ (defArgs re).vararg.isSome = true; rw [sv1]; exact Bool.false_ne_true)] at z
      have e : DefR.ps { x := "_law_refused", st := re, F := errFn, N := [] } = (defArgs re).args.map (·.arg) := by
        show (defArgs re).args.map (·.arg) ++ (defArgs re).vararg.toList.map (·.arg) = _
        rw [sv1]; simp
      rw [e] at z
      exact z us hl
    have b2 : Binds K fd2 ((defArgs er).args.map (·.arg)) [] := F2.bindsN fun kV doc pm an cdv ct us hl => by
      have z := hb _ (List.mem_cons_of_mem _ List.mem_cons_self) kV doc pm an cdv ct
      rw [if_neg (by show ¬ (defArgs er).vararg.isSome = true; rw [sv2]; exact Bool.false_ne_true)] at z
      have e : DefR.ps { x := "_law_error", st := er, F := errFn, N := [] } = (defArgs er).args.map (·.arg) := by
        show (defArgs er).args.map (·.arg) ++ (defArgs er).vararg.toList.map (·.arg) = _
        rw [sv2]; simp
      rw [e] at z
      exact z us hl
    obtain ⟨j, p1, p2, p3, p4, p5, p6, p7, p8, p9, p10, p11, p12, eb⟩ := refSh_ok hs
    refine ⟨hc, ?_, ⟨g, fd, defArgs re, defScope re, a, e, j, p1, p2, p3, p4, p5, p6, p7, p8, p9, p10, p11, p12, mg1, by rw [← eb]; exact F1, ?_, Sg, ?_, h3, h4, h5, h6, h7⟩⟩
    · split at h8
      · rename_i en he
        simp only [Bool.and_eq_true] at h8
        exact ⟨errFn, defArgs er, defBody er, defScope er, _, en, ⟨⟨g2, fd2, mg2, F2, by rw [← he]; exact b2⟩, sc_of h8.1, rfl, h8.2, fun C z a hw => err_ev C z a hw, blt⟩⟩
      · cases h8
    · rw [← h2]; exact b1
    · rcases Sg.par a List.mem_cons_self with z | z
      · exact .inl z
      · exact .inr (.inl z)
/-- further facts -/
def moreB (l : List DefR) (tups : List (Str × List Str)) (tn : List Str) (cl : Bool) (K : PySem.W.Frag) : Bool := (tups.all fun p => tupC p.1 p.2 K) && (lamNames.all fun x => decide ((He.fnW K (x, none)).isSome = decide (x ∈ tn))) && ((Tk K).all fun p => (Tk K).all fun q => decide (p.1 = q.1 → p.2 = q.2)) && (!cl || clsB K) && l.all (kindB K)
theorem tk_mem {l : List DefR} {tups : List (Str × List Str)} {tn : List Str} {cl : Bool} {K : PySem.W.Frag} (h : moreB l tups tn cl K = true) {p : Addr × Str} (hp : p ∈ Tk K) : ∃ x ∈ tn, p.1 = (He.cT K (x, none)).2 := by
  unfold moreB at h
  simp only [Bool.and_eq_true, List.all_eq_true, decide_eq_true_eq] at h
  obtain ⟨x, hx, rfl⟩ := List.mem_map.mp hp
  obtain ⟨hx, hs⟩ := List.mem_filter.mp hx
  have z := h.1.1.1.2 x hx
  rw [hs] at z
  exact ⟨x, of_decide_eq_true z.symm, rfl⟩
/-! ### the hook: facts, defs wherever they stand, further facts, tables of code objects -/
abbrev AlY : Type := He.AlD × Bool
def obsK (fa : List He.Fa) (fn : List He5.DefA) (K : PySem.W.Frag) : He.AlD := ((fa.all fun f => f.ok K) && fn.all fun d => d.ok K, fn.map fun d => He5.fnA K (d.at_ K))
def fragY (n : Nat) (g : Addr → Option Obj) : PySem.W.Frag := He.frT g (He5.asA g n)
def obsY (n : Nat) (fa : List He.Fa) (fn : List He5.DefA) (tf : List He.Defn) (ex : PySem.W.Frag → Bool) (g : Addr → Option Obj) : AlY := (obsK fa fn (fragY n g), ex (fragY n g) && He.tabsB g tf (fragY n g))
def valY (fn : List He5.DefA) : AlY := ((true, fn.map He5.DefA.val), true)
structure SaysY (fa : List He.Fa) (fn : List He5.DefA) (tf : List He.Defn) (ex : PySem.W.Frag → Bool) (h : Heap) (K : PySem.W.Frag) : Prop where
  facts : ∀ f ∈ fa, f.ok K = true
  defs : ∀ d ∈ fn, ∃ fd, FunD K d.name d.qual d.params d.body d.scope (d.dvs K) (d.kws K) (d.at_ K) fd
  more : ex K = true
  hd : ∀ p ∈ tf, PySem.W.codeHdIn K (He.cT K p).1 (He.cT K p).2 = true
  out : ∀ p ∈ tf, K.lookup (He.cT K p).2 = none
  empty : ∀ p ∈ tf, h.get? (He.cT K p).2 = some { cls := .none, data := .fields #[] }
theorem saysY_of {n : Nat} {fa : List He.Fa} {fn : List He5.DefA} {tf : List He.Defn} {ex : PySem.W.Frag → Bool} {h : Heap} (e : obsY n fa fn tf ex h.get? = valY fn) : SaysY fa fn tf ex h (fragY n h.get?) := by
  have e1 : obsK fa fn (fragY n h.get?) = (true, fn.map He5.DefA.val) := congrArg (fun z : AlY => z.1) e
  have e2 : (ex (fragY n h.get?) && He.tabsB h.get? tf (fragY n h.get?)) = true := congrArg (fun z : AlY => z.2) e
  have e3 : ((fa.all fun f => f.ok (fragY n h.get?)) && fn.all fun d => d.ok (fragY n h.get?)) = true := congrArg (fun z : He.AlD => z.1) e1
  have e4 : fn.map (fun d => He5.fnA (fragY n h.get?) (d.at_ (fragY n h.get?))) = fn.map He5.DefA.val := congrArg (fun z : He.AlD => z.2) e1
  obtain ⟨m1, m2⟩ := He.ba e2
  obtain ⟨f1, f2⟩ := He.ba e3
  have tab : ∀ p ∈ tf, PySem.W.codeHdIn (fragY n h.get?) (He.cT (fragY n h.get?) p).1 (He.cT (fragY n h.get?) p).2 = true ∧ ∃ o, h.get? (He.cT (fragY n h.get?) p).2 = some o ∧ He.emptyTab o = true := fun p hp => by
    obtain ⟨a, b⟩ := He.ba (List.all_eq_true.mp m2 p hp)
    refine ⟨a, ?_⟩
    split at b
    · rename_i o q
      exact ⟨o, q, b⟩
    · cases b
  refine ⟨fun f hf => List.all_eq_true.mp f1 f hf, fun d hd => ?_, m1, fun p hp => (tab p hp).1, fun p hp => ?_, fun p hp => ?_⟩
  · obtain ⟨i, hi, ei⟩ := List.mem_iff_getElem.mp hd
    have q : fn[i]? = some d := by rw [List.getElem?_eq_getElem hi, ei]
    have z := congrArg (fun l => l[i]?) e4
    simp only [List.getElem?_map, q, Option.map_some, Option.some.injEq] at z
    exact He5.DefA.funD z (List.all_eq_true.mp f2 d hd)
  · obtain ⟨_, o, q, z⟩ := tab p hp
    exact He.frT_none q z
  · obtain ⟨_, o, q, z⟩ := tab p hp
    rw [q, He.emptyTab_eq z]
def hookY (n : Nat) (fa : List He.Fa) (fn : List He5.DefA) (tf : List He.Defn) (ex : PySem.W.Frag → Bool) : PySem.W.Hook where
  α := AlY
  obs := fun s => obsY n fa fn tf ex s.heap.get?
  val := fun _ => valY fn
  says := fun _ h => ∃ K : PySem.W.Frag, K.In h ∧ SaysY fa fn tf ex h K
  of := fun _ _ e => ⟨_, He.frT_in, saysY_of e⟩
  keeps := fun _ _ _ ⟨K, hK, c⟩ k => ⟨K, PySem.W.Frag.In.keeps hK k, ⟨c.facts, c.defs, c.more, c.hd, c.out, fun p hp => k _ _ (c.empty p hp)⟩⟩
theorem obsY_eq {n : Nat} {fa : List He.Fa} {fn : List He5.DefA} {tf : List He.Defn} {ex : PySem.W.Frag → Bool} {g : Addr → Option Obj} {s : Shared} (h : ∀ a, g a = s.heap.get? a) : obsY n fa fn tf ex g = (hookY n fa fn tf ex).obs s := by
  rw [show g = s.heap.get? from funext h]
  rfl
theorem mod_ok {P : Program} {w : World} {K : PySem.W.Frag} {h : Heap} {mg : Str → Option Value} {l : List DefR} {nums : List (Str × Int)} {tups : List (Str × List Str)} {fns tn : List Str} {W : Wh} {fa : List He.Fa} {fn : List He5.DefA} {tf : List He.Defn} {ex : PySem.W.Frag → Bool} {cl : Bool} (X : K.In h) (G : h.Ns mainGlobals mg)
    (c2 : SaysY fa fn tf ex h K) (hfa : ∀ f ∈ faOf l nums tups W, f ∈ fa) (hfn : ∀ d ∈ l, defOf d ∈ fn) (hm : moreB l tups tn cl K = true) (hrs : W.rs.all (fun x => !(x == ("__debug__" : Str))) = true) (hfs : fns.all (fun x => l.any fun d => decide (d.x = x) && decide (d.k = .glob)) = true) (href : W.ls ≠ [] ∨ W.er = true → RefF K mg) : ModOk P w K mg l (consOf nums tups fns) W := by
  unfold moreB at hm
  simp only [Bool.and_eq_true, List.all_eq_true, decide_eq_true_eq] at hm
  obtain ⟨⟨⟨⟨c1, _⟩, uq⟩, _⟩, kd⟩ := hm
  have fact : ∀ f ∈ faOf l nums tups W, f.ok K = true := fun f hf => c2.facts f (hfa f hf)
  have factK : ∀ d ∈ l, ∀ f ∈ faK d, f.ok K = true := fun d hd f hf => fact f (by unfold faOf; simp only [List.mem_append, List.mem_flatMap]; exact .inl (.inl (.inl (.inl (.inl (.inl ⟨d, hd, hf⟩))))))
  have glo : ∀ d ∈ l, d.k = .glob → mg d.x = some (.ref (He.ga K d.x)) := fun d hd hk => He.glo_ok X G (factK d hd _ (by unfold faK; rw [hk]; exact List.mem_cons_self))
  refine ⟨fun d hd => ?_, fun x hx => ?_, fun x d hd => ?_, fun x hx => ?_, glo, href, fun p hp q hq e => uq p hp q hq e, fun p hp => ?_, fun d hd hk => ?_⟩
  · obtain ⟨fd, F⟩ := c2.defs _ (hfn d hd)
    refine ⟨atOf d K, fd, ?_, F⟩
    have kb := kd d hd
    have fk := factK d hd
    unfold DefR.At
    unfold atOf
    unfold kindB at kb
    unfold faK at fk
    cases ek : d.k with
    | glob => exact glo d hd ek
    | prop c m =>
      rw [ek] at kb fk
      exact ⟨_, _, He.glo_ok X G (fk (.glo c) (by simp)), He.cls_ok (fk (.cls c) (by simp)), propB_ok kb⟩
    | cls c m =>
      rw [ek] at kb fk
      simp only [Bool.and_eq_true] at kb
      exact ⟨_, _, _, He.glo_ok X G (fk (.glo c) (by simp)), He.keep_ok (fk (.keep c) (by simp)), creadB_ok kb.1, He5.cmet_of kb.2.1 kb.2.2⟩
    | init c =>
      rw [ek] at fk
      exact ⟨_, He.glo_ok X G (fk (.glo c) (by simp)), He.mkr_ok (fk (.mkr c) (by simp))⟩
  · exact He.free_ok X G (fact (.free x) (by unfold faOf; simp only [List.mem_append, List.mem_map]; exact .inl (.inl (.inl (.inl (.inl (.inr ⟨x, hx, rfl⟩)))))))
  · unfold consOf at hd
    rcases List.mem_append.mp hd with hd | hd
    rcases List.mem_append.mp hd with hd | hd
    · obtain ⟨p, hp, e⟩ := List.mem_map.mp hd
      cases e
      obtain ⟨t, e⟩ := He.int_ok X G (fact (.int p.1 p.2) (by unfold faOf; simp only [List.mem_append, List.mem_map]; exact .inl (.inl (.inl (.inl (.inr ⟨p, hp, rfl⟩))))))
      exact ⟨.int p.2, _, e, ⟨t, rfl⟩, fun _ => .int _⟩
    · obtain ⟨p, hp, e⟩ := List.mem_map.mp hd
      cases e
      have g := He.glo_ok X G (fact (.glo p.1) (by unfold faOf; simp only [List.mem_append, List.mem_map]; exact .inl (.inl (.inl (.inr ⟨p, hp, rfl⟩)))))
      exact ⟨.ref _, _, g, rfl, fun G => .tup (tupC_ok (c1 p hp) G.I) (rds_strs _)⟩
    · obtain ⟨y, hy, e⟩ := List.mem_map.mp hd
      injection e with e1 e2
      subst e1 e2
      have z := List.all_eq_true.mp hfs y hy
      obtain ⟨dd, hdd, e⟩ := List.any_eq_true.mp z
      simp only [Bool.and_eq_true, decide_eq_true_eq] at e
      obtain ⟨e, ek⟩ := e
      subst e
      obtain ⟨fd, F⟩ := c2.defs _ (hfn dd hdd)
      have ea : atOf dd K = He.ga K dd.x := by unfold atOf; rw [ek]; rfl
      have F : FunD K dd.nm dd.x (defArgs dd.st) (defBody dd.st) (defScope dd.st) [] [] (atOf dd K) fd := F
      rw [ea] at F
      exact ⟨.ref _, _, glo dd hdd ek, rfl, fun G => .fn (glo dd hdd ek) F.kp⟩
  · have g := He.glo_ok X G (fact (.glo x) (by unfold faOf; simp only [List.mem_append, List.mem_map]; exact .inl (.inl (.inr ⟨x, hx, rfl⟩))))
    obtain ⟨e1, e2, e3, e4⟩ := He.exc_ok (fact (.exc x) (by unfold faOf; simp only [List.mem_append, List.mem_map]; exact .inl (.inr ⟨x, hx, rfl⟩)))
    have nd := List.all_eq_true.mp hrs x hx
    exact ⟨_, _, _, _, _, g, PySem.F.excBase_ValueError, e1, e2, e3, e4, by simpa using nd⟩
  · have f3 : ∀ f ∈ ([.glo p.1, .cls p.1, .noat p.1 p.2] : List He.Fa), f.ok K = true := fun f hf => fact f (by unfold faOf; simp only [List.mem_append, List.mem_flatMap]; exact .inr ⟨p, hp, hf⟩)
    exact ⟨_, He.glo_ok X G (f3 (.glo p.1) (by simp)), He.cls_ok (f3 (.cls p.1) (by simp)), He.noat_ok (f3 (.noat p.1 p.2) (by simp))⟩
  · have fk := factK d hd
    unfold faK at fk
    cases ek : d.k with
    | glob => exact absurd ek hk
    | _ =>
      rw [ek] at fk
      exact He.free_ok X G (fk (.free d.x) (by simp))
end Pah
end
section
set_option maxHeartbeats 4000000
/-! Fin: a law holds where its evaluation is True. -/
namespace Pah
open PySem PySem.Spec PyProof.Rows L2
section
variable {P : Program} {w : World} {K : PySem.W.Frag} {mg : Str → Option Value} {base : Heap}
/-- nothing is let out -/
theorem fn_cx0 {k : Nat} {f : Addr} {fd : FuncData} {ps : List Str} {sp : Sp} (F : FnOk P w K mg base (L2N.CX P w) k f fd ps sp) : FnOk P w K mg base CX0 k f fd ps (fun vs H Q _ => sp vs H Q E0) := by
  refine ⟨fun vs H Q E h => F.len vs H Q _ h, fun A outer s H args us vs Q E hr e0 hb r h => codeAny_mono (F.run A outer s H args us vs Q E0 hr e0 hb r h) fun rr s' hq => ?_⟩
  cases rr with
  | error e =>
    obtain ⟨_, _, _, _, _, _, _, _, _, _, _, _, z⟩ := hq
    exact z.elim
  | ok fl =>
    cases fl with
    | ret u => exact hq
    | next => exact hq
    | brk => exact hq
    | cont => exact hq
theorem rds_ints {G : Gh} : ∀ ns : List Int, RDs P w K mg G (ns.map V.int) (ns.map D.int)
  | [] => .nil
  | z :: zs => .cons (.int z) (rds_ints zs)
/-- the script -/
def noTb (H : Hp) : Hp := fun a => match H a with
  | some (.tbl _) => none
  | o => o
theorem noTb_some {H : Hp} {a : Addr} {o : HO} (h : noTb H a = some o) : H a = some o ∧ ∀ ps, o ≠ .tbl ps := by
  unfold noTb at h
  split at h
  · cases h
  · rename_i hn
    exact ⟨h, fun ps z => hn ps (by rw [h, z])⟩
theorem noTb_eq {H : Hp} {a : Addr} {o : HO} (h : H a = some o) (n : ∀ ps, o ≠ .tbl ps) : noTb H a = some o := by
  unfold noTb
  split
  · rename_i ps e
    rw [h] at e
    exact absurd (Option.some.inj e) (n ps)
  · exact h
theorem sq_noTb {H : Hp} {a : Addr} {xs : List V} (h : SqL K H a xs) : SqL K (noTb H) a xs := by
  rcases h with (h | ⟨o, h⟩) | h
  · exact .inl (.inl (noTb_eq h fun ps z => nomatch z))
  · exact .inl (.inr ⟨o, noTb_eq h fun ps z => nomatch z⟩)
  · exact .inr h
theorem sm_script {H : Hp} (t : LamX.Tabs (Tk K) H) : SM P w K mg (Bof ⟨noTb H, []⟩ [] H) ⟨noTb H, []⟩ [] H :=
  ⟨fun _ _ e => (noTb_some e).1, rfl, fun j ds e _ => (by simp at e), fun a h => (nomatch h), List.nodup_nil, .rfl, fun _ _ e _ => e, fun a h => (by
    rcases h with ⟨j, ds, e, _, _⟩ | ⟨ps, e⟩
    · simp at e
    · rw [e]; exact fun z => nomatch z), fun a h => .inl h, fun a h => (nomatch h), fun a h => .inl (.inl h), t, fun a ps h => .inr ⟨ps, h⟩, fun a ps h => (noTb_some h).2 ps rfl⟩
theorem sp_script {l : List DefR} {cons : List (Str × D)} {n : Nat} {x : Str} {H : Hp} {a : Addr} {ns : List Int} {s' : S} (t : LamX.Tabs (Tk K) H) (h : SqL K H a (ns.map V.int)) (e : callF (Gof l) (fun x => cons.lookup x) n x [.lst (ns.map .int)] [] = .ok (.v (.bl true)) s') :
    spF P w K mg (phi l cons n) x 1 [.ref a] H (fun v _ => v = .bl true) E0 := by
  refine ⟨⟨noTb H, []⟩, [], [.lst (ns.map .int)], .cons (.lst (sq_noTb h) (rds_ints ns)) .nil, sm_script t, rfl, ?_⟩
  show pO P w K mg _ E0 _ (callF (Gof l) (fun x => cons.lookup x) n x [.lst (ns.map .int)] []) _
  rw [e]
  intro v H' G' _ _ hr
  have hr : RD P w K mg G' v (.bl true) := hr
  exact hr.bl_inv
end
def refAll : List Str := "_law_refused" :: "_law_error" :: refNames
/-- the facts that a law's head must tell; re, er: the texts of _law_refused and _law_error, where cl -/
def faAll (l : List DefR) (nums : List (Str × Int)) (tups : List (Str × List Str)) (W : Wh) (cl : Bool) : List He.Fa := faOf l nums tups W ++ if cl = true then refAll.map .glo else []
def auxAll (cl : Bool) (re er : Stmt) : List DefR := if cl = true then auxOf re er else []
def hookL (n : Nat) (l : List DefR) (nums : List (Str × Int)) (tups : List (Str × List Str)) (W : Wh) (tn : List Str) (cl : Bool) (re er : Stmt) : PySem.W.Hook := hookY n (faAll l nums tups W cl) ((l ++ auxAll cl re er).map defOf) (tn.map fun x => (x, none)) (moreB l tups tn cl)
/-- THE END: the walk of a law's row -/
theorem walk_law {l : PySem.W.OpenLaw} {q : Program} {loose : List Str} {XP : (Str → Option Value) → Heap → Prop} {d : DefRec} {tab : List DefR} {nums : List (Str × Int)} {tups : List (Str × List Str)} {fns tn : List Str} {W : Wh} {cl : Bool} {re er : Stmt} {hn : Nat} (N : Nat) (dl : DefR)
    (hm : l.most = some 63) (hdf : d.params.defaults = []) (hr : Room (4 * N) callerA) (hdn : d.name = dl.x) (hdl : dl ∈ tab) (hdk : dl.k = .glob) (hps : dl.ps = [("script" : Str)]) (hnp : dl.F.np = 1) (hnd : (tab.map (·.x)).Nodup)
    (hcs : W.cs = (consOf nums tups fns).map (·.1)) (hc : tab.all (chkD tab W) = true) (hb : ∀ d ∈ tab ++ auxAll cl re er, BindOk d) (hrs : W.rs.all (fun x => !(x == ("__debug__" : Str))) = true)
    (hfs : fns.all (fun x => tab.any fun d => decide (d.x = x) && decide (d.k = .glob)) = true) (hls : W.ls.all (fun x => decide (x ∈ lamNames) && decide (x ∈ tn) && cl) = true) (her : (!W.er || cl) = true) (hlg : tab.all (fun d => !decide (d.x ∈ W.ls) || decide (d.k = .glob)) = true) (href : (!cl || refB re er) = true)
    (hlaw : ∀ ns : List Int, ns.length ≤ 63 → ∃ s', callF (Gof tab) (fun x => (consOf nums tups fns).lookup x) N dl.x [.lst (ns.map .int)] [] = .ok (.v (.bl true)) s') :
    PySem.W.WalkO q loose XP (hookL hn tab nums tups W tn cl re er).says l.row.toRowW d [] (fun f vs => PySem.call f vs) := by
  refine LamX.walk_ofTsE (l := l) (n := 63) (k := 4 * N) (x := "script") (CX := fun _ => L2.CX0) hm (by decide) hdf hr ?F (fun _ _ _ _ _ z => z)
  intro w mg fa h Y G hmg0
  obtain ⟨K, KX, c⟩ := Y
  have hls : ∀ x ∈ W.ls, x ∈ lamNames ∧ x ∈ tn ∧ cl = true := fun x hx => by
    have z := List.all_eq_true.mp hls x hx
    simp only [Bool.and_eq_true, decide_eq_true_eq] at z
    exact ⟨z.1.1, z.1.2, z.2⟩
  have aux : cl = true → RefF K mg := fun hcl => by
    subst hcl
    have gl : ∀ x ∈ refAll, mg x = some (.ref (He.ga K x)) := fun x hx => He.glo_ok KX G (c.facts (.glo x) (by unfold faAll; rw [if_pos rfl]; exact List.mem_append_right _ (List.mem_map.mpr ⟨x, hx, rfl⟩)))
    have blt : ∀ y ∈ bNames, mg y = none := fun y hy => He.free_ok KX G (c.facts (.free y) (by unfold faAll faOf; simp only [List.mem_append, List.mem_map]; exact .inl (.inl (.inl (.inl (.inl (.inl (.inr ⟨y, hy, rfl⟩))))))))
    have mb : clsB K = true := by
      have z := c.more
      unfold moreB at z
      simp only [Bool.and_eq_true, Bool.not_true, Bool.false_or] at z
      exact z.1.2
    refine ref_f (re := re) (er := er) (by simpa using href) (fun d hd => hb d (List.mem_append_right _ (by unfold auxAll; rw [if_pos rfl]; exact hd))) (cls_f (fun x hx => gl x (List.mem_cons_of_mem _ (List.mem_cons_of_mem _ hx))) mb) blt fun d hd => ?_
    obtain ⟨fd, F⟩ := c.defs (defOf d) (List.mem_map.mpr ⟨d, List.mem_append_right _ (by unfold auxAll; rw [if_pos rfl]; exact hd), rfl⟩)
    unfold auxOf at hd
    rcases List.mem_cons.mp hd with rfl | hd
    · exact ⟨_, fd, gl _ List.mem_cons_self, F⟩
    · rcases List.mem_cons.mp hd with rfl | hd
      · exact ⟨_, fd, gl _ (List.mem_cons_of_mem _ List.mem_cons_self), F⟩
      · cases hd
  have Mo : ModOk l.prog w K mg tab (consOf nums tups fns) W := mod_ok KX G c (fun f hf => List.mem_append_left _ hf) (fun d hd => List.mem_map.mpr ⟨d, List.mem_append_left _ hd, rfl⟩) c.more hrs hfs fun hne => by
    refine aux ?_
    rcases hne with hne | hne
    · cases e : W.ls with
      | nil => exact absurd e hne
      | cons x r => exact (hls x (by rw [e]; exact List.mem_cons_self)).2.2
    · rw [hne] at her
      simpa using her
  obtain ⟨f, fd, g, F⟩ := Mo.fns dl hdl
  have g0 := g
  unfold DefR.At at g0
  rw [hdk] at g0
  have g0 : mg dl.x = some (.ref f) := g0
  rw [hdn] at hmg0
  have e := hmg0.symm.trans g0
  cases e
  have nst : dl.star = false := by
    have hk := List.all_eq_true.mp hc dl hdl
    unfold chkD at hk
    simp only [Bool.and_eq_true] at hk
    have z := hk.2
    unfold chkK at z
    rw [hdk] at z
    simpa using z
  have hb0 : ∀ (kV doc pm : Value) (an : Option Addr) (cdv ct : Value) (us : List Value), us.length = dl.ps.length → bindArgs (PySem.W.fnOf dl.nm dl.x (defArgs dl.st) (defBody dl.st) (defScope dl.st) .none kV doc pm an cdv ct) ⟨us, []⟩ = pure (dl.ps.zip us) := fun kV doc pm an cdv ct => by
    have z := hb dl (List.mem_append_left _ hdl) kV doc pm an cdv ct
    rw [if_neg (by rw [nst]; exact Bool.false_ne_true)] at z
    exact z
  have hb1 := FunD.bindsA F hb0
  have inT : ∀ x ∈ tn, (x, none) ∈ tn.map (fun x => ((x, none) : He.Defn)) := fun x hx => List.mem_map.mpr ⟨x, hx, rfl⟩
  refine ⟨K, KX, fd, tn.map fun x => He.cT K (x, none), fun vs H Q _ => spF l.prog w K mg (phi tab (consOf nums tups fns) N) dl.x 1 vs H Q E0, fun p hp => ?_, fun p hp => ?_, fun p hp => ?_, fun s v => ?_, fun H a ns hl _ hT hS => ?_, fun base hK hN hT => ?_⟩
  · obtain ⟨x, hx, rfl⟩ := List.mem_map.mp hp
    exact c.empty _ (inT x hx)
  · obtain ⟨x, hx, rfl⟩ := List.mem_map.mp hp
    exact c.out _ (inT x hx)
  · obtain ⟨x, hx, rfl⟩ := List.mem_map.mp hp
    exact PySem.W.codeHd_of_K KX (c.hd _ (inT x hx))
  · have z := hb1 s [v] (by rw [hps]; rfl)
    rw [hps] at z
    exact z
  · obtain ⟨s', e⟩ := hlaw ns hl
    refine sp_script (fun p hp => ?_) hS e
    obtain ⟨x, hx, ex⟩ := tk_mem c.more hp
    exact LamX.TabS.nil (by rw [ex]; exact hT _ (List.mem_map.mpr ⟨x, hx, rfl⟩))
  · have z := fn_cx0 ((fns_ok (base := base) Mo hcs (fun x hx => (hls x hx).1) (fun d hd hx => by
      have y := List.all_eq_true.mp hlg d hd
      simp only [Bool.or_eq_true, Bool.not_eq_true', decide_eq_false_iff_not, decide_eq_true_eq] at y
      exact y.resolve_left fun n => n hx) (fun x hx => hT _ (List.mem_map.mpr ⟨x, (hls x hx).2.1, rfl⟩)) hnd hc (fun d hd => hb d (List.mem_append_left _ hd)) N dl hdl _ fd g F).1 nst)
    rw [hps, hnp] at z
    exact z
/-- a statement of a class's body -/
def memS (st : Stmt) (j : Nat) : Stmt := match st with
  | .ClassDef _ _ _ body _ _ _ _ _ _ _ => body.getD j st
  | _ => st
end Pah
end
section
set_option maxHeartbeats 200000
/-! Terms: the defs of k42's text as terms (printed by gen.py). -/
namespace Pah
open PySem
def p_is_within : Fn := ⟨3, 3, (.cons (.ret (.and (.isty .int (.var 0)) (.and (.not (.isty .bool (.var 0))) (.cmp2 .le .le (.var 1) (.var 0) (.var 2)))))
  .nil)⟩
def p_is_pair : Fn := ⟨1, 2, (.cons (.ite (.or (.not (.isty .tuple (.var 0))) (.cmp .ne (.bi .len (.cons (.var 0) .nil)) (.int 2))) (.cons (.ret (.bl false))
  .nil) .nil)
  (.cons (.ret (.bi .all (.cons (.comp (.and (.isty .str (.var 1)) (.cmp .isin (.var 1) (.gl "KINDS"))) (.nm 1) (.e (.var 0)) (.bl true)) .nil)))
  .nil))⟩
def p_is_right_table : Fn := ⟨1, 4, (.cons (.ite (.or (.not (.isty .tuple (.var 0))) (.not (.bi .all (.cons (.comp (.call "is_pair" (.cons (.var 3) .nil)) (.nm 3) (.e (.var 0)) (.bl true)) .nil)))) (.cons (.ret (.bl false))
  .nil) .nil)
  (.cons (.ret (.bi .all (.cons (.comp (.cmp .lt (.var 1) (.var 2)) (.cons (.nm 1) (.cons (.nm 2) .nil)) (.zip (.var 0) (.slice (.var 0) (.int 1) .no)) (.bl true)) .nil)))
  .nil))⟩
def p_need_table : Fn := ⟨1, 1, (.cons (.ite (.not (.call "is_right_table" (.cons (.var 0) .nil))) (.cons (.raise "InvalidTable")
  .nil) .nil)
  .nil)⟩
def p_is_chain : Fn := ⟨1, 2, (.cons (.ite (.or (.not (.isty .tuple (.var 0))) (.cmp .gt (.bi .len (.cons (.var 0) .nil)) (.int 4))) (.cons (.ret (.bl false))
  .nil) .nil)
  (.cons (.for (.nm 1) (.e (.var 0)) (.cons (.ite (.or (.not (.isty .tuple (.var 1))) (.or (.cmp .ne (.bi .len (.cons (.var 1) .nil)) (.int 2)) (.not (.call "is_right_table" (.cons (.idx (.var 1) (.int 0)) .nil))))) (.cons (.ret (.bl false))
  .nil) .nil)
  (.cons (.ite (.not (.call "is_within" (.cons (.idx (.var 1) (.int 1)) (.cons (.int 1) (.cons (.gl "MOST_BRIDGES") .nil))))) (.cons (.ret (.bl false))
  .nil) .nil)
  .nil)))
  (.cons (.ret (.bl true))
  .nil)))⟩
def p_need_chain : Fn := ⟨1, 1, (.cons (.ite (.not (.call "is_chain" (.cons (.var 0) .nil))) (.cons (.raise "InvalidChain")
  .nil) .nil)
  .nil)⟩
def p_need_row : Fn := ⟨1, 2, (.cons (.ite (.or (.not (.isty .str (.var 0))) (.or (.not (.cmp2 .le .le (.int 1) (.bi .len (.cons (.var 0) .nil)) (.int 5))) (.not (.bi .all (.cons (.comp (.cmp .isin (.var 1) (.gl "KINDS")) (.nm 1) (.e (.var 0)) (.bl true)) .nil))))) (.cons (.raise "InvalidRow")
  .nil) .nil)
  .nil)⟩
def p_need_places : Fn := ⟨3, 4, (.cons (.asg (.nm 3) (.and (.call "is_within" (.cons (.var 1) (.cons (.int 0) (.cons (.bin .sub (.bi .len (.cons (.var 0) .nil)) (.int 1)) .nil)))) (.call "is_within" (.cons (.var 2) (.cons (.int 0) (.cons (.bin .sub (.bi .len (.cons (.var 0) .nil)) (.int 1)) .nil))))))
  (.cons (.ite (.or (.not (.var 3)) (.cmp .eq (.var 1) (.var 2))) (.cons (.raise "InvalidPlace")
  .nil) .nil)
  .nil))⟩
def p_passed : Fn := ⟨3, 5, (.cons (.asg (.nm 3) (.lst .nil))
  (.cons (.for (.nm 4) (.range1 (.bin .sub (.bi .len (.cons (.var 2) .nil)) (.int 1))) (.cons (.ite (.cmp .isin (.tup (.cons (.idx (.var 1) (.idx (.var 2) (.bin .add (.var 4) (.int 1)))) (.cons (.idx (.var 1) (.idx (.var 2) (.var 4))) .nil))) (.var 0)) (.cons (.app 3 (.bin .add (.bin .add (.slice (.var 2) .no (.var 4)) (.tup (.cons (.idx (.var 2) (.bin .add (.var 4) (.int 1))) (.cons (.idx (.var 2) (.var 4)) .nil)))) (.slice (.var 2) (.bin .add (.var 4) (.int 2)) .no)))
  .nil) .nil)
  .nil))
  (.cons (.ret (.var 3))
  .nil)))⟩
def p_behind_bridge : Fn := ⟨3, 6, (.cons (.par (.cons (.nm 3) (.cons (.nm 4) .nil)) (.cons .dic0 (.cons (.bi .list (.cons (.var 2) .nil)) .nil)))
  (.cons (.while (.cmp .ne (.var 4) (.lst .nil)) (.cons (.asg (.nm 5) (.pop 4))
  (.cons (.ite (.cmp .notin (.var 5) (.var 3)) (.cons (.set 3 (.var 5) (.bl true))
  (.cons (.asg (.nm 4) (.bin .add (.var 4) (.call "passed" (.cons (.var 0) (.cons (.var 1) (.cons (.var 5) .nil))))))
  .nil)) .nil)
  .nil)))
  (.cons (.ret (.bi .sorted (.cons (.var 3) .nil)))
  .nil)))⟩
def p_behind_chain : Fn := ⟨3, 5, (.cons (.for (.cons (.nm 3) (.cons (.nm 4) .nil)) (.e (.var 0)) (.cons (.asg (.nm 2) (.call "behind_bridge" (.cons (.var 3) (.cons (.var 1) (.cons (.var 2) .nil)))))
  .nil))
  (.cons (.ret (.var 2))
  .nil))⟩
def p_first_orders : Fn := ⟨1, 1, (.cons (.ret (.lst (.cons (.bi .tuple (.cons (.bi .listrange (.cons (.bi .len (.cons (.var 0) .nil)) .nil)) .nil)) .nil)))
  .nil)⟩
def p_orders_of : Fn := ⟨2, 2, (.cons (.ret (.call "behind_chain" (.cons (.var 0) (.cons (.var 1) (.cons (.call "first_orders" (.cons (.var 1) .nil)) .nil)))))
  .nil)⟩
def p_held : Fn := ⟨4, 4, (.cons (.ret (.and (.cmp .lt (.var 2) (.var 3)) (.cmp .notin (.tup (.cons (.idx (.var 1) (.var 3)) (.cons (.idx (.var 1) (.var 2)) .nil))) (.var 0))))
  .nil)⟩
def p_way_from : Fn := ⟨4, 6, (.cons (.ite (.cmp .eq (.var 2) (.var 3)) (.cons (.ret (.tup (.cons (.var 2) .nil)))
  .nil) .nil)
  (.cons (.for (.nm 4) (.range2 (.bin .add (.var 2) (.int 1)) (.bin .add (.var 3) (.int 1))) (.cons (.asg (.nm 5) (.ite (.call "held" (.cons (.var 0) (.cons (.var 1) (.cons (.var 2) (.cons (.var 4) .nil))))) (.call "way_from" (.cons (.var 0) (.cons (.var 1) (.cons (.var 4) (.cons (.var 3) .nil))))) .non))
  (.cons (.ite (.isnon true (.var 5)) (.cons (.ret (.bin .add (.tup (.cons (.var 2) .nil)) (.var 5)))
  .nil) .nil)
  .nil)))
  (.cons (.ret .non)
  .nil)))⟩
def p_orders : Fn := ⟨2, 2, (.cons (.expr (.call "need_chain" (.cons (.var 0) .nil)))
  (.cons (.expr (.call "need_row" (.cons (.var 1) .nil)))
  (.cons (.ret (.call "orders_of" (.cons (.var 0) (.cons (.var 1) .nil))))
  .nil)))⟩
def p_can_lead : Fn := ⟨4, 5, (.cons (.expr (.call "need_chain" (.cons (.var 0) .nil)))
  (.cons (.expr (.call "need_row" (.cons (.var 1) .nil)))
  (.cons (.expr (.call "need_places" (.cons (.var 1) (.cons (.var 2) (.cons (.var 3) .nil)))))
  (.cons (.ret (.bi .any (.cons (.comp (.cmp .lt (.mth .index (.var 4) (.var 2)) (.mth .index (.var 4) (.var 3))) (.nm 4) (.e (.call "orders_of" (.cons (.var 0) (.cons (.var 1) .nil)))) (.bl true)) .nil)))
  .nil))))⟩
def p_holding : Fn := ⟨4, 4, (.cons (.expr (.call "need_table" (.cons (.var 0) .nil)))
  (.cons (.expr (.call "need_row" (.cons (.var 1) .nil)))
  (.cons (.expr (.call "need_places" (.cons (.var 1) (.cons (.var 2) (.cons (.var 3) .nil)))))
  (.cons (.ret (.call "way_from" (.cons (.var 0) (.cons (.var 1) (.cons (.bi .min (.cons (.var 2) (.cons (.var 3) .nil))) (.cons (.bi .max (.cons (.var 2) (.cons (.var 3) .nil))) .nil))))))
  .nil))))⟩
def p_rounds : Fn := ⟨2, 5, (.cons (.expr (.call "need_chain" (.cons (.var 0) .nil)))
  (.cons (.expr (.call "need_row" (.cons (.var 1) .nil)))
  (.cons (.par (.cons (.nm 2) (.cons (.nm 3) .nil)) (.cons (.int 0) (.cons (.call "first_orders" (.cons (.var 1) .nil)) .nil)))
  (.cons (.asg (.nm 4) (.call "behind_chain" (.cons (.var 0) (.cons (.var 1) (.cons (.var 3) .nil)))))
  (.cons (.while (.cmp .ne (.var 4) (.var 3)) (.cons (.asg (.nm 3) (.var 4))
  (.cons (.asg (.nm 4) (.call "behind_chain" (.cons (.var 0) (.cons (.var 1) (.cons (.var 3) .nil)))))
  (.cons (.asg (.nm 2) (.bin .add (.var 2) (.int 1)))
  .nil))))
  (.cons (.ret (.var 2))
  .nil))))))⟩
def l_source : Fn := ⟨2, 4, (.cons (.asg (.nm 2) (.int 0))
  (.cons (.ite (.cmp .gt (.bi .len (.cons (.var 0) .nil)) (.var 1)) (.cons (.asg (.nm 2) (.bi .int (.cons (.idx (.var 0) (.var 1)) .nil)))
  .nil) .nil)
  (.cons (.asg (.nm 3) (.bin .mod (.bin .add (.bin .add (.bin .mul (.var 2) (.int 16807)) (.bin .mul (.int 60919) (.var 1))) (.int 31)) (.int 2147481173)))
  (.cons (.asg (.nm 3) (.bin .add (.bin .add (.bin .mod (.bin .mul (.var 3) (.var 3)) (.int 2147481151)) (.bin .mul (.int 2) (.var 1))) (.int 5)))
  (.cons (.ret (.lstM (.cons (.ite (.cmp .ge (.var 2) (.bin .pow (.int 10) (.int 18))) (.var 2) (.int 0)) (.cons (.var 3) .nil))))
  .nil)))))⟩
def l_pick : Fn := ⟨2, 3, (.cons (.ite (.cmp .gt (.idx (.var 0) (.int 0)) (.int 0)) (.cons (.asg (.nm 2) (.bin .mod (.bi .int (.cons (.idx (.var 0) (.int 0)) .nil)) (.var 1)))
  (.cons (.set 0 (.int 0) (.bin .fdiv (.bi .int (.cons (.idx (.var 0) (.int 0)) .nil)) (.var 1)))
  (.cons (.ret (.var 2))
  .nil))) .nil)
  (.cons (.set 0 (.int 1) (.bin .mod (.bi .int (.cons (.bin .add (.bin .mul (.idx (.var 0) (.int 1)) (.int 44497)) (.int 9973)) .nil)) (.int 2147483647)))
  (.cons (.ret (.bin .mod (.bin .fdiv (.bin .mod (.bi .int (.cons (.bin .mul (.idx (.var 0) (.int 1)) (.idx (.var 0) (.int 1))) .nil)) (.int 2147483399)) (.int 11)) (.var 1)))
  .nil)))⟩
def l_chosen : Fn := ⟨2, 2, (.cons (.ret (.idx (.var 1) (.call "_law_pick" (.cons (.var 0) (.cons (.bi .len (.cons (.var 1) .nil)) .nil)))))
  .nil)⟩
def l_kind_pairs : Fn := ⟨0, 3, (.cons (.asg (.nm 0) (.lst .nil))
  (.cons (.for (.nm 1) (.e (.str "arw")) (.cons (.asg (.nm 0) (.bin .add (.var 0) (.comp (.tup (.cons (.var 1) (.cons (.var 2) .nil))) (.nm 2) (.e (.str "arw")) (.bl true))))
  .nil))
  (.cons (.ret (.var 0))
  .nil)))⟩
def l_drawn_table : Fn := ⟨1, 3, (.cons (.asg (.nm 1) (.call "_law_chosen" (.cons (.var 0) (.cons (.lst (.cons (.int 1) (.cons (.int 2) (.cons (.int 2) (.cons (.int 3) (.cons (.int 5) .nil)))))) .nil))))
  (.cons (.ret (.bi .tuple (.cons (.comp (.var 2) (.nm 2) (.e (.call "_law_kind_pairs" .nil)) (.cmp .lt (.call "_law_pick" (.cons (.var 0) (.cons (.int 6) .nil))) (.var 1))) .nil)))
  .nil))⟩
def l_couple_right : Fn := ⟨4, 11, (.cons (.asg (.nm 4) (.tup (.cons (.tup (.cons (.var 0) (.cons (.int 1) .nil))) .nil)))
  (.cons (.par (.cons (.nm 5) (.cons (.nm 6) .nil)) (.cons (.call "can_lead" (.cons (.var 4) (.cons (.var 1) (.cons (.var 3) (.cons (.var 2) .nil))))) (.cons (.call "holding" (.cons (.var 0) (.cons (.var 1) (.cons (.var 2) (.cons (.var 3) .nil))))) .nil)))
  (.cons (.asg (.nm 7) (.comp (.int 1) (.nm 8) (.e (.call "orders" (.cons (.var 4) (.cons (.var 1) .nil)))) (.cmp .lt (.mth .index (.var 8) (.var 3)) (.mth .index (.var 8) (.var 2)))))
  (.cons (.ite (.or (.cmp .ne (.var 5) (.isnon false (.var 6))) (.cmp .ne (.var 5) (.cmp .ne (.var 7) (.lst .nil)))) (.cons (.ret (.bl false))
  .nil) .nil)
  (.cons (.ite (.isnon false (.var 6)) (.cons (.ret (.bl true))
  .nil) .nil)
  (.cons (.ite (.or (.cmp .ne (.idx (.var 6) (.int 0)) (.var 2)) (.or (.cmp .ne (.idx (.var 6) (.neg (.int 1))) (.var 3)) (.cmp .ne (.bi .list (.cons (.var 6) .nil)) (.bi .sortedset (.cons (.var 6) .nil))))) (.cons (.ret (.bl false))
  .nil) .nil)
  (.cons (.ret (.cmp .eq (.comp (.int 1) (.cons (.nm 9) (.cons (.nm 10) .nil)) (.zip (.var 6) (.slice (.var 6) (.int 1) .no)) (.cmp .isin (.tup (.cons (.idx (.var 1) (.var 10)) (.cons (.idx (.var 1) (.var 9)) .nil))) (.var 0))) (.lst .nil)))
  .nil)))))))⟩
def l_chain_right : Fn := ⟨3, 10, (.cons (.asg (.cons (.nm 3) (.cons (.nm 4) .nil)) (.tup (.cons (.call "orders" (.cons (.var 1) (.cons (.var 2) .nil))) (.cons (.bin .add (.int 1) (.call "_law_pick" (.cons (.var 0) (.cons (.bin .pow (.int 10) (.int 30)) .nil)))) .nil))))
  (.cons (.ite (.or (.cmp .ne (.var 3) (.bi .sortedset (.cons (.var 3) .nil))) (.cmp .notin (.bi .tuple (.cons (.bi .listrange (.cons (.bi .len (.cons (.var 2) .nil)) .nil)) .nil)) (.var 3))) (.cons (.ret (.bl false))
  .nil) .nil)
  (.cons (.for (.nm 5) (.range1 (.bi .len (.cons (.var 1) .nil))) (.cons (.asg (.nm 7) (.bin .add (.slice (.var 1) .no (.var 5)) (.slice (.var 1) (.bin .add (.var 5) (.int 1)) .no)))
  (.cons (.ite (.cmp .ne (.comp (.var 9) (.nm 9) (.e (.call "orders" (.cons (.var 7) (.cons (.var 2) .nil)))) (.cmp .notin (.var 9) (.var 3))) (.lst .nil)) (.cons (.ret (.bl false))
  .nil) .nil)
  (.cons (.asg (.nm 8) (.bin .add (.bin .add (.slice (.var 1) .no (.var 5)) (.tup (.cons (.tup (.cons (.idx (.idx (.var 1) (.var 5)) (.int 0)) (.cons (.var 4) .nil))) .nil))) (.slice (.var 1) (.bin .add (.var 5) (.int 1)) .no)))
  (.cons (.ite (.cmp .ne (.call "orders" (.cons (.var 8) (.cons (.var 2) .nil))) (.var 3)) (.cons (.ret (.bl false))
  .nil) .nil)
  .nil)))))
  (.cons (.ite (.cmp .gt (.bi .len (.cons (.var 1) .nil)) (.int 2)) (.cons (.ret (.bl true))
  .nil) .nil)
  (.cons (.asg (.nm 6) (.call "rounds" (.cons (.var 1) (.cons (.var 2) .nil))))
  (.cons (.ite (.cmp .eq (.var 6) (.int 0)) (.cons (.ret (.cmp .eq (.bi .len (.cons (.var 3) .nil)) (.int 1)))
  .nil) .nil)
  (.cons (.ret (.and (.cmp .gt (.bi .len (.cons (.var 3) .nil)) (.int 1)) (.cmp .eq (.cmp .eq (.var 6) (.int 1)) (.cmp .eq (.call "orders" (.cons (.bin .mul (.var 1) (.int 2)) (.cons (.var 2) .nil))) (.var 3)))))
  .nil)))))))⟩
def l_law_k42 : Fn := ⟨1, 13, (.cons (.for (.nm 1) (.range1 (.bi .max (.cons (.int 6) (.cons (.bi .min (.cons (.int 20) (.cons (.bi .len (.cons (.var 0) .nil)) .nil))) .nil)))) (.cons (.asg (.nm 5) (.call "_law_source" (.cons (.var 0) (.cons (.var 1) .nil))))
  (.cons (.asg (.nm 6) (.bin .add (.int 2) (.call "_law_pick" (.cons (.var 5) (.cons (.int 4) .nil)))))
  (.cons (.asg (.nm 7) (.mth .join (.str "") (.comp (.call "_law_chosen" (.cons (.var 5) (.cons (.lst (.cons (.str "w") (.cons (.str "w") (.cons (.str "r") (.cons (.str "a") .nil))))) .nil))) (.nm 8) (.range1 (.var 6)) (.bl true))))
  (.cons (.for (.nm 8) (.range1 (.int 3)) (.cons (.par (.cons (.nm 9) (.cons (.nm 4) .nil)) (.cons (.call "_law_drawn_table" (.cons (.var 5) .nil)) (.cons (.tup .nil) .nil)))
  (.cons (.for (.nm 10) (.range1 (.var 6)) (.cons (.for (.nm 12) (.range2 (.bin .add (.var 10) (.int 1)) (.var 6)) (.cons (.ite (.not (.call "_law_couple_right" (.cons (.var 9) (.cons (.var 7) (.cons (.var 10) (.cons (.var 12) .nil)))))) (.cons (.ret (.bl false))
  .nil) .nil)
  .nil))
  .nil))
  (.cons (.for (.nm 11) (.range1 (.call "_law_pick" (.cons (.var 5) (.cons (.int 5) .nil)))) (.cons (.asg (.nm 4) (.bin .add (.var 4) (.tup (.cons (.tup (.cons (.call "_law_drawn_table" (.cons (.var 5) .nil)) (.cons (.bin .add (.int 1) (.call "_law_pick" (.cons (.var 5) (.cons (.bin .pow (.int 10) (.int 29)) .nil)))) .nil))) .nil))))
  .nil))
  (.cons (.ite (.not (.call "_law_chain_right" (.cons (.var 5) (.cons (.var 4) (.cons (.var 7) .nil))))) (.cons (.ret (.bl false))
  .nil) .nil)
  .nil)))))
  .nil)))))
  (.cons (.asg (.cons (.nm 2) (.cons (.nm 3) .nil)) (.tup (.cons (.tup (.cons (.tup (.cons (.str "w") (.cons (.str "w") .nil))) .nil)) (.cons (.tup (.cons (.tup (.cons (.str "w") (.cons (.str "r") .nil))) .nil)) .nil))))
  (.cons (.asg (.nm 4) (.tup (.cons (.tup (.cons (.var 2) (.cons (.int 1) .nil))) (.cons (.tup (.cons (.var 3) (.cons (.int 1) .nil))) (.cons (.tup (.cons (.var 2) (.cons (.int 1) .nil))) (.cons (.tup (.cons (.var 3) (.cons (.int 1) .nil))) .nil))))))
  (.cons (.ite (.or (.cmp .notin (.tup (.cons (.int 2) (.cons (.int 0) (.cons (.int 1) .nil)))) (.call "orders" (.cons (.var 4) (.cons (.str "wrw") .nil)))) (.call "can_lead" (.cons (.tup (.cons (.tup (.cons (.var 3) (.cons (.int 3) .nil))) .nil)) (.cons (.str "wrw") (.cons (.int 2) (.cons (.int 0) .nil)))))) (.cons (.ret (.bl false))
  .nil) .nil)
  (.cons (.ite (.or (.not (.call "can_lead" (.cons (.tup (.cons (.tup (.cons (.var 3) (.cons (.int 1) .nil))) .nil)) (.cons (.str "wrw") (.cons (.int 2) (.cons (.int 1) .nil)))))) (.cmp .ne (.call "holding" (.cons (.var 3) (.cons (.str "wr") (.cons (.int 0) (.cons (.int 1) .nil))))) (.tup (.cons (.int 0) (.cons (.int 1) .nil))))) (.cons (.ret (.bl false))
  .nil) .nil)
  (.cons (.ite (.cmp .ne (.call "orders" (.cons (.tup (.cons (.tup (.cons (.var 2) (.cons (.int 1) .nil))) (.cons (.tup (.cons (.var 2) (.cons (.int 1) .nil))) (.cons (.tup (.cons (.var 2) (.cons (.int 1) .nil))) (.cons (.tup (.cons (.var 3) (.cons (.int 1) .nil))) .nil))))) (.cons (.str "rw") .nil))) (.lst (.cons (.tup (.cons (.int 0) (.cons (.int 1) .nil))) (.cons (.tup (.cons (.int 1) (.cons (.int 0) .nil))) .nil)))) (.cons (.ret (.bl false))
  .nil) .nil)
  (.cons (.ret (.and (.isnon false (.call "holding" (.cons (.var 3) (.cons (.str "rw") (.cons (.int 0) (.cons (.int 1) .nil)))))) (.call "can_lead" (.cons (.tup (.cons (.tup (.cons (.var 2) (.cons (.int 1) .nil))) .nil)) (.cons (.str "rww") (.cons (.int 2) (.cons (.int 1) .nil)))))))
  .nil)))))))⟩
end Pah
end
section
set_option maxHeartbeats 200000
/-! Wp: how the evaluator is walked. -/
namespace Pah
open PySem
section
variable {Φ : Phi} {s : S}
/-! ### what each form does -/
@[simp] theorem evE_var (i : Nat) : evE Φ (.var i) s = readV i s := by first | (rw [evE]; done) | (rw [evE]; rfl)
@[simp] theorem evE_int (i : Int) : evE Φ (.int i) s = .ok (.v (.int i)) s := by first | (rw [evE]; done) | (rw [evE]; rfl)
@[simp] theorem evE_str (i : Str) : evE Φ (.str i) s = .ok (.v (.str i)) s := by first | (rw [evE]; done) | (rw [evE]; rfl)
@[simp] theorem evE_bl (i : Bool) : evE Φ (.bl i) s = .ok (.v (.bl i)) s := by first | (rw [evE]; done) | (rw [evE]; rfl)
@[simp] theorem evE_non : evE Φ .non s = .ok (.v .non) s := by first | (rw [evE]; done) | (rw [evE]; rfl)
@[simp] theorem evE_gl (x : Str) : evE Φ (.gl x) s = Out.of ((Φ.con x).map RV.v) s := by first | (rw [evE]; done) | (rw [evE]; rfl)
@[simp] theorem evE_tup (es : Exs) : evE Φ (.tup es) s = (evEs Φ es s).bind fun ds s => if ds.length ≤ lim then .ok (.v (.tup ds)) s else .stuck := by first | (rw [evE]; done) | (rw [evE]; rfl)
@[simp] theorem evE_lst (es : Exs) : evE Φ (.lst es) s = (evEs Φ es s).bind fun ds s => if ds.length ≤ lim then .ok (.l ds) s else .stuck := by first | (rw [evE]; done) | (rw [evE]; rfl)
@[simp] theorem evE_lstM (es : Exs) : evE Φ (.lstM es) s = (evEs Φ es s).bind fun ds s => if ds.length ≤ lim then .ok (.v (.ref s.mem.length)) { s with mem := s.mem ++ [.lst ds] } else .stuck := by first | (rw [evE]; done) | (rw [evE]; rfl)
@[simp] theorem evE_dic0 : evE Φ .dic0 s = .ok (.m [] []) s := by first | (rw [evE]; done) | (rw [evE]; rfl)
@[simp] theorem evE_bin (op : BOp) (a b : Ex) : evE Φ (.bin op a b) s = (asB2 a b (evE Φ a) (evE Φ b) s).bind fun xy s => Out.of (binop op xy.1 xy.2) s := by first | (rw [evE]; done) | (rw [evE]; rfl)
@[simp] theorem evE_neg (a : Ex) : evE Φ (.neg a) s = (evE Φ a s).bind fun x s => match x with
    | .v (.int i) => .ok (.v (.int (-i))) s
    | _ => .stuck := by first | (rw [evE]; done) | (rw [evE]; rfl)
@[simp] theorem evE_cmp (op : COp) (a b : Ex) : evE Φ (.cmp op a b) s = (asB2 a b (evE Φ a) (evE Φ b) s).bind fun xy s => Out.of ((cmpop op xy.1 xy.2).map fun b => .v (.bl b)) s := by first | (rw [evE]; done) | (rw [evE]; rfl)
@[simp] theorem evE_cmp2 (o1 o2 : COp) (a b c : Ex) : evE Φ (.cmp2 o1 o2 a b c) s = (evE Φ a s).bind fun x s => (evE Φ b s).bind fun y s => match x, y with
    | .v (.int i), .v (.int j) => (Out.of (cmpop o1 (.int i) (.int j)) s).bind fun t s => if t = true then (evE Φ c s).bind fun z s => match z with
        | .v (.int k) => Out.of ((cmpop o2 (.int j) (.int k)).map fun b => .v (.bl b)) s
        | _ => .stuck
      else .ok (.v (.bl false)) s
    | _, _ => .stuck := by first | (rw [evE]; done) | (rw [evE]; rfl)
@[simp] theorem evE_isnon (ng : Bool) (a : Ex) : evE Φ (.isnon ng a) s = (asB a (evE Φ a) s).bind fun x s => match x with
    | .non => .ok (.v (.bl (!ng))) s
    | _ => .ok (.v (.bl ng)) s := by first | (rw [evE]; done) | (rw [evE]; rfl)
@[simp] theorem evE_and (a b : Ex) : evE Φ (.and a b) s = (evE Φ a s).bind fun x s => (asBool x s).bind fun t s => if t = true then evE Φ b s else .ok (.v (.bl false)) s := by first | (rw [evE]; done) | (rw [evE]; rfl)
@[simp] theorem evE_or (a b : Ex) : evE Φ (.or a b) s = (evE Φ a s).bind fun x s => (asBool x s).bind fun t s => if t = true then .ok (.v (.bl true)) s else evE Φ b s := by first | (rw [evE]; done) | (rw [evE]; rfl)
@[simp] theorem evE_not (a : Ex) : evE Φ (.not a) s = (evE Φ a s).bind fun x s => (asBool x s).bind fun t s => .ok (.v (.bl (!t))) s := by first | (rw [evE]; done) | (rw [evE]; rfl)
@[simp] theorem evE_ite (c a b : Ex) : evE Φ (.ite c a b) s = (evE Φ c s).bind fun x s => (asBool x s).bind fun t s => if t = true then evE Φ a s else evE Φ b s := by first | (rw [evE]; done) | (rw [evE]; rfl)
@[simp] theorem evE_isty (t : Ty) (a : Ex) : evE Φ (.isty t a) s = (asB a (evE Φ a) s).bind fun x s => Out.of ((isTy t x).map fun b => .v (.bl b)) s := by first | (rw [evE]; done) | (rw [evE]; rfl)
@[simp] theorem evE_call (f : Str) (es : Exs) : evE Φ (.call f es) s = (evEs Φ es s).bind fun ds s => callOut (Φ.call f ds s.mem) s.env := by first | (rw [evE]; done) | (rw [evE]; rfl)
@[simp] theorem evE_bi (f : BI) (es : Exs) : evE Φ (.bi f es) s = (evBs Φ es s).bind fun ds s => Out.of (biD f (ds.map (deref s.mem))) s := by first | (rw [evE]; done) | (rw [evE]; rfl)
@[simp] theorem evE_mth (f : Mth) (o a : Ex) : evE Φ (.mth f o a) s = (asM f o a (evE Φ o) (evE Φ a) s).bind fun xy s => Out.of (mthD f xy.1 xy.2) s := by first | (rw [evE]; done) | (rw [evE]; rfl)
@[simp] theorem evE_pop (i : Nat) : evE Φ (.pop i) s = (match s.env[i]? with
    | some (some (.l ds)) => match ds.getLast? with
      | some d => .ok (.v d) { s with env := s.env.set i (some (.l ds.dropLast)) }
      | none => .stuck
    | _ => .stuck) := by first | (rw [evE]; done) | (rw [evE]; rfl)
@[simp] theorem evE_idx (a i : Ex) : evE Φ (.idx a i) s = (asB2 a i (evE Φ a) (evE Φ i) s).bind fun xy s => Out.of ((idxD (deref s.mem xy.1) xy.2).map .v) s := by first | (rw [evE]; done) | (rw [evE]; rfl)
@[simp] theorem evE_slice (a lo hi : Ex) : evE Φ (.slice a lo hi) s = (asS a (evE Φ a) (evO lo (evE Φ lo)) (evO hi (evE Φ hi)) s).bind fun t s => Out.of (sliceD t.1 t.2.1 t.2.2) s := by first | (rw [evE]; done) | (rw [evE]; rfl)
@[simp] theorem evE_rev (a : Ex) : evE Φ (.rev a) s = (asB a (evE Φ a) s).bind fun x s => Out.of (revD x) s := by first | (rw [evE]; done) | (rw [evE]; rfl)
@[simp] theorem evEs_nil : evEs Φ .nil s = .ok [] s := by first | (rw [evEs]; done) | (rw [evEs]; rfl)
@[simp] theorem evEs_cons (e : Ex) (es : Exs) : evEs Φ (.cons e es) s = (evE Φ e s).bind fun x s => (evEs Φ es s).bind fun xs s => .ok (x.d :: xs) s := by first | (rw [evEs]; done) | (rw [evEs]; rfl)
@[simp] theorem evBs_nil : evBs Φ .nil s = .ok [] s := by first | (rw [evBs]; done) | (rw [evBs]; rfl)
@[simp] theorem evBs_one (e : Ex) : evBs Φ (.cons e .nil) s = (asB e (evE Φ e) s).bind fun x s => .ok [x] s := by first | (rw [evBs]; done) | (rw [evBs]; rfl)
@[simp] theorem evBs_cons (e a : Ex) (es : Exs) : evBs Φ (.cons e (.cons a es)) s = (evE Φ e s).bind fun x s => (evEs Φ (.cons a es) s).bind fun xs s => .ok (x.d :: xs) s := by rw [evBs]; intro h; cases h
@[simp] theorem evRs_nil : evRs Φ .nil s = .ok [] s := by first | (rw [evRs]; done) | (rw [evRs]; rfl)
@[simp] theorem evRs_cons (e : Ex) (es : Exs) : evRs Φ (.cons e es) s = (evE Φ e s).bind fun x s => (evRs Φ es s).bind fun xs s => .ok (x :: xs) s := by first | (rw [evRs]; done) | (rw [evRs]; rfl)
@[simp] theorem evIt_e (a : Ex) : evIt Φ (.e a) s = (evE Φ a s).bind fun x s => Out.of (itemsV x) s := by first | (rw [evIt]; done) | (rw [evIt]; rfl)
def rng1 (x : RV) (s : S) : Out (List D) := match x with
    | .v (.int j) => Out.of (rangeD 0 j) s
    | _ => .stuck
def rng2 (x y : RV) (s : S) : Out (List D) := match x, y with
    | .v (.int i), .v (.int j) => Out.of (rangeD i j) s
    | _, _ => .stuck
@[simp] theorem rng1_int (j : Int) : rng1 (.v (.int j)) s = Out.of (rangeD 0 j) s := Eq.trans rfl rfl
@[simp] theorem rng2_int (i j : Int) : rng2 (.v (.int i)) (.v (.int j)) s = Out.of (rangeD i j) s := Eq.trans rfl rfl
@[simp] theorem evIt_r1 (a : Ex) : evIt Φ (.range1 a) s = (evE Φ a s).bind fun x s => rng1 x s := by rw [evIt]; rfl
@[simp] theorem evIt_r2 (a b : Ex) : evIt Φ (.range2 a b) s = (evE Φ a s).bind fun x s => (evE Φ b s).bind fun y s => rng2 x y s := by rw [evIt]; rfl
@[simp] theorem evIt_enum (a : Ex) : evIt Φ (.enum a) s = (evE Φ a s).bind fun x s => match x.d with
    | .lst ds => .ok (enumD 0 ds) s
    | _ => .stuck := by first | (rw [evIt]; done) | (rw [evIt]; rfl)
@[simp] theorem evIt_zip (a b : Ex) : evIt Φ (.zip a b) s = (evE Φ a s).bind fun x s => (evE Φ b s).bind fun y s => match x.d, y.d with
    | .tup xs, .tup ys => .ok (zipD xs ys) s
    | .lst xs, .lst ys => .ok (zipD xs ys) s
    | _, _ => .stuck := rfl
/-! statements -/
@[simp] theorem evSs_nil : evSs Φ .nil s = .ok .next s := by first | (rw [evSs]; done) | (rw [evSs]; rfl)
theorem evSs_cons (a : Sm) (r : Sms) : evSs Φ (.cons a r) s = (evS Φ a s).bind fun f s => match f with
    | .next => evSs Φ r s
    | .ret x => .ok (.ret x) s := by first | (rw [evSs]; done) | (rw [evSs]; rfl)
@[simp] theorem evS_expr (e : Ex) : evS Φ (.expr e) s = (evE Φ e s).bind fun _ s => .ok .next s := by first | (rw [evS]; done) | (rw [evS]; rfl)
@[simp] theorem evS_asg (t : Tg) (e : Ex) : evS Φ (.asg t e) s = (evE Φ e s).bind fun x s => match asgT t x s.env with
    | some env => .ok .next { s with env := env }
    | none => .stuck := by first | (rw [evS]; done) | (rw [evS]; rfl)
@[simp] theorem evS_par (t : Tg) (es : Exs) : evS Φ (.par t es) s = (evRs Φ es s).bind fun xs s => match asgN t xs s.env with
    | some env => .ok .next { s with env := env }
    | none => .stuck := by first | (rw [evS]; done) | (rw [evS]; rfl)
@[simp] theorem evS_set (i : Nat) (k v : Ex) : evS Φ (.set i k v) s = (evE Φ v s).bind fun y s => (hasS i s).bind fun _ s => (evE Φ k s).bind fun x s => setAtD i x.d y.d s := by first | (rw [evS]; done) | (rw [evS]; rfl)
@[simp] theorem evS_app (i : Nat) (e : Ex) : evS Φ (.app i e) s = (lookL i s).bind fun _ s => (evE Φ e s).bind fun y s => appD i y.d s := by first | (rw [evS]; done) | (rw [evS]; rfl)
@[simp] theorem evS_ite (c : Ex) (a b : Sms) : evS Φ (.ite c a b) s = (evE Φ c s).bind fun x s => (asBool x s).bind fun t s => if t = true then evSs Φ a s else evSs Φ b s := by first | (rw [evS]; done) | (rw [evS]; rfl)
@[simp] theorem evS_for (t : Tg) (it : Itx) (b : Sms) : evS Φ (.for t it b) s = (evIt Φ it s).bind fun ds s => loopF t (evSs Φ b) ds s := by first | (rw [evS]; done) | (rw [evS]; rfl)
@[simp] theorem evS_while (c : Ex) (b : Sms) : evS Φ (.while c b) s = loopW (fun s => (evE Φ c s).bind asBool) (evSs Φ b) wf s := by first | (rw [evS]; done) | (rw [evS]; rfl)
@[simp] theorem evS_ret (e : Ex) : evS Φ (.ret e) s = (retV e (evE Φ e) s).bind fun x s => .ok (.ret x) s := by first | (rw [evS]; done) | (rw [evS]; rfl)
@[simp] theorem evS_retN : evS Φ .retN s = .ok (.ret (.v .non)) s := by first | (rw [evS]; done) | (rw [evS]; rfl)
@[simp] theorem evS_raise (c : Str) : evS Φ (.raise c) s = .exn c .non s.mem := by first | (rw [evS]; done) | (rw [evS]; rfl)
@[simp] theorem evS_pass : evS Φ .pass s = .ok .next s := by first | (rw [evS]; done) | (rw [evS]; rfl)
/-! values -/
@[simp] theorem rvd_v (d : D) : (RV.v d).d = d := Eq.trans rfl rfl
@[simp] theorem rvd_l (d : List D) : (RV.l d).d = .lst d := Eq.trans rfl rfl
@[simp] theorem rvd_m (k d : List D) : (RV.m k d).d = .dic k d := Eq.trans rfl rfl
@[simp] theorem flrv_r (r : RV) : Fl.rv (.ret r) = r := Eq.trans rfl rfl
@[simp] theorem flrv_n : Fl.rv .next = .v .non := Eq.trans rfl rfl
@[simp] theorem asBool_bl (b : Bool) : asBool (.v (.bl b)) s = .ok b s := Eq.trans rfl rfl
@[simp] theorem deref_non (m : Mm) : deref m .non = .non := Eq.trans rfl rfl
@[simp] theorem deref_int (m : Mm) (i : Int) : deref m (.int i) = .int i := Eq.trans rfl rfl
@[simp] theorem deref_bl (m : Mm) (i : Bool) : deref m (.bl i) = .bl i := Eq.trans rfl rfl
@[simp] theorem deref_str (m : Mm) (i : Str) : deref m (.str i) = .str i := Eq.trans rfl rfl
@[simp] theorem deref_tup (m : Mm) (i : List D) : deref m (.tup i) = .tup i := Eq.trans rfl rfl
@[simp] theorem deref_lst (m : Mm) (i : List D) : deref m (.lst i) = .lst i := Eq.trans rfl rfl
@[simp] theorem deref_dic (m : Mm) (i j : List D) : deref m (.dic i j) = .dic i j := Eq.trans rfl rfl
theorem deref_ref {m : Mm} {j : Nat} {ds : List D} (h : m[j]? = some (.lst ds)) : deref m (.ref j) = .lst ds := by simp [deref, h]
end
/-! ### what holds behind it -/
@[irreducible] def wp {α : Type} (x : Out α) (Q : α → S → Prop) (E : Str → D → Mm → Prop) : Prop := match x with
  | .ok a s => Q a s
  | .exn c p m => E c p m
  | .stuck => False
section
variable {α β : Type} {Q : α → S → Prop} {E : Str → D → Mm → Prop}
@[simp] theorem wp_ok (a : α) (s : S) : wp (.ok a s) Q E = Q a s := by unfold wp; rfl
@[simp] theorem wp_exn (c : Str) (p : D) (m : Mm) : wp (.exn c p m) Q E = E c p m := by unfold wp; rfl
@[simp] theorem wp_stuck : wp .stuck Q E = False := by unfold wp; rfl
theorem wp_bind {x : Out β} {f : β → S → Out α} : wp (x.bind f) Q E = wp x (fun a s => wp (f a s) Q E) E := by cases x <;> simp
theorem wp_mono {x : Out α} {Q' : α → S → Prop} {E' : Str → D → Mm → Prop} (h : wp x Q E) (hq : ∀ a s, Q a s → Q' a s) (he : ∀ c p m, E c p m → E' c p m) : wp x Q' E' := by
  cases x with
  | ok a s => rw [wp_ok] at h ⊢; exact hq a s h
  | exn c p m => rw [wp_exn] at h ⊢; exact he c p m h
  | stuck => rw [wp_stuck] at h; exact h.elim
theorem wp_ex {x : Out α} (h : wp x Q fun _ _ _ => False) : ∃ a s, x = .ok a s ∧ Q a s := by
  cases x with
  | ok a s => rw [wp_ok] at h; exact ⟨a, s, rfl, h⟩
  | exn c p m => rw [wp_exn] at h; exact h.elim
  | stuck => rw [wp_stuck] at h; exact h.elim
theorem wp_cons {Φ : Phi} {a : Sm} {r : Sms} {s : S} {Q : Fl → S → Prop} : wp (evSs Φ (.cons a r) s) Q E = wp (evS Φ a s) (fun f s => match f with
    | .next => wp (evSs Φ r s) Q E
    | .ret x => Q (.ret x) s) E := by
  rw [evSs_cons, wp_bind]
  congr
  funext f s
  cases f <;> simp
end
theorem wp_seq {E : Str → D → Mm → Prop} {Φ : Phi} {a : Sm} {r : Sms} {s : S} {Q : Fl → S → Prop} (P : S → Prop) (h1 : wp (evS Φ a s) (fun f s' => f = .next ∧ P s') E) (h2 : ∀ s', P s' → wp (evSs Φ r s') Q E) : wp (evSs Φ (.cons a r) s) Q E := by
  rw [wp_cons]
  refine wp_mono h1 (fun f s' h => ?_) fun _ _ _ h => h
  obtain ⟨rfl, h⟩ := h
  exact h2 s' h
theorem wp_one {E : Str → D → Mm → Prop} {Φ : Phi} {a : Sm} {s : S} {Q : Fl → S → Prop} {P : S → Prop} (h1 : wp (evS Φ a s) (fun f s' => f = .next ∧ P s') E) (h2 : ∀ s', P s' → Q .next s') : wp (evSs Φ (.cons a .nil) s) Q E :=
  wp_seq P h1 fun s' h => by
    rw [evSs_nil, wp_ok]
    exact h2 s' h
/-- no error -/
abbrev E0 : Str → D → Mm → Prop := fun _ _ _ => False
/-- a call gives r and leaves m -/
def Rets (x : Out RV) (r : RV) (m : Mm) : Prop := ∃ env, x = .ok r ⟨env, m⟩
theorem Rets.out {x : Out RV} {r : RV} {m : Mm} (h : Rets x r m) (env : Sl) : callOut x env = .ok r ⟨env, m⟩ := by
  obtain ⟨e, rfl⟩ := h
  rfl
theorem rets_wp {x : Out RV} {r : RV} {m : Mm} (h : wp x (fun r' s' => r' = r ∧ s'.mem = m) E0) : Rets x r m := by
  obtain ⟨a, s, rfl, rfl, rfl⟩ := wp_ex h
  exact ⟨s.env, rfl⟩
theorem wp_out {x : Out RV} {env : Sl} {Q : RV → S → Prop} {E : Str → D → Mm → Prop} (h : wp x (fun r s => Q r ⟨env, s.mem⟩) E) : wp (callOut x env) Q E := by
  cases x with
  | ok a s => simp only [callOut, wp_ok] at h ⊢; exact h
  | exn c p m => simp only [callOut, wp_exn] at h ⊢; exact h
  | stuck => rw [wp_stuck] at h; exact h.elim
section
variable {G : Str → Option Fn} {C : Str → Option D} {n : Nat} {f : Str} {F : Fn} {ds : List D} {m : Mm}
theorem callF_eq (h : G f = some F) (hl : ds.length = F.np) : callF G C (n + 1) f ds m = (evSs ⟨callF G C n, C⟩ F.body ⟨ds.map (fun d => some (RV.v d)) ++ List.replicate (F.ns - F.np) none, m⟩).bind fun f s => .ok f.rv s := by
  rw [callF, h]; simp [hl]
theorem wp_call {Q : RV → S → Prop} {E : Str → D → Mm → Prop} (h : G f = some F) (hl : ds.length = F.np) (k : wp (evSs ⟨callF G C n, C⟩ F.body ⟨ds.map (fun d => some (RV.v d)) ++ List.replicate (F.ns - F.np) none, m⟩) (fun f s => Q f.rv s) E) : wp (callF G C (n + 1) f ds m) Q E := by
  rw [callF_eq h hl, wp_bind]
  simp only [wp_ok]
  exact k
end
/-! ### loops -/
section
variable {E : Str → D → Mm → Prop}
theorem wp_for {tg : Tg} {body : S → Out Fl} {Q : Fl → S → Prop} (I : List D → S → Prop)
    (step : ∀ d ds s, I (d :: ds) s → ∃ env, asgT tg (.v d) s.env = some env ∧ wp (body ⟨env, s.mem⟩) (fun f s' => match f with
      | .next => I ds s'
      | .ret r => Q (.ret r) s') E) (fin : ∀ s, I [] s → Q .next s) : ∀ (ds : List D) (s : S), I ds s → wp (loopF tg body ds s) Q E
  | [], s, h => by rw [loopF, wp_ok]; exact fin s h
  | d :: ds, s, h => by
    obtain ⟨env, e, k⟩ := step d ds s h
    rw [loopF, e]
    simp only [wp_bind]
    refine wp_mono k (fun f s' hf => ?_) fun _ _ _ h => h
    cases f with
    | next => exact wp_for I step fin ds s' hf
    | ret r => simp only [wp_ok]; exact hf
theorem wp_forIx {tg : Tg} {body : S → Out Fl} {Q : Fl → S → Prop} {ds : List D} (I : Nat → S → Prop)
    (step : ∀ i d s, ds[i]? = some d → I i s → ∃ env, asgT tg (.v d) s.env = some env ∧ wp (body ⟨env, s.mem⟩) (fun f s' => match f with
      | .next => I (i + 1) s'
      | .ret r => Q (.ret r) s') E) (fin : ∀ s, I ds.length s → Q .next s) (s : S) (h : I 0 s) : wp (loopF tg body ds s) Q E := by
  refine wp_for (fun rest s => ∃ i, rest = ds.drop i ∧ i ≤ ds.length ∧ I i s) (fun d rest s ⟨i, e, hi, k⟩ => ?_) (fun s ⟨i, e, hi, k⟩ => ?_) ds s ⟨0, rfl, Nat.zero_le _, h⟩
  · have hd : ds[i]? = some d := by
      have : (ds.drop i)[0]? = some d := by rw [← e]; rfl
      simpa using this
    have hil : i < ds.length := (List.getElem?_eq_some_iff.mp hd).1
    obtain ⟨env, e1, k1⟩ := step i d s hd k
    refine ⟨env, e1, wp_mono k1 (fun f s' hf => ?_) fun _ _ _ h => h⟩
    cases f with
    | next =>
      refine ⟨i + 1, ?_, hil, hf⟩
      have := congrArg (List.drop 1) e
      simpa [List.drop_drop, Nat.add_comm] using this
    | ret r => exact hf
  · have : i = ds.length := by
      have := congrArg List.length e
      simp at this
      omega
    exact fin s (this ▸ k)
theorem wp_while {cond : S → Out Bool} {body : S → Out Fl} {Q : Fl → S → Prop} (I : Nat → S → Prop)
    (step : ∀ k s, I k s → wp (cond s) (fun b s' => if b = true then wp (body s') (fun f s'' => match f with
      | .next => ∃ k', k' < k ∧ I k' s''
      | .ret r => Q (.ret r) s'') E else Q .next s') E) : ∀ (n k : Nat) (s : S), k < n → I k s → wp (loopW cond body n s) Q E
  | 0, _, _, h, _ => absurd h (Nat.not_lt_zero _)
  | n + 1, k, s, h, hi => by
    rw [loopW, wp_bind]
    refine wp_mono (step k s hi) (fun b s' hb => ?_) fun _ _ _ h => h
    cases b with
    | false =>
      rw [if_neg Bool.false_ne_true] at hb ⊢
      rw [wp_ok]; exact hb
    | true =>
      rw [if_pos rfl] at hb
      rw [if_pos rfl, wp_bind]
      refine wp_mono hb (fun f s'' hf => ?_) fun _ _ _ h => h
      cases f with
      | next =>
        obtain ⟨k', h1, h2⟩ := hf
        exact wp_while I step n k' s'' (by omega) h2
      | ret r => simp only [wp_ok]; exact hf
/-! a comprehension that leaves all as it was -/
def Itx.alive : Itx → Bool
  | .live _ => true
  | _ => false
theorem loopC_pure {vs : List Nat} {tg : Tg} {cond : S → Out Bool} {elt : S → Out (List D)} {m : Mm} {w : Sl} (c : D → Bool) (f : D → D) (en : D → Sl) :
    ∀ (ds : List D) (env : Sl), wipe vs env = w → (∀ d ∈ ds, asgT tg (.v d) w = some (en d) ∧ wipe vs (en d) = w ∧ cond ⟨en d, m⟩ = .ok (c d) ⟨en d, m⟩ ∧ (c d = true → elt ⟨en d, m⟩ = .ok [f d] ⟨en d, m⟩)) → ds.length ≤ lim →
      ∃ env', loopC vs tg cond elt ds ⟨env, m⟩ = .ok ((ds.filter c).map f) ⟨env', m⟩ ∧ wipe vs env' = w
  | [], env, hw, _, _ => ⟨env, rfl, hw⟩
  | d :: ds, env, hw, h, hl => by
    obtain ⟨h1, h2, h3, h4⟩ := h d List.mem_cons_self
    obtain ⟨env', e1, e2⟩ := loopC_pure c f en ds (en d) h2 (fun z hz => h z (List.mem_cons_of_mem _ hz)) (by simp at hl; omega)
    refine ⟨env', ?_, e2⟩
    rw [loopC, hw, h1]
    simp only [h3, noexn, bind_ok]
    cases e : c d with
    | false =>
      rw [if_neg Bool.false_ne_true, e1]
      simp [e]
    | true =>
      rw [if_pos rfl, h4 e]
      have : ([f d].length + ((ds.filter c).map f).length ≤ lim) := by
        have := List.length_filter_le c ds
        simp at hl ⊢
        omega
      simp only [bind_ok, e1, if_pos this, List.filter_cons, e, if_true, List.map_cons, List.singleton_append]
theorem back_wipe (vs : List Nat) (o : Sl) : ∀ {a b : Sl}, wipe vs a = wipe vs b → back vs o a = back vs o b := by
  induction vs with
  | nil => intro a b h; exact h
  | cons i vs ih =>
    intro a b h
    have wset : ∀ (vs : List Nat) (e : Sl) (i : Nat) (x : Option RV), wipe vs (e.set i x) = if i ∈ vs then wipe vs e else (wipe vs e).set i x := by
      intro vs
      induction vs with
      | nil => intro e i x; simp [wipe]
      | cons j vs ih2 =>
        intro e i x
        by_cases q : i = j
        · subst q
          simp [wipe, List.set_set]
        · have c : (e.set i x).set j none = (e.set j none).set i x := List.set_comm _ _ q
          show wipe vs ((e.set i x).set j none) = _
          rw [c, ih2]
          simp [wipe, q]
    show back vs o (a.set i _) = back vs o (b.set i _)
    refine ih ?_
    have h' : wipe vs (a.set i none) = wipe vs (b.set i none) := h
    rw [wset] at h' ⊢
    rw [wset] at h' ⊢
    by_cases q : i ∈ vs
    · simp only [if_pos q] at h' ⊢
      exact h'
    · simp only [if_neg q] at h' ⊢
      have := congrArg (fun l => l.set i (keptR (o.getD i none))) h'
      simpa [List.set_set] using this
theorem comp_pure {Φ : Phi} {elt cond : Ex} {tg : Tg} {it : Itx} {s s0 : S} {ds : List D} (c : D → Bool) (f : D → D) (en : D → Sl) (hit : evIt Φ it s = .ok ds s0) (hl : it.alive = false)
    (h : ∀ d ∈ ds, asgT tg (.v d) (wipe tg.vars s0.env) = some (en d) ∧ wipe tg.vars (en d) = wipe tg.vars s0.env ∧ evE Φ cond ⟨en d, s0.mem⟩ = .ok (.v (.bl (c d))) ⟨en d, s0.mem⟩ ∧ (c d = true → ∃ r, evE Φ elt ⟨en d, s0.mem⟩ = .ok r ⟨en d, s0.mem⟩ ∧ r.d = f d)) (hn : ds.length ≤ lim) :
    evE Φ (.comp elt tg it cond) s = .ok (.l ((ds.filter c).map f)) ⟨back tg.vars s0.env s0.env, s0.mem⟩ := by
  have e : evE Φ (.comp elt tg it cond) s = (evIt Φ it s).bind fun ds s0 => (loopC tg.vars tg (fun s => (evE Φ cond s).bind asBool) (fun s => (evE Φ elt s).bind fun x s => .ok [x.d] s) ds (lockS it s0)).bind fun xs s => .ok (.l xs) (unlockS it s0 { s with env := back tg.vars s0.env s.env }) := rfl
  rw [e, hit]
  have l1 : lockS it s0 = s0 := by cases it <;> first | rfl | cases hl
  have l2 : ∀ x, unlockS it s0 x = x := fun x => by cases it <;> first | rfl | cases hl
  obtain ⟨env', e1, e2⟩ := loopC_pure (vs := tg.vars) (tg := tg) (cond := fun s => (evE Φ cond s).bind asBool) (elt := fun s => (evE Φ elt s).bind fun x s => .ok [x.d] s) (m := s0.mem) c f en ds s0.env rfl (fun d hd => by
    obtain ⟨h1, h2, h3, h4⟩ := h d hd
    refine ⟨h1, h2, by simp [h3], fun hc => ?_⟩
    obtain ⟨r, hr, hd⟩ := h4 hc
    simp [hr, hd]) hn
  rw [bind_ok, l1]
  show (loopC _ _ _ _ ds ⟨s0.env, s0.mem⟩).bind _ = _
  rw [e1, bind_ok, l2]
  show Out.ok _ (S.mk (back tg.vars s0.env env') s0.mem) = _
  rw [back_wipe tg.vars s0.env e2]
theorem loopC_mem {vs : List Nat} {tg : Tg} {cond : S → Out Bool} {elt : S → Out (List D)} {w : Sl} (en : D → Sl) (I : Nat → List D → Mm → Prop) (ds : List D)
    (h : ∀ i d acc m, ds[i]? = some d → I i acc m → asgT tg (.v d) w = some (en d) ∧ wipe vs (en d) = w ∧ ∃ b m1, cond ⟨en d, m⟩ = .ok b ⟨en d, m1⟩ ∧ (b = false → I (i + 1) acc m1) ∧ (b = true → ∃ x m2, elt ⟨en d, m1⟩ = .ok [x] ⟨en d, m2⟩ ∧ I (i + 1) (acc ++ [x]) m2)) (hn : ds.length ≤ lim) :
    ∀ (k i : Nat) (acc : List D) (env : Sl) (m : Mm), ds.length - i = k → i ≤ ds.length → wipe vs env = w → I i acc m →
      ∃ xs env' m', loopC vs tg cond elt (ds.drop i) ⟨env, m⟩ = .ok xs ⟨env', m'⟩ ∧ wipe vs env' = w ∧ I ds.length (acc ++ xs) m' ∧ xs.length ≤ k := by
  intro k
  induction k with
  | zero =>
    intro i acc env m hk hi hw hI
    have : i = ds.length := by omega
    subst this
    refine ⟨[], env, m, ?_, hw, by simpa using hI, by simp⟩
    rw [List.drop_length]
    rfl
  | succ k ih =>
    intro i acc env m hk hi hw hI
    have hlt : i < ds.length := by omega
    rw [List.drop_eq_getElem_cons hlt]
    obtain ⟨h1, h2, b, m1, h3, h4, h5⟩ := h i ds[i] acc m (List.getElem?_eq_getElem hlt) hI
    rw [loopC, hw, h1]
    simp only [h3, noexn, bind_ok]
    cases b with
    | false =>
      rw [if_neg Bool.false_ne_true]
      obtain ⟨xs, env', m', e1, e2, e3, e4⟩ := ih (i + 1) acc (en ds[i]) m1 (by omega) hlt h2 (h4 rfl)
      exact ⟨xs, env', m', e1, e2, e3, by omega⟩
    | true =>
      rw [if_pos rfl]
      obtain ⟨x, m2, e0, e9⟩ := h5 rfl
      obtain ⟨xs, env', m', e1, e2, e3, e4⟩ := ih (i + 1) (acc ++ [x]) (en ds[i]) m2 (by omega) hlt h2 e9
      refine ⟨x :: xs, env', m', ?_, e2, by simpa using e3, by simp; omega⟩
      rw [e0]
      have : ([x].length + xs.length ≤ lim) := by simp; omega
      simp only [bind_ok, e1, if_pos this, List.singleton_append]
theorem comp_mem {Φ : Phi} {elt cond : Ex} {tg : Tg} {it : Itx} {s s0 : S} {ds : List D} (en : D → Sl) (I : Nat → List D → Mm → Prop) (hit : evIt Φ it s = .ok ds s0) (hl : it.alive = false) (h0 : I 0 [] s0.mem)
    (h : ∀ i d acc m, ds[i]? = some d → I i acc m → asgT tg (.v d) (wipe tg.vars s0.env) = some (en d) ∧ wipe tg.vars (en d) = wipe tg.vars s0.env ∧ ∃ b m1, evE Φ cond ⟨en d, m⟩ = .ok (.v (.bl b)) ⟨en d, m1⟩ ∧ (b = false → I (i + 1) acc m1) ∧ (b = true → ∃ r m2, evE Φ elt ⟨en d, m1⟩ = .ok r ⟨en d, m2⟩ ∧ I (i + 1) (acc ++ [r.d]) m2)) (hn : ds.length ≤ lim) :
    ∃ xs m', evE Φ (.comp elt tg it cond) s = .ok (.l xs) ⟨back tg.vars s0.env s0.env, m'⟩ ∧ I ds.length xs m' := by
  have e : evE Φ (.comp elt tg it cond) s = (evIt Φ it s).bind fun ds s0 => (loopC tg.vars tg (fun s => (evE Φ cond s).bind asBool) (fun s => (evE Φ elt s).bind fun x s => .ok [x.d] s) ds (lockS it s0)).bind fun xs s => .ok (.l xs) (unlockS it s0 { s with env := back tg.vars s0.env s.env }) := rfl
  have l1 : lockS it s0 = s0 := by cases it <;> first | rfl | cases hl
  have l2 : ∀ x, unlockS it s0 x = x := fun x => by cases it <;> first | rfl | cases hl
  obtain ⟨xs, env', m', e1, e2, e3, _⟩ := loopC_mem (vs := tg.vars) (tg := tg) (cond := fun s => (evE Φ cond s).bind asBool) (elt := fun s => (evE Φ elt s).bind fun x s => .ok [x.d] s) (w := wipe tg.vars s0.env) en I ds (fun i d acc m hd hI => by
    obtain ⟨h1, h2, b, m1, h3, h4, h5⟩ := h i d acc m hd hI
    refine ⟨h1, h2, b, m1, by simp [h3], h4, fun hb => ?_⟩
    obtain ⟨r, m2, h6, h7⟩ := h5 hb
    exact ⟨r.d, m2, by simp [h6], h7⟩) hn ds.length 0 [] s0.env s0.mem rfl (Nat.zero_le _) rfl h0
  refine ⟨xs, m', ?_, by simpa using e3⟩
  rw [e, hit, bind_ok, l1]
  have e1 : loopC tg.vars tg (fun s => (evE Φ cond s).bind asBool) (fun s => (evE Φ elt s).bind fun x s => .ok [x.d] s) ds s0 = .ok xs ⟨env', m'⟩ := e1
  rw [e1, bind_ok, l2]
  show Out.ok _ (S.mk (back tg.vars s0.env env') m') = _
  rw [back_wipe tg.vars s0.env e2]
end
end Pah
end
section
set_option maxHeartbeats 200000
/-! Val: facts about values. -/
namespace Pah
open PySem
/-- a text of one sign -/
abbrev ch (c : Nat) : D := .str ⟨#[c]⟩
/-- a tuple of ints -/
abbrev ordD (o : List Nat) : D := .tup (o.map fun i => D.int (i : Nat))
/-! equality -/
@[simp] theorem eqD_int (i j : Int) : eqD (.int i) (.int j) = decide (i = j) := Eq.trans rfl rfl
@[simp] theorem eqD_str (x y : Str) : eqD (.str x) (.str y) = decide (x = y) := Eq.trans rfl rfl
@[simp] theorem eqD_bl (x y : Bool) : eqD (.bl x) (.bl y) = (x == y) := Eq.trans rfl rfl
def eqDs (a b : List D) : Bool := PyData.eqvAll (pys a) (pys b)
@[simp] theorem eqD_tup (x y : List D) : eqD (.tup x) (.tup y) = eqDs x y := Eq.trans rfl rfl
@[simp] theorem eqD_lst (x y : List D) : eqD (.lst x) (.lst y) = eqDs x y := Eq.trans rfl rfl
@[simp] theorem eqDs_nil : eqDs [] [] = true := Eq.trans rfl rfl
@[simp] theorem eqDs_nc (x : D) (xs : List D) : eqDs [] (x :: xs) = false := Eq.trans rfl rfl
@[simp] theorem eqDs_cn (x : D) (xs : List D) : eqDs (x :: xs) [] = false := Eq.trans rfl rfl
@[simp] theorem eqDs_cc (x y : D) (xs ys : List D) : eqDs (x :: xs) (y :: ys) = (eqD x y && eqDs xs ys) := Eq.trans rfl rfl
mutual
/-- without bools, of which objects do not matter -/
def D.smp : D → Bool
  | .non => true
  | .int _ => true
  | .str _ => true
  | .tup ds => smps ds
  | .lst ds => smps ds
  | _ => false
def smps : List D → Bool
  | [] => true
  | d :: ds => D.smp d && smps ds
end
theorem smps_all : ∀ ds : List D, smps ds = ds.all D.smp
  | [] => rfl
  | d :: ds => by rw [smps, List.all_cons, smps_all ds]
mutual
theorem eqD_smp : ∀ (a b : D), a.smp = true → b.smp = true → (eqD a b = true ↔ a = b)
  | .non, b, _, hb => by cases b <;> simp [D.smp, eqD, D.py, PyData.eqv] at hb ⊢
  | .bl _, b, ha, hb => by simp [D.smp] at ha
  | .int x, b, _, hb => by cases b <;> simp [D.smp, eqD, D.py, PyData.eqv] at hb ⊢
  | .str x, b, _, hb => by cases b <;> simp [D.smp, eqD, D.py, PyData.eqv] at hb ⊢
  | .tup x, b, ha, hb => by
    cases b with
    | tup y =>
      rw [D.smp] at ha hb
      rw [eqD_tup, D.tup.injEq]
      exact eqDs_smp x y ha hb
    | _ => simp [D.smp, eqD, D.py, PyData.eqv] at hb ⊢
  | .lst x, b, ha, hb => by
    cases b with
    | lst y =>
      rw [D.smp] at ha hb
      rw [eqD_lst, D.lst.injEq]
      exact eqDs_smp x y ha hb
    | _ => simp [D.smp, eqD, D.py, PyData.eqv] at hb ⊢
  | .dic _ _, b, ha, hb => by simp [D.smp] at ha
  | .ref _, b, ha, hb => by simp [D.smp] at ha
  | .fn _, b, ha, hb => by simp [D.smp] at ha
theorem eqDs_smp : ∀ (a b : List D), smps a = true → smps b = true → (eqDs a b = true ↔ a = b)
  | [], [], _, _ => by simp
  | [], _ :: _, _, _ => by simp
  | _ :: _, [], _, _ => by simp
  | x :: xs, y :: ys, ha, hb => by
    simp only [smps, Bool.and_eq_true] at ha hb
    rw [eqDs_cc, Bool.and_eq_true, eqD_smp x y ha.1 hb.1, eqDs_smp xs ys ha.2 hb.2, List.cons.injEq]
end
/-! plain -/
theorem plainN_succ : ∀ (n : Nat) (d : D), d.plainN n = true → d.plainN (n + 1) = true := by
  intro n
  induction n with
  | zero => intro d h; cases d <;> simp [D.plainN] at h ⊢ <;> exact h
  | succ n ih =>
    intro d h
    cases d with
    | tup ds =>
      rw [D.plainN, plainsN_all, List.all_eq_true] at h
      rw [D.plainN, plainsN_all, List.all_eq_true]
      exact fun z hz => ih z (h z hz)
    | lst ds =>
      rw [D.plainN, plainsN_all, List.all_eq_true] at h
      rw [D.plainN, plainsN_all, List.all_eq_true]
      exact fun z hz => ih z (h z hz)
    | _ => simp [D.plainN] at h ⊢ <;> exact h
theorem plainN_le {n m : Nat} (h : n ≤ m) {d : D} (k : d.plainN n = true) : d.plainN m = true := by
  induction h with
  | refl => exact k
  | step _ ih => exact plainN_succ _ _ ih
@[simp] theorem plain_int (i : Int) : D.plain (.int i) = true := Eq.trans rfl rfl
@[simp] theorem plain_bl (i : Bool) : D.plain (.bl i) = true := Eq.trans rfl rfl
@[simp] theorem plain_non : D.plain .non = true := Eq.trans rfl rfl
@[simp] theorem plain_str (x : Str) : D.plain (.str x) = PyData.strOk x := Eq.trans rfl rfl
theorem strOk_ch {c : Nat} (h : c < 0x110000) : PyData.strOk ⟨#[c]⟩ = true := by simp [PyData.strOk, h]
theorem plain_ordD (o : List Nat) : (ordD o).plainN 1 = true := by
  rw [D.plainN, plainsN_all, List.all_map, List.all_eq_true]
  exact fun _ _ => rfl
theorem smp_ordD (o : List Nat) : (ordD o).smp = true := by
  rw [D.smp, smps_all, List.all_map, List.all_eq_true]
  exact fun _ _ => rfl
theorem ordD_inj {a b : List Nat} (h : ordD a = ordD b) : a = b := by
  rw [D.tup.injEq] at h
  have : ∀ {a b : List Nat}, a.map (fun i => D.int (i : Nat)) = b.map (fun i => D.int (i : Nat)) → a = b := by
    intro a
    induction a with
    | nil => intro b h; cases b with
      | nil => rfl
      | cons _ _ => simp at h
    | cons x a ih => intro b h; cases b with
      | nil => simp at h
      | cons y b =>
        simp only [List.map_cons, List.cons.injEq, D.int.injEq] at h
        rw [ih h.2, Int.ofNat_inj.mp h.1]
  exact this h
theorem map_ordD_inj : ∀ {a b : List (List Nat)}, a.map ordD = b.map ordD → a = b
  | [], [], _ => rfl
  | [], _ :: _, h => by simp at h
  | _ :: _, [], h => by simp at h
  | x :: a, y :: b, h => by
    rw [List.map_cons, List.map_cons, List.cons.injEq] at h
    rw [ordD_inj h.1, map_ordD_inj h.2]
/-! places -/
theorem ixN_nat (n j : Nat) : L2.ixN n (j : Nat) = if j < n then some j else none := by
  unfold L2.ixN
  rw [if_pos (Int.natCast_nonneg j)]
  by_cases h : j < n
  · rw [if_pos (by omega), if_pos h, Int.toNat_natCast]
  · rw [if_neg (by omega), if_neg h]
theorem atI_nat {α : Type} (xs : List α) (j : Nat) : L2.atI xs (j : Nat) = xs[j]? := by
  unfold L2.atI
  rw [ixN_nat]
  by_cases h : j < xs.length
  · rw [if_pos h]; rfl
  · rw [if_neg h, List.getElem?_eq_none (by omega)]; rfl
@[simp] theorem atI_0 {α : Type} (xs : List α) : L2.atI xs 0 = xs[0]? := atI_nat xs 0
@[simp] theorem atI_1 {α : Type} (xs : List α) : L2.atI xs 1 = xs[1]? := atI_nat xs 1
@[simp] theorem atI_2 {α : Type} (xs : List α) : L2.atI xs 2 = xs[2]? := atI_nat xs 2
@[simp] theorem atI_cast {α : Type} (xs : List α) (j : Nat) : L2.atI xs (j : Int) = xs[j]? := atI_nat xs j
@[simp] theorem atI_cast1 {α : Type} (xs : List α) (j : Nat) : L2.atI xs ((j : Int) + 1) = xs[j + 1]? := atI_nat xs (j + 1)
theorem atI_last {α : Type} (xs : List α) : L2.atI xs (-1) = xs.getLast? := by
  unfold L2.atI L2.ixN
  rw [if_neg (by decide)]
  cases xs with
  | nil => rfl
  | cons x xs =>
    rw [if_pos (by simp; omega)]
    rw [Option.bind_some, List.getLast?_eq_getElem?]
    congr 1
    simp
    omega
theorem idx_str {row : List Nat} (h : row.length ≤ lim) (i : Int) : idxD (.str ⟨row.toArray⟩) (.int i) = (L2.atI row i).map ch := by
  show (if (⟨row.toArray⟩ : Str).length ≤ lim then _ else _) = _
  rw [if_pos (by simpa [Str.length] using h)]
theorem sIx_nat' (n j : Nat) : HT.sIx n n (some (j : Int)) = min j n := HT.sIx_nat n n j
theorem cut_from {α : Type} (xs : List α) (j : Nat) : cutD xs (some (j : Int)) none = xs.drop j := by
  unfold cutD
  rw [HT.sIx_nat, HT.sIx_none]
  by_cases h : j ≤ xs.length
  · rw [Nat.min_eq_left h, List.take_of_length_le (by simp)]
  · rw [Nat.min_eq_right (by omega), List.drop_eq_nil_of_le (Nat.le_refl _), List.drop_eq_nil_of_le (by omega)]; simp
theorem cut_to {α : Type} (xs : List α) (j : Nat) : cutD xs none (some (j : Int)) = xs.take j := by
  unfold cutD
  rw [HT.sIx_nat, HT.sIx_none, List.drop_zero, Nat.sub_zero]
  by_cases h : j ≤ xs.length
  · rw [Nat.min_eq_left h]
  · rw [Nat.min_eq_right (by omega), List.take_of_length_le (Nat.le_refl _), List.take_of_length_le (by omega)]
theorem range_nat {n : Nat} (h : n < 2 ^ 60) : rangeD 0 (n : Int) = some ((List.range n).map fun i => D.int (i : Nat)) := by
  unfold rangeD
  rw [if_pos (by omega)]
  simp
theorem range_m1 : rangeD 0 (-1) = some [] := by
  unfold rangeD
  rw [if_pos (by omega)]
  rfl
/-- the item at a place -/
def nth (l : List Nat) (i : Nat) : Nat := l.getD i 0
theorem nth_get {l : List Nat} {i : Nat} (h : i < l.length) : l[i]? = some (nth l i) := by
  rw [nth, List.getD_eq_getElem?_getD, List.getElem?_eq_getElem h]; rfl
theorem nth_mem {l : List Nat} {i : Nat} (h : i < l.length) : nth l i ∈ l := List.mem_of_getElem? (nth_get h)
theorem isin_tup {T : List D} {x : D} (hx : x.plain = true) (hT : plains T = true) : isinD x (.tup T) = some (T.any fun z => eqD z x) := by
  show (if x.plain = true ∧ plains T = true then _ else _) = _
  rw [if_pos ⟨hx, hT⟩]
theorem isin_lst {T : List D} {x : D} (hx : x.plain = true) (hT : plains T = true) : isinD x (.lst T) = some (T.any fun z => eqD z x) := by
  show (if x.plain = true ∧ plains T = true then _ else _) = _
  rw [if_pos ⟨hx, hT⟩]
theorem plain_pair {a b : Nat} (ha : a < 0x110000) (hb : b < 0x110000) : (D.tup [ch a, ch b]).plain = true := by
  show plainsN 19 [ch a, ch b] = true
  simp [plainsN, D.plainN, strOk_ch ha, strOk_ch hb]
theorem add_lst {x y : List D} (h : x.length + y.length ≤ lim) : binop .add (.lst x) (.lst y) = some (.l (x ++ y)) := if_pos h
theorem add_tup {x y : List D} (h : x.length + y.length ≤ lim) : binop .add (.tup x) (.tup y) = some (.v (.tup (x ++ y))) := if_pos h
theorem add_str {x y : Str} (h : x.length + y.length ≤ lim) : binop .add (.str x) (.str y) = some (.v (.str (x ++ y))) := if_pos h
theorem le_lim {k : Nat} (h : k ≤ 1000) : k ≤ lim := Nat.le_trans h (by unfold lim; omega)
theorem bi_list_t (ds : List D) : biD .list [.tup ds] = some (.l ds) := Eq.trans rfl rfl
theorem bi_list_l (ds : List D) : biD .list [.lst ds] = some (.l ds) := Eq.trans rfl rfl
theorem bi_tuple_t (ds : List D) : biD .tuple [.tup ds] = some (.v (.tup ds)) := Eq.trans rfl rfl
theorem bi_tuple_l (ds : List D) : biD .tuple [.lst ds] = some (.v (.tup ds)) := Eq.trans rfl rfl
theorem bi_len_t (ds : List D) : biD .len [.tup ds] = some (.v (.int (ds.length : Nat))) := Eq.trans rfl rfl
theorem bi_len_l (ds : List D) : biD .len [.lst ds] = some (.v (.int (ds.length : Nat))) := Eq.trans rfl rfl
theorem bi_listrange {n : Nat} (h : n ≤ 1000) : biD .listrange [.int (n : Nat)] = some (.l ((List.range n).map fun i => D.int (i : Nat))) := by
  show (if _ then _ else _) = _
  have hl := le_lim h
  rw [if_pos ⟨by omega, by omega⟩, Int.toNat_natCast]
end Pah
end
section
set_option maxHeartbeats 200000
/-! Ma42: rows through bridges: plain mathematics. -/
namespace Pah
abbrev Od := List Nat
/-- one passing more -/
inductive Step (R : Nat → Nat → Bool) : Od → Od → Prop
  | mk (l : Od) (a b : Nat) (r : Od) : R b a = true → Step R (l ++ a :: b :: r) (l ++ b :: a :: r)
inductive Star (R : Nat → Nat → Bool) : Od → Od → Prop
  | refl (o : Od) : Star R o o
  | tail {o p q : Od} : Star R o p → Step R p q → Star R o q
theorem Step.perm {R : Nat → Nat → Bool} {o p : Od} (h : Step R o p) : o.Perm p := by
  cases h with
  | mk l a b r _ => exact List.Perm.append_left l (List.Perm.swap b a r)
theorem Star.perm {R : Nat → Nat → Bool} {o p : Od} (h : Star R o p) : o.Perm p := by
  induction h with
  | refl => exact List.Perm.refl _
  | tail _ s ih => exact ih.trans s.perm
theorem Star.ind {R : Nat → Nat → Bool} {P : Od → Prop} {o p : Od} (h : Star R o p) (h0 : P o) (st : ∀ a b, P a → Step R a b → P b) : P p := by
  induction h with
  | refl => exact h0
  | tail _ s ih => exact st _ _ ih s
theorem Star.one {R : Nat → Nat → Bool} {o p : Od} (h : Step R o p) : Star R o p := .tail (.refl o) h
theorem Star.trans {R : Nat → Nat → Bool} {o p q : Od} (h : Star R o p) (k : Star R p q) : Star R o q := by
  induction k with
  | refl => exact h
  | tail _ s ih => exact .tail ih s
theorem Step.pre {R : Nat → Nat → Bool} {o p : Od} (x : Od) (h : Step R o p) : Step R (x ++ o) (x ++ p) := by
  cases h with
  | mk l a b r e =>
    have := Step.mk (R := R) (x ++ l) a b r e
    simpa using this
theorem Step.post {R : Nat → Nat → Bool} {o p : Od} (x : Od) (h : Step R o p) : Step R (o ++ x) (p ++ x) := by
  cases h with
  | mk l a b r e =>
    have := Step.mk (R := R) l a b (r ++ x) e
    simpa using this
theorem Star.pre {R : Nat → Nat → Bool} {o p : Od} (x : Od) (h : Star R o p) : Star R (x ++ o) (x ++ p) := by
  induction h with
  | refl => exact .refl _
  | tail _ s ih => exact .tail ih (s.pre x)
theorem Star.post {R : Nat → Nat → Bool} {o p : Od} (x : Od) (h : Star R o p) : Star R (o ++ x) (p ++ x) := by
  induction h with
  | refl => exact .refl _
  | tail _ s ih => exact .tail ih (s.post x)
/-- a goes behind all of l -/
theorem Star.over {R : Nat → Nat → Bool} (a : Nat) : ∀ l : Od, (∀ v ∈ l, R v a = true) → Star R (a :: l) (l ++ [a])
  | [], _ => .refl _
  | v :: l, h => by
    have s : Step R (a :: v :: l) (v :: a :: l) := Step.mk [] a v l (h v List.mem_cons_self)
    have ih := Star.over a l fun z hz => h z (List.mem_cons_of_mem _ hz)
    exact (Star.one s).trans (ih.pre [v])
/-- those of U go behind the others -/
theorem Star.split {R : Nat → Nat → Bool} (U : Nat → Bool) : ∀ l : Od, l.Pairwise (fun u v => U u = true → U v = false → R v u = true) → Star R l (l.filter (fun x => !U x) ++ l.filter U)
  | [], _ => .refl _
  | a :: l, h => by
    obtain ⟨h1, h2⟩ := List.pairwise_cons.mp h
    have ih := Star.split U l h2
    cases e : U a with
    | false =>
      simp only [List.filter_cons, e, Bool.not_false, if_true, List.cons_append]
      exact ih.pre [a]
    | true =>
      simp only [List.filter_cons, e, Bool.not_true]
      have z := Star.over (R := R) a (l.filter fun x => !U x) fun v hv => by
        obtain ⟨m1, m2⟩ := List.mem_filter.mp hv
        exact h1 v m1 e (by simpa using m2)
      have z2 := z.post (l.filter U)
      have z1 := ih.pre [a]
      simp only [List.singleton_append] at z1
      refine z1.trans ?_
      simpa using z2
/-- a is ahead of b -/
def Ahead (o : Od) (a b : Nat) : Prop := ∃ l r, o = l ++ a :: r ∧ b ∈ r
theorem ahead_step {R : Nat → Nat → Bool} {o p : Od} {x y : Nat} (hn : o.Nodup) (hR : R y x = false) (s : Step R o p) (h : Ahead o x y) : Ahead p x y := by
  cases s with
  | mk l a b r e =>
    obtain ⟨l1, r1, eq, hy⟩ := h
    have xy : x ≠ y := fun q => by
      rw [eq] at hn
      have := (List.nodup_append.mp hn).2.1
      rw [List.nodup_cons] at this
      exact this.1 (q ▸ hy)
    rcases List.append_eq_append_iff.mp eq with ⟨t, e1, e2⟩ | ⟨t, e1, e2⟩
    · -- l1 = l ++ t
      cases t with
      | nil =>
        simp only [List.nil_append, List.cons.injEq] at e2
        obtain ⟨rfl, e2⟩ := e2
        subst e1
        rw [← e2] at hy
        rcases List.mem_cons.mp hy with rfl | hy
        · rw [hR] at e; cases e
        · exact ⟨l ++ [b], r, by simp, hy⟩
      | cons t0 t =>
        simp only [List.cons_append, List.cons.injEq] at e2
        obtain ⟨rfl, e2⟩ := e2
        cases t with
        | nil =>
          simp only [List.nil_append, List.cons.injEq] at e2
          obtain ⟨rfl, e2⟩ := e2
          rw [← e2] at hy
          exact ⟨l, a :: r, rfl, List.mem_cons_of_mem _ hy⟩
        | cons t1 t =>
          simp only [List.cons_append, List.cons.injEq] at e2
          obtain ⟨rfl, e2⟩ := e2
          exact ⟨l ++ b :: a :: t, r1, by simp [e2], hy⟩
    · -- l = l1 ++ t
      cases t with
      | nil =>
        simp only [List.nil_append, List.cons.injEq] at e2
        obtain ⟨rfl, e2⟩ := e2
        simp only [List.append_nil] at e1
        subst e1
        rw [e2] at hy
        rcases List.mem_cons.mp hy with rfl | hy
        · rw [hR] at e; cases e
        · exact ⟨l ++ [b], r, by simp, hy⟩
      | cons t0 t =>
        simp only [List.cons_append, List.cons.injEq] at e2
        obtain ⟨rfl, e2⟩ := e2
        refine ⟨l1, t ++ b :: a :: r, by rw [e1]; simp, ?_⟩
        rw [e2] at hy
        simp only [List.mem_append, List.mem_cons] at hy ⊢
        rcases hy with h | h | h | h
        · exact .inl h
        · exact .inr (.inr (.inl h))
        · exact .inr (.inl h)
        · exact .inr (.inr (.inr h))
theorem ahead_star {R : Nat → Nat → Bool} {o p : Od} {x y : Nat} (hn : o.Nodup) (hR : R y x = false) (s : Star R o p) (h : Ahead o x y) : Ahead p x y := by
  induction s with
  | refl => exact h
  | tail s1 s2 ih => exact ahead_step (s1.perm.nodup_iff.mp hn) hR s2 ih
theorem Ahead.trans {o : Od} {a b c : Nat} (hn : o.Nodup) (h : Ahead o a b) (k : Ahead o b c) : Ahead o a c := by
  obtain ⟨l1, r1, e1, hb⟩ := h
  obtain ⟨l2, r2, e2, hc⟩ := k
  refine ⟨l1, r1, e1, ?_⟩
  obtain ⟨s, t, rfl⟩ := List.append_of_mem hb
  have e3 : (l1 ++ a :: s) ++ b :: t = l2 ++ b :: r2 := by rw [← e2, e1]; simp
  have hn2 : (l2 ++ b :: r2).Nodup := e2 ▸ hn
  have hb2 : b ∉ l2 := fun hm => by
    have := (List.nodup_append.mp hn2).2.2 b hm b List.mem_cons_self
    exact this rfl
  have hn3 : ((l1 ++ a :: s) ++ b :: t).Nodup := e3 ▸ hn2
  have hb3 : b ∉ l1 ++ a :: s := fun hm => by
    have := (List.nodup_append.mp hn3).2.2 b hm b List.mem_cons_self
    exact this rfl
  have : t = r2 := by
    rcases List.append_eq_append_iff.mp e3 with ⟨u, f1, f2⟩ | ⟨u, f1, f2⟩
    · cases u with
      | nil => simp only [List.nil_append, List.cons.injEq] at f2; exact f2.2
      | cons u0 u =>
        simp only [List.cons_append, List.cons.injEq] at f2
        obtain ⟨rfl, _⟩ := f2
        exact absurd (f1 ▸ List.mem_append_right _ List.mem_cons_self) hb2
    · cases u with
      | nil => simp only [List.nil_append, List.cons.injEq] at f2; exact f2.2.symm
      | cons u0 u =>
        simp only [List.cons_append, List.cons.injEq] at f2
        obtain ⟨rfl, _⟩ := f2
        exact absurd (f1 ▸ List.mem_append_right _ List.mem_cons_self) hb3
  rw [← this] at hc
  exact List.mem_append_right _ (List.mem_cons_of_mem _ hc)
theorem Ahead.asymm {o : Od} {a b : Nat} (hn : o.Nodup) (h : Ahead o a b) (k : Ahead o b a) : False := by
  obtain ⟨l, r, e, hm⟩ := Ahead.trans hn h k
  rw [e] at hn
  have := (List.nodup_append.mp hn).2.1
  rw [List.nodup_cons] at this
  exact this.1 hm
theorem Ahead.total {o : Od} {a b : Nat} (ha : a ∈ o) (hb : b ∈ o) (ne : a ≠ b) : Ahead o a b ∨ Ahead o b a := by
  obtain ⟨l, r, rfl⟩ := List.append_of_mem ha
  rcases List.mem_append.mp hb with h | h
  · obtain ⟨s, t, rfl⟩ := List.append_of_mem h
    exact .inr ⟨s, t ++ a :: r, by simp, by simp⟩
  · rcases List.mem_cons.mp h with h | h
    · exact absurd h.symm ne
    · exact .inl ⟨l, r, rfl, h⟩
/-! the first place of a thing -/
theorem ahead_idx {o : Od} {a b : Nat} (hn : o.Nodup) (ha : a ∈ o) (hb : b ∈ o) (ne : a ≠ b) : Ahead o a b ↔ o.idxOf a < o.idxOf b := by
  have key : ∀ {a b : Nat}, Ahead o a b → o.idxOf a < o.idxOf b := fun {a b} h => by
    obtain ⟨l, r, e, hm⟩ := h
    have hal : a ∉ l := fun z => by
      rw [e] at hn
      exact (List.nodup_append.mp hn).2.2 a z a List.mem_cons_self rfl
    have hbl : b ∉ l := fun z => by
      rw [e] at hn
      exact (List.nodup_append.mp hn).2.2 b z b (List.mem_cons_of_mem _ hm) rfl
    have hab : a ≠ b := fun z => by
      rw [e] at hn
      have := (List.nodup_append.mp hn).2.1
      rw [List.nodup_cons] at this
      exact this.1 (z ▸ hm)
    rw [e, List.idxOf_append, List.idxOf_append, if_neg hal, if_neg hbl, List.idxOf_cons, List.idxOf_cons]
    have q : (a == b) = false := by simp [hab]
    simp [q]
  refine ⟨key, fun h => ?_⟩
  rcases Ahead.total ha hb ne with h1 | h1
  · exact h1
  · have := key h1
    omega
/-! sets of orders -/
def Clo (R : Nat → Nat → Bool) (S : Od → Prop) : Od → Prop := fun o => ∃ s, S s ∧ Star R s o
theorem Clo.sub {R : Nat → Nat → Bool} {S : Od → Prop} {o : Od} (h : S o) : Clo R S o := ⟨o, h, .refl o⟩
theorem Clo.mono {R : Nat → Nat → Bool} {S T : Od → Prop} (h : ∀ o, S o → T o) : ∀ o, Clo R S o → Clo R T o := fun _ ⟨s, hs, k⟩ => ⟨s, h s hs, k⟩
def Chn : List (Nat → Nat → Bool) → (Od → Prop) → Od → Prop
  | [], S => S
  | R :: Rs, S => Chn Rs (Clo R S)
theorem Chn.mono : ∀ (Rs : List (Nat → Nat → Bool)) {S T : Od → Prop}, (∀ o, S o → T o) → ∀ o, Chn Rs S o → Chn Rs T o
  | [], _, _, h => h
  | R :: Rs, _, _, h => Chn.mono Rs (Clo.mono h)
theorem Chn.sub : ∀ (Rs : List (Nat → Nat → Bool)) {S : Od → Prop} {o : Od}, S o → Chn Rs S o
  | [], _, _, h => h
  | R :: Rs, _, _, h => Chn.sub Rs (Clo.sub h)
theorem Chn.app : ∀ (Rs Qs : List (Nat → Nat → Bool)) (S : Od → Prop), Chn (Rs ++ Qs) S = Chn Qs (Chn Rs S)
  | [], _, _ => rfl
  | R :: Rs, Qs, S => Chn.app Rs Qs (Clo R S)
theorem Chn.less (A B : List (Nat → Nat → Bool)) (R : Nat → Nat → Bool) {S : Od → Prop} {o : Od} (h : Chn (A ++ B) S o) : Chn (A ++ R :: B) S o := by
  rw [Chn.app] at h ⊢
  exact Chn.mono B (fun o h => Clo.sub h) o h
theorem Clo.perm {R : Nat → Nat → Bool} {S : Od → Prop} {b : Od} (h : ∀ o, S o → b.Perm o) : ∀ o, Clo R S o → b.Perm o := fun _ ⟨s, hs, k⟩ => (h s hs).trans k.perm
theorem Chn.perm : ∀ (Rs : List (Nat → Nat → Bool)) {S : Od → Prop} {b : Od}, (∀ o, S o → b.Perm o) → ∀ o, Chn Rs S o → b.Perm o
  | [], _, _, h => h
  | R :: Rs, _, _, h => Chn.perm Rs (Clo.perm h)
/-! how many orders there are -/
def insAll (x : Nat) : Od → List Od
  | [] => [[x]]
  | y :: l => (x :: y :: l) :: (insAll x l).map (y :: ·)
def perms : Od → List Od
  | [] => [[]]
  | x :: l => (perms l).flatMap (insAll x)
theorem mem_insAll (x : Nat) : ∀ (a b : Od), a ++ x :: b ∈ insAll x (a ++ b)
  | [], [] => by simp [insAll]
  | [], y :: b => by simp [insAll]
  | y :: a, b => by
    simp only [List.cons_append, insAll, List.mem_cons, List.mem_map]
    exact .inr ⟨_, mem_insAll x a b, rfl⟩
theorem mem_perms : ∀ {l o : Od}, l.Perm o → o ∈ perms l
  | [], o, h => by rw [List.nil_perm.mp h]; simp [perms]
  | x :: l, o, h => by
    have hx : x ∈ o := h.mem_iff.mp List.mem_cons_self
    obtain ⟨a, b, rfl⟩ := List.append_of_mem hx
    have h2 : l.Perm (a ++ b) := (List.perm_cons x).mp (h.trans List.perm_middle)
    simp only [perms, List.mem_flatMap]
    exact ⟨_, mem_perms h2, mem_insAll x a b⟩
theorem perms_len5 : ∀ {l : Od}, l.length ≤ 5 → (perms l).length ≤ 120 := by
  have ins : ∀ (x : Nat) (l : Od), (insAll x l).length = l.length + 1 := fun x l => by
    induction l with
    | nil => rfl
    | cons y l ih => simp [insAll, ih]
  have insl : ∀ (x : Nat) (l o : Od), o ∈ insAll x l → o.length = l.length + 1 := fun x l => by
    induction l with
    | nil => intro o h; simp [insAll] at h; simp [h]
    | cons y l ih =>
      intro o h
      simp only [insAll, List.mem_cons, List.mem_map] at h
      rcases h with rfl | ⟨z, hz, rfl⟩
      · rfl
      · simp [ih z hz]
  have pl : ∀ (l o : Od), o ∈ perms l → o.length = l.length := fun l => by
    induction l with
    | nil => intro o h; simp [perms] at h; simp [h]
    | cons x l ih =>
      intro o h
      simp only [perms, List.mem_flatMap] at h
      obtain ⟨p, hp, h⟩ := h
      rw [insl x p o h, ih p hp]; rfl
  have fl : ∀ (x n : Nat) (L : List Od), (∀ o ∈ L, o.length = n) → (L.flatMap (insAll x)).length = L.length * (n + 1) := fun x n L => by
    induction L with
    | nil => intro _; simp
    | cons o L ih =>
      intro h
      rw [List.flatMap_cons, List.length_append, ins, h o List.mem_cons_self, ih fun p hp => h p (List.mem_cons_of_mem _ hp), List.length_cons, Nat.add_mul]
      omega
  have step : ∀ (x : Nat) (l : Od), (perms (x :: l)).length = (perms l).length * (l.length + 1) := fun x l => fl x l.length (perms l) (pl l)
  intro l hl
  have n0 : (perms []).length = 1 := rfl
  match l, hl with
  | [], _ => decide
  | [a], _ => rw [step, n0]; simp
  | [a, b], _ => rw [step, step, n0]; simp
  | [a, b, c], _ => rw [step, step, step, n0]; simp
  | [a, b, c, d], _ => rw [step, step, step, step, n0]; simp
  | [a, b, c, d, e], _ => rw [step, step, step, step, step, n0]; simp
  | _ :: _ :: _ :: _ :: _ :: _ :: _, h => simp at h
end Pah
end
section
set_option maxHeartbeats 1000000
/-! EqT: what the defs about tables, chains, rows give. -/
namespace Pah
open PySem
@[simp] theorem str_a : Str.ofString "a" = ⟨#[97]⟩ := by decide +kernel
@[simp] theorem str_r : Str.ofString "r" = ⟨#[114]⟩ := by decide +kernel
@[simp] theorem str_w : Str.ofString "w" = ⟨#[119]⟩ := by decide +kernel
def kindsN : List Nat := [97, 114, 119]
/-- the nine pairs -/
def KP : List D := kindsN.flatMap fun a => kindsN.map fun b => D.tup [ch a, ch b]
/-- a table -/
abbrev Tab (T : List D) : Prop := T.Sublist KP
abbrev isK (c : Nat) : Prop := c ∈ kindsN
def KINDS : D := .tup [ch 97, ch 114, ch 119]
theorem kp_mem {d : D} (h : d ∈ KP) : ∃ a b, isK a ∧ isK b ∧ d = .tup [ch a, ch b] := by
  simp only [KP, List.mem_flatMap, List.mem_map] at h
  obtain ⟨a, ha, b, hb, rfl⟩ := h
  exact ⟨a, b, ha, hb, rfl⟩
theorem mem_kp {a b : Nat} (ha : isK a) (hb : isK b) : D.tup [ch a, ch b] ∈ KP := by
  simp only [KP, List.mem_flatMap, List.mem_map]
  exact ⟨a, ha, b, hb, rfl⟩
theorem isK_lt {c : Nat} (h : isK c) : c < 0x110000 := by
  have h : c ∈ [97, 114, 119] := h
  simp only [List.mem_cons, List.not_mem_nil, or_false] at h
  omega
theorem kp_plain : KP.all (D.plainN 1) = true := by decide +kernel
theorem kp_smp : KP.all D.smp = true := by decide +kernel
theorem kp_lt : KP.Pairwise (fun x y => ltD x y = some true) := by
  have : KP.Pairwise (fun x y => (ltD x y == some true) = true) := by decide +kernel
  exact this.imp fun h => by simpa using h
theorem kp_irr : KP.all (fun d => !(ltD d d == some true)) = true := by decide +kernel
theorem kp_nodup : KP.Nodup := by
  refine List.Pairwise.imp_of_mem (fun {a b} ha hb h e => ?_) kp_lt
  subst e
  have := List.all_eq_true.mp kp_irr a ha
  rw [h] at this
  exact absurd this (by decide)
theorem Tab.plain1 {T : List D} (h : Tab T) : ∀ d ∈ T, d.plainN 1 = true := fun d hd => List.all_eq_true.mp kp_plain d (h.subset hd)
theorem Tab.plains {T : List D} (h : Tab T) : Pah.plains T = true := by
  unfold Pah.plains
  rw [plainsN_all, List.all_eq_true]
  exact fun d hd => plainN_le (by decide) (h.plain1 d hd)
theorem Tab.smp {T : List D} (h : Tab T) : ∀ d ∈ T, d.smp = true := fun d hd => List.all_eq_true.mp kp_smp d (h.subset hd)
theorem Tab.len {T : List D} (h : Tab T) : T.length ≤ 9 := h.length_le
theorem KINDS_eq : (D.tup ((["a", "r", "w"] : List Str).map D.str)) = KINDS := by simp [KINDS]
theorem isin_kinds {c : Nat} (h : isK c) : isinD (ch c) KINDS = some true := by
  have : ∀ c ∈ kindsN, (isinD (ch c) KINDS == some true) = true := by decide +kernel
  simpa using this c h
/-- the defs about tables, chains, rows are there -/
structure Chains (G : Str → Option Fn) (C : Str → Option D) : Prop where
  is_within : G "is_within" = some p_is_within
  is_pair : G "is_pair" = some p_is_pair
  is_right_table : G "is_right_table" = some p_is_right_table
  need_table : G "need_table" = some p_need_table
  is_chain : G "is_chain" = some p_is_chain
  need_chain : G "need_chain" = some p_need_chain
  need_row : G "need_row" = some p_need_row
  need_places : G "need_places" = some p_need_places
  passed : G "passed" = some p_passed
  behind_bridge : G "behind_bridge" = some p_behind_bridge
  behind_chain : G "behind_chain" = some p_behind_chain
  first_orders : G "first_orders" = some p_first_orders
  orders_of : G "orders_of" = some p_orders_of
  held : G "held" = some p_held
  way_from : G "way_from" = some p_way_from
  orders : G "orders" = some p_orders
  can_lead : G "can_lead" = some p_can_lead
  holding : G "holding" = some p_holding
  rounds : G "rounds" = some p_rounds
  kinds : C "KINDS" = some KINDS
  most : C "MOST_BRIDGES" = some (.int (10 ^ 30))
section
variable {G : Str → Option Fn} {C : Str → Option D} {n : Nat} {m : Mm}
theorem r_is_within (g : Chains G C) (v lo hi : Int) : Rets (callF G C (n + 1) "is_within" [.int v, .int lo, .int hi] m) (.v (.bl (decide (lo ≤ v) && decide (v ≤ hi)))) m := by
  rw [callF_eq g.is_within rfl]
  by_cases h1 : lo ≤ v
  · simp [Rets, p_is_within, evSs_cons, retV, asB, asB2, lookV, readV, isTy, cmpop, h1]
  · simp [Rets, p_is_within, evSs_cons, retV, asB, asB2, lookV, readV, isTy, cmpop, h1]
theorem r_is_pair (g : Chains G C) {d : D} (hd : d ∈ KP) : Rets (callF G C (n + 1) "is_pair" [d] m) (.v (.bl true)) m := by
  obtain ⟨a, b, ha, hb, rfl⟩ := kp_mem hd
  rw [callF_eq g.is_pair rfl]
  have z := comp_pure (Φ := ⟨callF G C n, C⟩) (elt := (.and (.isty .str (.var 1)) (.cmp .isin (.var 1) (.gl "KINDS")))) (cond := .bl true) (tg := .nm 1) (it := .e (.var 0)) (s := ⟨[some (.v (.tup [ch a, ch b])), none], m⟩) (s0 := ⟨[some (.v (.tup [ch a, ch b])), none], m⟩) (ds := [ch a, ch b])
    (fun _ => true) (fun _ => .bl true) (fun d => [some (.v (.tup [ch a, ch b])), some (.v d)]) (by simp [readV, itemsV]) rfl (fun d hd => by
      have hc : ∃ c, isK c ∧ d = ch c := by
        simp only [List.mem_cons, List.not_mem_nil, or_false] at hd
        rcases hd with rfl | rfl
        · exact ⟨a, ha, rfl⟩
        · exact ⟨b, hb, rfl⟩
      obtain ⟨c, hc, rfl⟩ := hc
      have e := isin_kinds hc
      simp [asgT, wipe, Tg.vars, retV, asB, asB2, lookV, readV, isTy, cmpop, g.kinds, e]) (by simp [lim])
  simp [Rets, p_is_pair, evSs_cons, retV, asB, asB2, lookV, readV, isTy, cmpop, biD, lenD, itemsD, z, boolsD, back, Tg.vars, keptR]
theorem zip_lt {T : List D} (h : T.Pairwise (fun x y => ltD x y = some true)) : ∀ z ∈ zipD T (T.drop 1), ∃ x y, z = .tup [x, y] ∧ ltD x y = some true ∧ x ∈ T ∧ y ∈ T := by
  induction T with
  | nil => intro z hz; simp [zipD] at hz
  | cons x T ih =>
    intro z hz
    cases T with
    | nil => simp [zipD] at hz
    | cons y T =>
      rw [List.drop_succ_cons, List.drop_zero, zipD, List.mem_cons] at hz
      rcases hz with rfl | hz
      · exact ⟨x, y, rfl, (List.pairwise_cons.mp h).1 y List.mem_cons_self, List.mem_cons_self, List.mem_cons_of_mem _ List.mem_cons_self⟩
      · obtain ⟨a, b, e, k, m1, m2⟩ := ih (List.pairwise_cons.mp h).2 z (by simpa using hz)
        exact ⟨a, b, e, k, List.mem_cons_of_mem _ m1, List.mem_cons_of_mem _ m2⟩
theorem zipD_len {T U : List D} : (zipD T U).length ≤ T.length := by
  induction T generalizing U with
  | nil => cases U <;> simp [zipD]
  | cons x T ih => cases U with
    | nil => simp [zipD]
    | cons y U => simp [zipD]; exact ih
theorem bools_map {α : Type} (l : List α) (f : α → Bool) : boolsD (l.map fun x => D.bl (f x)) = some (l.map f) := by
  induction l with
  | nil => rfl
  | cons x l ih => simp [boolsD, ih]
theorem bools_true (l : List D) : boolsD (l.map fun _ => D.bl true) = some (l.map fun _ => true) := bools_map l fun _ => true
theorem r_is_right_table (g : Chains G C) {T : List D} (hT : Tab T) : Rets (callF G C (n + 2) "is_right_table" [.tup T] m) (.v (.bl true)) m := by
  rw [callF_eq g.is_right_table rfl]
  have hl := hT.len
  have z1 := comp_pure (Φ := ⟨callF G C (n + 1), C⟩) (elt := (.call "is_pair" (.cons (.var 3) .nil))) (cond := .bl true) (tg := .nm 3) (it := .e (.var 0)) (s := ⟨[some (.v (.tup T)), none, none, none], m⟩) (s0 := ⟨[some (.v (.tup T)), none, none, none], m⟩) (ds := T)
    (fun _ => true) (fun _ => .bl true) (fun d => [some (.v (.tup T)), none, none, some (.v d)]) (by simp [readV, itemsV]) rfl (fun d hd => by
      have e := (r_is_pair (n := n) (m := m) g (hT.subset hd)).out
      simp [asgT, wipe, Tg.vars, readV, e]) (by unfold lim; omega)
  have hlt : T.Pairwise (fun x y => ltD x y = some true) := kp_lt.sublist hT
  have z2 := comp_pure (Φ := ⟨callF G C (n + 1), C⟩) (elt := (.cmp .lt (.var 1) (.var 2))) (cond := .bl true) (tg := (.cons (.nm 1) (.cons (.nm 2) .nil))) (it := (.zip (.var 0) (.slice (.var 0) (.int 1) .no))) (s := ⟨[some (.v (.tup T)), none, none, none], m⟩) (s0 := ⟨[some (.v (.tup T)), none, none, none], m⟩) (ds := zipD T (T.drop 1))
    (fun _ => true) (fun _ => .bl true) (fun d => match d with
      | .tup [x, y] => [some (.v (.tup T)), some (.v x), some (.v y), none]
      | _ => []) (by
        have := cut_from T 1
        simp [readV, itemsV, asS, evO, lookV, optInt, sliceD] at this ⊢
        rw [this]) rfl (fun d hd => by
      obtain ⟨x, y, rfl, hxy, hx, hy⟩ := zip_lt hlt d hd
      obtain ⟨a, b, _, _, rfl⟩ := kp_mem (hT.subset hx)
      obtain ⟨a', b', _, _, rfl⟩ := kp_mem (hT.subset hy)
      simp [asgT, wipe, Tg.vars, readV, lookV, asB2, asB, cmpop, hxy]) (by have := zipD_len (T := T) (U := T.drop 1); unfold lim; omega)
  simp [Rets, p_is_right_table, evSs_cons, retV, asB, asB2, lookV, readV, isTy, cmpop, biD, lenD, itemsD, z1, z2, bools_true, back, Tg.vars, keptR]
theorem r_need_table (g : Chains G C) {T : List D} (hT : Tab T) : Rets (callF G C (n + 3) "need_table" [.tup T] m) (.v .non) m := by
  rw [callF_eq g.need_table rfl]
  have e := (r_is_right_table (n := n) (m := m) g hT).out
  simp [Rets, p_need_table, evSs_cons, readV, e]
end
end Pah
end
section
set_option maxHeartbeats 1000000
/-! EqC: what the defs about chains and rows give. -/
namespace Pah
open PySem
/-- a chain -/
abbrev chD (l : List (List D × Int)) : D := .tup (l.map fun p => .tup [.tup p.1, .int p.2])
structure IsCh (l : List (List D × Int)) : Prop where
  len : l.length ≤ 4
  tab : ∀ p ∈ l, Tab p.1
  lo : ∀ p ∈ l, 1 ≤ p.2
  hi : ∀ p ∈ l, p.2 ≤ 10 ^ 30
/-- a row -/
abbrev rowD (r : List Nat) : D := .str ⟨r.toArray⟩
structure IsRow (r : List Nat) : Prop where
  lo : 1 ≤ r.length
  hi : r.length ≤ 5
  ks : ∀ c ∈ r, isK c
theorem lim1 : 1 ≤ Pah.lim := by unfold Pah.lim; omega
theorem lim2 : 2 ≤ Pah.lim := by unfold Pah.lim; omega
theorem IsRow.lim {r : List Nat} (h : IsRow r) : r.length ≤ lim := Nat.le_trans h.hi (by decide)
theorem IsRow.at {r : List Nat} (h : IsRow r) {i : Nat} (hi : i < r.length) : isK (nth r i) := h.ks _ (nth_mem hi)
/-- the letter at y may pass the one at x -/
def rel (T : List D) (r : List Nat) (y x : Nat) : Bool := T.any fun z => eqD z (.tup [ch (nth r y), ch (nth r x)])
theorem isin_rel {T : List D} {r : List Nat} (hT : Tab T) (hr : IsRow r) {x y : Nat} (hx : x < r.length) (hy : y < r.length) : isinD (.tup [ch (nth r y), ch (nth r x)]) (.tup T) = some (rel T r y x) :=
  isin_tup (plain_pair (isK_lt (hr.at hy)) (isK_lt (hr.at hx))) hT.plains
section
variable {G : Str → Option Fn} {C : Str → Option D} {n : Nat} {m : Mm}
theorem r_is_chain (g : Chains G C) {l : List (List D × Int)} (hl : IsCh l) : Rets (callF G C (n + 3) "is_chain" [chD l] m) (.v (.bl true)) m := by
  refine rets_wp (wp_call g.is_chain rfl ?_)
  have h4 : ¬ (4 : Int) < (l.length : Int) := by have := hl.len; omega
  simp only [p_is_chain, wp_cons, List.map_cons, List.map_nil, List.cons_append, List.nil_append, List.replicate]
  simp [asB, asB2, lookV, readV, isTy, cmpop, biD, lenD, itemsD, itemsV, h4, wp_bind]
  refine wp_for (fun ds s => (∃ x, s = ⟨[some (.v (chD l)), x], m⟩) ∧ ∀ d ∈ ds, ∃ p ∈ l, d = .tup [.tup p.1, .int p.2]) (fun d ds s hI => ?_) (fun s hI => ?_) _ _ ⟨⟨_, rfl⟩, fun d hd => ?_⟩
  · obtain ⟨⟨x, rfl⟩, hd⟩ := hI
    obtain ⟨p, hp, rfl⟩ := hd d List.mem_cons_self
    have e1 := (r_is_right_table (n := n) (m := m) g (hl.tab p hp)).out
    have e2 := (r_is_within (n := n + 1) (m := m) g p.2 1 1000000000000000000000000000000).out
    have h1 := hl.lo p hp
    have h2 := hl.hi p hp
    refine ⟨[some (.v (chD l)), some (.v (.tup [.tup p.1, .int p.2]))], by simp [asgT], ?_⟩
    simp only [wp_cons]
    have h2' : p.2 ≤ 1000000000000000000000000000000 := by omega
    simp [asB, asB2, lookV, readV, isTy, cmpop, biD, lenD, itemsD, idxD, getAt, e1, e2, g.most, h1, h2']
    exact fun d hd' => by simpa using hd d (List.mem_cons_of_mem _ hd')
  · obtain ⟨⟨x, rfl⟩, hd⟩ := hI
    simp [retV]
  · simp only [List.mem_map] at hd
    obtain ⟨p, hp, rfl⟩ := hd
    exact ⟨p, hp, rfl⟩
theorem r_need_chain (g : Chains G C) {l : List (List D × Int)} (hl : IsCh l) : Rets (callF G C (n + 4) "need_chain" [chD l] m) (.v .non) m := by
  rw [callF_eq g.need_chain rfl]
  have e := (r_is_chain (n := n) (m := m) g hl).out
  simp [Rets, p_need_chain, evSs_cons, readV, e]
theorem r_need_row (g : Chains G C) {r : List Nat} (hr : IsRow r) : Rets (callF G C (n + 1) "need_row" [rowD r] m) (.v .non) m := by
  rw [callF_eq g.need_row rfl]
  have h1 : (1 : Int) ≤ (r.length : Int) := by have := hr.lo; omega
  have h5 : (r.length : Int) ≤ 5 := by have := hr.hi; omega
  have hlim := hr.lim
  have z := comp_pure (Φ := ⟨callF G C n, C⟩) (elt := (.cmp .isin (.var 1) (.gl "KINDS"))) (cond := .bl true) (tg := .nm 1) (it := .e (.var 0)) (s := ⟨[some (.v (rowD r)), none], m⟩) (s0 := ⟨[some (.v (rowD r)), none], m⟩) (ds := r.map ch)
    (fun _ => true) (fun _ => .bl true) (fun d => [some (.v (rowD r)), some (.v d)]) (by simp [readV, itemsV]) rfl (fun d hd => by
      obtain ⟨c, hc, rfl⟩ := List.mem_map.mp hd
      have e := isin_kinds (hr.ks c hc)
      simp [asgT, wipe, Tg.vars, readV, lookV, asB, asB2, cmpop, g.kinds, e]) (by simpa using hlim)
  simp [Rets, p_need_row, evSs_cons, retV, asB, asB2, lookV, readV, isTy, cmpop, biD, lenD, itemsD, z, bools_true, back, Tg.vars, keptR, Str.length, hlim, h1, h5, boolsD]
theorem r_need_places (g : Chains G C) {r : List Nat} (hr : IsRow r) {i j : Nat} (hi : i < r.length) (hj : j < r.length) (ne : i ≠ j) : Rets (callF G C (n + 2) "need_places" [rowD r, .int i, .int j] m) (.v .non) m := by
  rw [callF_eq g.need_places rfl]
  have hlim := hr.lim
  have e1 := (r_is_within (n := n) (m := m) g i 0 (r.length - 1)).out
  have e2 := (r_is_within (n := n) (m := m) g j 0 (r.length - 1)).out
  have h1 : (i : Int) ≤ r.length - 1 := by omega
  have h2 : (j : Int) ≤ r.length - 1 := by omega
  have ne' : ¬ ((i : Int) = j) := by omega
  simp [Rets, p_need_places, evSs_cons, retV, asB, asB2, lookV, readV, isTy, cmpop, binop, biD, lenD, itemsD, Str.length, hlim, e1, e2, h1, h2, asgT, ne']
/-- the orders behind one passing more -/
def swapAt (R : Nat → Nat → Bool) (o : Od) (k : Nat) : List Od := if R (nth o (k + 1)) (nth o k) = true then [o.take k ++ [nth o (k + 1), nth o k] ++ o.drop (k + 2)] else []
def swaps (R : Nat → Nat → Bool) (o : Od) : List Od := (List.range (o.length - 1)).flatMap (swapAt R o)
theorem mem_swaps {R : Nat → Nat → Bool} {o p : Od} : p ∈ swaps R o ↔ Step R o p := by
  unfold swaps swapAt
  simp only [List.mem_flatMap, List.mem_range]
  constructor
  · rintro ⟨k, hk, h⟩
    split at h
    · rename_i hR
      simp only [List.mem_singleton] at h
      have e : o = o.take k ++ nth o k :: nth o (k + 1) :: o.drop (k + 2) := by
        have h1 : k < o.length := by omega
        have h2 : k + 1 < o.length := by omega
        unfold nth
        rw [List.getD_eq_getElem?_getD, List.getD_eq_getElem?_getD, List.getElem?_eq_getElem h1, List.getElem?_eq_getElem h2]
        simp
      have s := Step.mk (R := R) (o.take k) (nth o k) (nth o (k + 1)) (o.drop (k + 2)) hR
      rw [← e] at s
      rw [h]
      simpa using s
    · simp at h
  · intro s
    cases s with
    | mk l a b r hR =>
      refine ⟨l.length, by simp, ?_⟩
      have g1 : nth (l ++ a :: b :: r) (l.length + 1) = b := by simp [nth]
      have g2 : nth (l ++ a :: b :: r) l.length = a := by simp [nth]
      rw [g1, g2, if_pos hR]
      simp
theorem r_passed (g : Chains G C) {T : List D} (hT : Tab T) {r : List Nat} (hr : IsRow r) {o : Od} (ho : ∀ x ∈ o, x < r.length) (hl : o.length ≤ 5) : Rets (callF G C (n + 1) "passed" [.tup T, rowD r, ordD o] m) (.l ((swaps (rel T r) o).map ordD)) m := by
  refine rets_wp (wp_call g.passed rfl ?_)
  simp only [p_passed, wp_cons, List.map_cons, List.map_nil, List.cons_append, List.nil_append, List.replicate]
  by_cases h0 : o.length = 0
  · have : o = [] := List.length_eq_zero_iff.mp h0
    subst this
    simp [asgT, asB, asB2, lookV, readV, isTy, cmpop, binop, biD, lenD, itemsD, range_m1, loopF, retV, swaps]
  have e1 : ((o.length : Int) - 1) = ((o.length - 1 : Nat) : Int) := by omega
  have hrg := range_nat (n := o.length - 1) (by omega)
  rw [← e1] at hrg
  simp [asgT, asB, asB2, lookV, readV, isTy, cmpop, binop, biD, lenD, itemsD, hrg, wp_bind]
  refine wp_forIx (fun k s => ∃ x, s = ⟨[some (.v (.tup T)), some (.v (rowD r)), some (.v (ordD o)), some (.l (((List.range k).flatMap (swapAt (rel T r) o)).map ordD)), x], m⟩) (fun k d s hk hI => ?_) (fun s hI => ?_) _ ⟨_, rfl⟩
  · obtain ⟨x, rfl⟩ := hI
    have hk2 : k < o.length - 1 := by
      have := (List.getElem?_eq_some_iff.mp hk).1
      simpa using this
    have hd : d = .int (k : Nat) := by
      rw [List.getElem?_map, List.getElem?_range hk2] at hk
      simpa using hk.symm
    subst hd
    have q1 : o[k]? = some (nth o k) := nth_get (by omega)
    have q2 : o[k + 1]? = some (nth o (k + 1)) := nth_get (by omega)
    have b1 : nth o k < r.length := ho _ (List.mem_of_getElem? q1)
    have b2 : nth o (k + 1) < r.length := ho _ (List.mem_of_getElem? q2)
    generalize ha : nth o k = a at q1 b1
    generalize hb : nth o (k + 1) = b at q2 b2
    have w1 : r[a]? = some (nth r a) := nth_get b1
    have w2 : r[b]? = some (nth r b) := nth_get b2
    have hin := isin_rel hT hr b1 b2
    have hs : (List.range (k + 1)).flatMap (swapAt (rel T r) o) = (List.range k).flatMap (swapAt (rel T r) o) ++ swapAt (rel T r) o k := by
      rw [List.range_succ, List.flatMap_append]; simp
    have hsw : swapAt (rel T r) o k = if rel T r b a = true then [o.take k ++ [b, a] ++ o.drop (k + 2)] else [] := by rw [swapAt, ha, hb]
    refine ⟨_, by simp [asgT]; rfl, ?_⟩
    have ix1 := idx_str (row := r) hr.lim (a : Int)
    have ix2 := idx_str (row := r) hr.lim (b : Int)
    rw [atI_nat, w1] at ix1
    rw [atI_nat, w2] at ix2
    have io1 : idxD (ordD o) (.int (k : Nat)) = some (.int (a : Nat)) := by simp [idxD, getAt, q1]
    have io2 : idxD (ordD o) (.int ((k : Nat) + 1)) = some (.int (b : Nat)) := by simp [idxD, getAt, q2]
    have hc1 := cut_to (o.map fun i => D.int (i : Nat)) k
    have hc2 := cut_from (o.map fun i => D.int (i : Nat)) (k + 2)
    have hc2 : cutD (o.map fun i => D.int (i : Nat)) (some ((k : Int) + 2)) none = _ := hc2
    cases hR : rel T r b a with
    | false =>
      rw [hR] at hin hsw
      simp only [wp_cons]
      simp [asB, asB2, lookV, readV, cmpop, binop, io1, io2, ix1, ix2, hin, lim2]
      rw [hs, hsw]; simp
    | true =>
      rw [hR] at hin hsw
      simp only [wp_cons]
      have le9 : ∀ {n : Nat}, n ≤ 9 → n ≤ Pah.lim := fun h => Nat.le_trans h (by unfold Pah.lim; omega)
      have l1 := le9 (n := (List.take k o).length + 2) (by simp; omega)
      have l2 := le9 (n := (List.take k o).length + 2 + (o.length - (k + 2))) (by simp; omega)
      simp [asB, asB2, asS, evO, optInt, lookV, lookL, readV, cmpop, binop, io1, io2, ix1, ix2, hin, sliceD, hc1, hc2, lim2]
      simp only [wp_cons]
      have lf : ((List.range k).flatMap (swapAt (rel T r) o)).length < Pah.lim := by
        refine Nat.lt_of_le_of_lt (m := 9) ?_ (by unfold Pah.lim; omega)
        have : ∀ k, ((List.range k).flatMap (swapAt (rel T r) o)).length ≤ k := fun k => by
          induction k with
          | zero => simp
          | succ k ih =>
            rw [List.range_succ, List.flatMap_append, List.length_append]
            have : ((List.flatMap (swapAt (rel T r) o) [k])).length ≤ 1 := by
              simp [swapAt]
              split <;> simp
            omega
        have := this k
        omega
      simp at l1 l2
      rw [hs, hsw]
      generalize (List.range k).flatMap (swapAt (rel T r) o) = F at lf ⊢
      simp [asB, asB2, asS, evO, optInt, lookV, lookL, readV, cmpop, binop, io1, io2, sliceD, hc1, hc2, lim2, l1, l2, appD, lf, List.map_take, List.map_drop]
  · obtain ⟨x, rfl⟩ := hI
    simp [retV, swaps]
end
end Pah
end
section
set_option maxHeartbeats 1000000
/-! EqB: bridges. -/
namespace Pah
open PySem
/-! sorted lists of orders -/
def leO (a b : Od) : Bool := leD (ordD a) (ordD b)
structure Srt (L : List Od) : Prop where
  le : L.Pairwise (fun a b => leO a b = true)
  nd : L.Nodup
theorem alike_ints : ∀ a b : List Nat, W.alikeAll (pys (a.map fun i => D.int (i : Nat))) (pys (b.map fun i => D.int (i : Nat))) = true
  | [], _ => by simp [pys, W.alikeAll]
  | _ :: _, [] => by simp [pys, W.alikeAll]
  | x :: a, y :: b => by simp [pys, W.alikeAll, D.py, W.alike]; exact alike_ints a b
theorem alike_ord (a b : Od) : W.alike (ordD a).py (ordD b).py = true := by
  simp only [D.py, W.alike]
  exact alike_ints a b
theorem leO_anti {a b : Od} (h : leO a b = true) (k : leO b a = true) : a = b := by
  have e := leD_anti (alike_ord a b) h k
  exact ordD_inj ((eqD_smp _ _ (smp_ordD a) (smp_ordD b)).mp e)
theorem srt_unique {L M : List Od} (h : Srt L) (k : Srt M) (e : ∀ o, o ∈ L ↔ o ∈ M) : L = M := by
  have p : L.Perm M := (List.perm_ext_iff_of_nodup h.nd k.nd).mpr e
  exact List.Perm.eq_of_pairwise (le := fun a b => leO a b = true) (fun a b _ _ h1 h2 => leO_anti h1 h2) h.le k.le p
theorem plains_ords (K : List Od) (n : Nat) : plainsN (n + 1) (K.map ordD) = true := by
  rw [plainsN_all, List.all_map, List.all_eq_true]
  exact fun o _ => plainN_le (Nat.le_add_left 1 n) (plain_ordD o)
theorem plain_ords (K : List Od) : (D.lst (K.map ordD)).plain = true := plains_ords K 18
theorem sort_ords {K : List Od} (hn : K.Nodup) (hl : K.length ≤ lim) (h1 : ∀ o ∈ K, o ≠ []) : ∃ L : List Od, sortD (K.map ordD) = some (L.map ordD) ∧ Srt L ∧ L.Perm K := by
  have hs : sortable (K.map ordD) = true := by
    unfold sortable plains
    rw [plains_ords K 19]
    simp only [Bool.and_eq_true, decide_eq_true_eq, Bool.or_eq_true, List.length_map]
    refine ⟨⟨⟨hl, trivial⟩, ?_⟩, .inl ?_⟩
    · rw [List.all_eq_true]
      intro a ha
      rw [List.all_eq_true]
      intro b hb
      obtain ⟨x, _, rfl⟩ := List.mem_map.mp ha
      obtain ⟨y, _, rfl⟩ := List.mem_map.mp hb
      exact alike_ord x y
    · rw [List.all_map, List.all_eq_true]
      intro o ho
      have := h1 o ho
      cases o with
      | nil => exact absurd rfl this
      | cons x o => rfl
  have p := List.mergeSort_perm K leO
  refine ⟨K.mergeSort leO, ?_, ⟨List.pairwise_mergeSort (le := leO) (fun _ _ _ h k => leD_trans h k) (fun _ _ => leD_total _ _) K, p.nodup_iff.mpr hn⟩, p⟩
  unfold sortD
  rw [if_pos hs]
  exact congrArg some (List.map_mergeSort (r := leO) (s := leD) (f := ordD) fun _ _ _ _ => rfl).symm
/-! dicts of orders -/
theorem nk_ord {a b : Od} (h : (ordD a).nk = (ordD b).nk) : a = b := by
  have : ∀ {a b : List Nat}, nks (a.map fun i => D.int (i : Nat)) = nks (b.map fun i => D.int (i : Nat)) → a = b := by
    intro a
    induction a with
    | nil => intro b h; cases b with
      | nil => rfl
      | cons _ _ => simp [nks] at h
    | cons x a ih => intro b h; cases b with
      | nil => simp [nks] at h
      | cons y b =>
        simp only [List.map_cons, nks, List.cons.injEq, D.nk, NestedKey.num.injEq] at h
        rw [ih h.2, Int.ofNat_inj.mp h.1]
  simp only [D.nk, NestedKey.tup.injEq] at h
  exact this h
theorem key_ord (o : Od) : (ordD o).key = true := by
  have : ∀ (n : Nat) (o : List Nat), keysN n (o.map fun i => D.int (i : Nat)) = true := fun n o => by
    induction o with
    | nil => rfl
    | cons x o ih => simp only [List.map_cons, keysN, ih, Bool.and_true]; cases n <;> rfl
  exact this 7 o
theorem has_ord (K : List Od) (o : Od) : hasKey (K.map ordD) (ordD o) = decide (o ∈ K) := by
  unfold hasKey
  rw [List.map_map, List.any_map]
  by_cases h : o ∈ K
  · rw [decide_eq_true h]
    exact List.any_eq_true.mpr ⟨o, h, decide_eq_true rfl⟩
  · rw [decide_eq_false h]
    cases e : K.any ((fun z => decide (z = (ordD o).nk)) ∘ (D.nk ∘ ordD)) with
    | false => rfl
    | true =>
      obtain ⟨x, hx, hz⟩ := List.any_eq_true.mp e
      exact absurd (nk_ord (of_decide_eq_true hz) ▸ hx) h
theorem put_new : ∀ {ks vs : List D} {x y : D}, hasKey ks x = false → ks.length = vs.length → putKey ks vs x y = (ks ++ [x], vs ++ [y])
  | [], [], _, _, _, _ => rfl
  | [], _ :: _, _, _, _, h => by simp at h
  | _ :: _, [], _, _, _, h => by simp at h
  | k :: ks, v :: vs, x, y, h, hl => by
    have h1 : ¬ k.nk = x.nk := fun e => by
      unfold hasKey at h
      rw [List.map_cons, List.any_cons, decide_eq_true e] at h
      simp at h
    have h2 : hasKey ks x = false := by
      unfold hasKey at h ⊢
      rw [List.map_cons, List.any_cons] at h
      simp only [Bool.or_eq_false_iff] at h
      exact h.2
    rw [putKey, if_neg h1, put_new h2 (by simpa using hl)]
    rfl
theorem ne_nil (L : List Od) : cmpop .ne (.lst (L.map ordD)) (.lst []) = some (!L.isEmpty) := by
  have h : (D.lst (L.map ordD)).plain = true ∧ (D.lst []).plain = true := ⟨plain_ords L, rfl⟩
  show (if _ then _ else _) = _
  rw [if_pos h]
  cases L <;> rfl
/-- what lies behind a bridge -/
structure BB (R : Nat → Nat → Bool) (S L : List Od) : Prop where
  srt : Srt L
  mem : ∀ o, o ∈ L ↔ Clo R (· ∈ S) o
section
variable {G : Str → Option Fn} {C : Str → Option D} {n : Nat} {m : Mm}
theorem r_behind_bridge (g : Chains G C) {T : List D} (hT : Tab T) {r : List Nat} (hr : IsRow r) {S : List Od} {b : Od} (hb : ∀ o ∈ S, b.Perm o) (hx : ∀ x ∈ b, x < r.length) (hb1 : 1 ≤ b.length) (hb5 : b.length ≤ 5) (hS : S.length ≤ 120) :
    ∃ L, Rets (callF G C (n + 2) "behind_bridge" [.tup T, rowD r, .lst (S.map ordD)] m) (.l (L.map ordD)) m ∧ BB (rel T r) S L := by
  generalize hR : rel T r = R
  suffices h : wp (callF G C (n + 2) "behind_bridge" [.tup T, rowD r, .lst (S.map ordD)] m) (fun r' s' => s'.mem = m ∧ ∃ L, r' = .l (L.map ordD) ∧ BB R S L) E0 by
    obtain ⟨a, s, e, rfl, L, rfl, hL⟩ := wp_ex h
    exact ⟨L, ⟨s.env, e⟩, hL⟩
  refine wp_call g.behind_bridge rfl ?_
  simp only [p_behind_bridge, wp_cons, List.map_cons, List.map_nil, List.cons_append, List.nil_append, List.replicate]
  simp [asB, lookV, biD, asgN, readV]
  have pmS : ∀ o, Clo R (· ∈ S) o → b.Perm o := Clo.perm (S := (· ∈ S)) hb
  have few : ∀ K : List Od, K.Nodup → (∀ o ∈ K, Clo R (· ∈ S) o) → K.length ≤ 120 := fun K hn hc => Nat.le_trans (nodup_len K (perms b) hn fun o ho => mem_perms (pmS o (hc o ho))) (perms_len5 hb5)
  refine wp_while (fun k s => ∃ (K line : List Od) (x : Option RV), s = ⟨[some (.v (.tup T)), some (.v (rowD r)), some (.v (.lst (S.map ordD))), some (.m (K.map ordD) (List.replicate K.length (.bl true))), some (.l (line.map ordD)), x], m⟩ ∧
      K.Nodup ∧ (∀ o ∈ K, Clo R (· ∈ S) o) ∧ (∀ o ∈ line, Clo R (· ∈ S) o) ∧ (∀ o ∈ K, ∀ p, Step R o p → p ∈ K ∨ p ∈ line) ∧ (∀ o ∈ S, o ∈ K ∨ o ∈ line) ∧ line.length + 5 * (120 - K.length) = k ∧ k ≤ 720) (fun k s hI => ?_) wf (S.length + 600) _ (by unfold wf; omega) ⟨[], S, none, rfl, List.nodup_nil, fun o h => (by cases h), fun o h => Clo.sub h, fun o h => (by cases h), fun o h => .inr h, by simp, by omega⟩
  obtain ⟨K, line, x, rfl, hn, hK, hL, hst, hin, hk, hk7⟩ := hI
  have hfew := few K hn hK
  rcases List.eq_nil_or_concat line with rfl | ⟨line, o, rfl⟩
  · -- the end
    have e := ne_nil []
    simp only [List.map_nil, List.isEmpty_nil, Bool.not_true] at e
    simp [asB, asB2, lookV, e, wp_cons]
    obtain ⟨L, e1, e2, e3⟩ := sort_ords hn (Nat.le_trans hfew (by unfold lim; omega)) fun o ho e => by
      have := (pmS o (hK o ho)).length_eq
      rw [e] at this
      simp only [List.length_nil] at this
      omega
    simp [retV, asB, lookV, biD, itemsQ, e1]
    refine ⟨L, rfl, e2, fun o => ?_⟩
    rw [e3.mem_iff]
    refine ⟨hK o, fun ⟨s0, h1, h2⟩ => ?_⟩
    exact h2.ind ((hin s0 h1).resolve_right (by simp)) fun a b ha st => (hst a ha b st).resolve_right (by simp)
  · have e := ne_nil (line ++ [o])
    have e' : (line ++ [o]).isEmpty = false := by simp
    rw [e'] at e
    simp only [List.map_append, List.map_cons, List.map_nil, Bool.not_false] at e
    have ho : Clo R (· ∈ S) o := hL o (by simp)
    have hp := pmS o ho
    have hhas := has_ord K o
    have hkey := key_ord o
    have hol : o.length ≤ 5 := by rw [← hp.length_eq]; exact hb5
    have hox : ∀ x ∈ o, x < r.length := fun x h => hx x (hp.mem_iff.mpr h)
    obtain ⟨sw, hsw⟩ : ∃ sw, sw = swaps R o := ⟨_, rfl⟩
    have hpass := (r_passed (n := n) (m := m) g hT hr hox hol).out
    rw [hR, ← hsw] at hpass
    simp only [List.concat_eq_append, List.map_append, List.map_cons, List.map_nil]
    simp [asB, asB2, lookV, e, wp_cons]
    simp [asgT, List.getLast?_append, List.dropLast_append]
    by_cases hm : o ∈ K
    · rw [decide_eq_true hm] at hhas
      simp [wp_cons, asB, asB2, lookV, cmpop, isinD, hkey, hhas]
      refine ⟨_, ?_, K, line, ⟨⟨rfl, rfl⟩, rfl⟩, hn, hK, fun p hp => hL p (by simp [hp]), fun p hp q hq => ?_, fun p hp => ?_, rfl, ?_⟩
      · simp at hk; omega
      · rcases hst p hp q hq with h | h
        · exact .inl h
        · simp only [List.concat_eq_append, List.mem_append, List.mem_singleton] at h
          rcases h with h | h
          · exact .inr h
          · exact .inl (h ▸ hm)
      · rcases hin p hp with h | h
        · exact .inl h
        · simp only [List.concat_eq_append, List.mem_append, List.mem_singleton] at h
          rcases h with h | h
          · exact .inr h
          · exact .inl (h ▸ hm)
      · simp at hk; omega
    · rw [decide_eq_false hm] at hhas
      simp [wp_cons, asB, asB2, lookV, cmpop, isinD, hkey, hhas]
      have hKl : K.length < lim := Nat.lt_of_le_of_lt hfew (by unfold lim; omega)
      have hput := put_new (y := .bl true) hhas (by simp) (vs := List.replicate K.length (.bl true))
      have hswl : sw.length ≤ 4 := by
        rw [hsw]
        unfold swaps
        have : ∀ k, ((List.range k).flatMap (swapAt R o)).length ≤ k := fun k => by
          induction k with
          | zero => simp
          | succ k ih =>
            rw [List.range_succ, List.flatMap_append, List.length_append]
            have : ((List.flatMap (swapAt R o) [k])).length ≤ 1 := by
              simp [swapAt]
              split <;> simp
            omega
        exact Nat.le_trans (this _) (by omega)
      have hk2 : line.length + 1 + 5 * (120 - K.length) = k := by simpa using hk
      have hll : line.length + sw.length ≤ lim := Nat.le_trans (m := 724) (by omega) (by unfold lim; omega)
      simp [wp_cons, asB, asB2, lookV, readV, hasS, setAtD, hkey, hKl, hput, hpass, binop, hll, asgT]
      have hn2 : (K ++ [o]).Nodup := by
        rw [List.nodup_append]
        exact ⟨hn, by simp, fun a ha b hb e => hm (by simp at hb; rw [← hb, ← e]; exact ha)⟩
      have hK2 : ∀ p ∈ K ++ [o], Clo R (· ∈ S) p := fun p hp => by
        rcases List.mem_append.mp hp with h | h
        · exact hK p h
        · rw [List.mem_singleton.mp h]; exact ho
      have hf2 := few (K ++ [o]) hn2 hK2
      simp only [List.length_append, List.length_singleton] at hf2
      refine ⟨_, ?_, K ++ [o], line ++ sw, ?_, hn2, hK2, fun p hp => ?_, fun p hp q hq => ?_, fun p hp => ?_, rfl, ?_⟩
      · simp; omega
      · simp [List.replicate_succ']
      · rcases List.mem_append.mp hp with h | h
        · exact hL p (by simp [h])
        · rw [hsw, mem_swaps] at h
          obtain ⟨s0, h1, h2⟩ := ho
          exact ⟨s0, h1, .tail h2 h⟩
      · rcases List.mem_append.mp hp with h | h
        · rcases hst p h q hq with h | h
          · exact .inl (by simp [h])
          · simp only [List.concat_eq_append, List.mem_append, List.mem_singleton] at h
            rcases h with h | h
            · exact .inr (by simp [h])
            · exact .inl (by simp [h])
        · rw [List.mem_singleton.mp h] at hq
          refine .inr (List.mem_append_right _ ?_)
          rw [hsw, mem_swaps]
          exact hq
      · rcases hin p hp with h | h
        · exact .inl (by simp [h])
        · simp only [List.concat_eq_append, List.mem_append, List.mem_singleton] at h
          rcases h with h | h
          · exact .inr (by simp [h])
          · exact .inl (by simp [h])
      · simp; omega
end
end Pah
end
section
set_option maxHeartbeats 1000000
/-! EqO: chains; holds; rounds. -/
namespace Pah
open PySem
/-- a list that comes -/
def isL (r : RV) (ds : List D) : Prop := r = .v (.lst ds) ∨ r = .l ds
theorem isL.d {r : RV} {ds : List D} (h : isL r ds) : r.d = .lst ds := by rcases h with rfl | rfl <;> rfl
theorem isL.it {r : RV} {ds : List D} (h : isL r ds) : itemsV r = some ds := by rcases h with rfl | rfl <;> rfl
abbrev chR (l : List (List D × Int)) (r : List Nat) : List (Nat → Nat → Bool) := l.map fun p => rel p.1 r
structure CB (Rs : List (Nat → Nat → Bool)) (S L : List Od) : Prop where
  srt : Srt L
  mem : ∀ o, o ∈ L ↔ Chn Rs (· ∈ S) o
theorem CB.few {Rs : List (Nat → Nat → Bool)} {S L : List Od} {b : Od} (h : CB Rs S L) (hb : ∀ o ∈ S, b.Perm o) (h5 : b.length ≤ 5) : (∀ o ∈ L, b.Perm o) ∧ L.length ≤ 120 := by
  have p : ∀ o ∈ L, b.Perm o := fun o ho => Chn.perm Rs (S := (· ∈ S)) hb o ((h.mem o).mp ho)
  exact ⟨p, Nat.le_trans (nodup_len L (perms b) h.srt.nd fun o ho => mem_perms (p o ho)) (perms_len5 h5)⟩
theorem CB.uniq {Rs : List (Nat → Nat → Bool)} {S L M : List Od} (h : CB Rs S L) (k : CB Rs S M) : L = M := srt_unique h.srt k.srt fun o => (h.mem o).trans (k.mem o).symm
section
variable {G : Str → Option Fn} {C : Str → Option D} {n : Nat} {m : Mm}
theorem rets_ex {x : Out RV} {P : RV → Prop} (h : wp x (fun r s => s.mem = m ∧ P r) E0) : ∃ r, Rets x r m ∧ P r := by
  obtain ⟨a, s, rfl, rfl, h2⟩ := wp_ex h
  exact ⟨a, ⟨s.env, rfl⟩, h2⟩
theorem r_behind_chain (g : Chains G C) {l : List (List D × Int)} (hl : IsCh l) {r : List Nat} (hr : IsRow r) {S : List Od} {b : Od} (hb : ∀ o ∈ S, b.Perm o) (hx : ∀ x ∈ b, x < r.length) (hb1 : 1 ≤ b.length) (hb5 : b.length ≤ 5) (hsrt : Srt S) :
    ∃ res, Rets (callF G C (n + 3) "behind_chain" [chD l, rowD r, .lst (S.map ordD)] m) res m ∧ ∃ L, isL res (L.map ordD) ∧ CB (chR l r) S L := by
  refine rets_ex (wp_call g.behind_chain rfl ?_)
  simp only [p_behind_chain, wp_cons, List.map_cons, List.map_nil, List.cons_append, List.nil_append, List.replicate]
  simp [readV, itemsV, wp_bind]
  refine wp_forIx (fun i s => ∃ (L : List Od) (r2 : RV) (x y : Option RV), s = ⟨[some (.v (chD l)), some (.v (rowD r)), some r2, x, y], m⟩ ∧ isL r2 (L.map ordD) ∧ CB ((chR l r).take i) S L) (fun i d s hi hI => ?_) (fun s hI => ?_) _ ⟨S, _, _, _, rfl, .inl rfl, ⟨hsrt, fun o => by simp [Chn]⟩⟩
  · obtain ⟨L, r2, x, y, rfl, h2, hc⟩ := hI
    rw [List.getElem?_map] at hi
    cases hp : l[i]? with
    | none => rw [hp] at hi; simp at hi
    | some p =>
      rw [hp] at hi
      simp only [Option.map_some, Option.some.injEq] at hi
      subst hi
      have hm := List.mem_of_getElem? hp
      obtain ⟨f1, f2⟩ := hc.few hb hb5
      obtain ⟨L', e, hB⟩ := r_behind_bridge (n := n) (m := m) g (hl.tab p hm) hr f1 hx hb1 hb5 f2
      have e := e.out
      have hcb : CB ((chR l r).take (i + 1)) S L' := by
        refine ⟨hB.srt, fun o => ?_⟩
        have ht : (chR l r).take (i + 1) = (chR l r).take i ++ [rel p.1 r] := by
          rw [List.take_succ, List.getElem?_map, hp]; rfl
        rw [hB.mem o, ht, Chn.app]
        show _ ↔ Clo _ _ o
        exact ⟨Clo.mono (fun o h => (hc.mem o).mp h) o, Clo.mono (fun o h => (hc.mem o).mpr h) o⟩
      refine ⟨[some (.v (chD l)), some (.v (rowD r)), some r2, some (.v (.tup p.1)), some (.v (.int p.2))], by simp [asgT], ?_⟩
      simp only [wp_cons]
      rcases h2 with rfl | rfl
      · simp [readV, e, asgT]
        exact ⟨L', .inr rfl, hcb⟩
      · simp [readV, e, asgT]
        exact ⟨L', .inr rfl, hcb⟩
  · obtain ⟨L, r2, x, y, rfl, h2, hc⟩ := hI
    simp [retV]
    refine ⟨L, h2, ?_⟩
    have : (chR l r).take (chR l r).length = chR l r := List.take_length
    rw [List.length_map] at this
    have hc : CB ((chR l r).take (l.map fun p => D.tup [.tup p.1, .int p.2]).length) S L := hc
    rw [List.length_map, this] at hc
    exact hc
theorem r_first_orders (g : Chains G C) {r : List Nat} (hr : IsRow r) : Rets (callF G C (n + 1) "first_orders" [rowD r] m) (.l ([List.range r.length].map ordD)) m := by
  rw [callF_eq g.first_orders rfl]
  have hlim := hr.lim
  have h2 : ((r.length : Int)) ≤ (lim : Nat) := by omega
  simp [Rets, p_first_orders, evSs_cons, retV, asB, lookV, biD, lenD, Str.length, hlim, h2, lim1]
theorem srt_one (o : Od) : Srt [o] := ⟨by simp, by simp⟩
/-- the orders behind a chain -/
abbrev Ords (l : List (List D × Int)) (r : List Nat) (L : List Od) : Prop := CB (chR l r) [List.range r.length] L
theorem first_perm {r : List Nat} : ∀ o ∈ [List.range r.length], (List.range r.length).Perm o := fun o h => by rw [List.mem_singleton.mp h]
theorem r_orders_of (g : Chains G C) {l : List (List D × Int)} (hl : IsCh l) {r : List Nat} (hr : IsRow r) :
    ∃ res, Rets (callF G C (n + 4) "orders_of" [chD l, rowD r] m) res m ∧ ∃ L, isL res (L.map ordD) ∧ Ords l r L := by
  obtain ⟨res, e, L, h1, h2⟩ := r_behind_chain (n := n) (m := m) g hl hr (S := [List.range r.length]) (b := List.range r.length) first_perm (fun x h => List.mem_range.mp h) (by simpa using hr.lo) (by simpa using hr.hi) (srt_one _)
  refine ⟨res, ?_, L, h1, h2⟩
  rw [callF_eq g.orders_of rfl]
  have e0 := (r_first_orders (n := n + 2) (m := m) g hr).out
  have e := e.out
  simp only [List.map_cons, List.map_nil] at e e0
  simp [Rets, p_orders_of, evSs_cons, retV, readV, e0, e]
theorem r_orders (g : Chains G C) {l : List (List D × Int)} (hl : IsCh l) {r : List Nat} (hr : IsRow r) :
    ∃ res, Rets (callF G C (n + 5) "orders" [chD l, rowD r] m) res m ∧ ∃ L, isL res (L.map ordD) ∧ Ords l r L := by
  obtain ⟨res, e, L, h1, h2⟩ := r_orders_of (n := n) (m := m) g hl hr
  refine ⟨res, ?_, L, h1, h2⟩
  rw [callF_eq g.orders rfl]
  have e1 := (r_need_chain (n := n) (m := m) g hl).out
  have e2 := (r_need_row (n := n + 3) (m := m) g hr).out
  have e := e.out
  simp [Rets, p_orders, evSs_cons, retV, readV, e1, e2, e]
theorem find_ord {o : Od} {x : Nat} (h : x ∈ o) : ∀ k, findIx (o.map fun i => D.int (i : Nat)) (.int (x : Nat)) k = some (k + o.idxOf x) := by
  induction o with
  | nil => cases h
  | cons y o ih =>
    intro k
    rw [List.map_cons, findIx, eqD_int, List.idxOf_cons]
    by_cases e : y = x
    · subst e
      simp
    · have e1 : ¬ ((y : Nat) : Int) = (x : Nat) := by omega
      have e2 : (y == x) = false := by simp [e]
      rw [decide_eq_false e1, e2]
      rw [if_neg (by decide), ih ((List.mem_cons.mp h).resolve_left (Ne.symm e))]
      simp
      omega
theorem plains_ord (o : Od) : plains (o.map fun i => D.int (i : Nat)) = true := by
  unfold plains
  rw [plainsN_all, List.all_map, List.all_eq_true]
  exact fun _ _ => rfl
theorem idx_ord {o : Od} {x : Nat} (h : x ∈ o) : mthD .index (ordD o) (.int (x : Nat)) = some (.v (.int (o.idxOf x : Nat))) := by
  have := find_ord h 0
  rw [Nat.zero_add] at this
  simp [mthD, plains_ord, this]
theorem r_can_lead (g : Chains G C) {l : List (List D × Int)} (hl : IsCh l) {r : List Nat} (hr : IsRow r) {i j : Nat} (hi : i < r.length) (hj : j < r.length) (ne : i ≠ j) :
    ∃ L, Rets (callF G C (n + 5) "can_lead" [chD l, rowD r, .int i, .int j] m) (.v (.bl (L.any fun o => decide (o.idxOf i < o.idxOf j)))) m ∧ Ords l r L := by
  obtain ⟨res, e, L, h1, h2⟩ := r_orders_of (n := n) (m := m) g hl hr
  refine ⟨L, ?_, h2⟩
  obtain ⟨hp, hf⟩ := h2.few first_perm (by simpa using hr.hi)
  rw [callF_eq g.can_lead rfl]
  have e1 := (r_need_chain (n := n) (m := m) g hl).out
  have e2 := (r_need_row (n := n + 3) (m := m) g hr).out
  have e3 := (r_need_places (n := n + 2) (m := m) g hr hi hj ne).out
  have e := e.out
  have hit := h1.it
  have z := comp_pure (Φ := ⟨callF G C (n + 4), C⟩) (elt := (.cmp .lt (.mth .index (.var 4) (.var 2)) (.mth .index (.var 4) (.var 3)))) (cond := .bl true) (tg := .nm 4) (it := .e (.call "orders_of" (.cons (.var 0) (.cons (.var 1) .nil)))) (s := ⟨[some (.v (chD l)), some (.v (rowD r)), some (.v (.int i)), some (.v (.int j)), none], m⟩) (s0 := ⟨[some (.v (chD l)), some (.v (rowD r)), some (.v (.int i)), some (.v (.int j)), none], m⟩) (ds := L.map ordD)
    (fun _ => true) (fun d => match d with
      | .tup ds => .bl (decide ((findIx ds (.int i) 0).getD 0 < (findIx ds (.int j) 0).getD 0))
      | _ => .non) (fun d => [some (.v (chD l)), some (.v (rowD r)), some (.v (.int i)), some (.v (.int j)), some (.v d)]) (by simp [readV, e, hit]) rfl (fun d hd => by
      obtain ⟨o, ho, rfl⟩ := List.mem_map.mp hd
      have pm := hp o ho
      have mi : i ∈ o := pm.mem_iff.mp (List.mem_range.mpr hi)
      have mj : j ∈ o := pm.mem_iff.mp (List.mem_range.mpr hj)
      simp [asgT, wipe, Tg.vars, readV, lookV, asB, asB2, asM, mok, kd, idx_ord mi, idx_ord mj, cmpop, find_ord mi 0, find_ord mj 0]) (by rw [List.length_map]; exact Nat.le_trans hf (by unfold lim; omega))
  have hL : ((L.map ordD).filter fun _ => true).map (fun d => match d with
      | .tup ds => D.bl (decide ((findIx ds (.int i) 0).getD 0 < (findIx ds (.int j) 0).getD 0))
      | _ => .non) = L.map fun o => .bl (decide (o.idxOf i < o.idxOf j)) := by
    rw [List.filter_eq_self.mpr fun _ _ => rfl, List.map_map]
    refine List.map_congr_left fun o ho => ?_
    have pm := hp o ho
    have mi : i ∈ o := pm.mem_iff.mp (List.mem_range.mpr hi)
    have mj : j ∈ o := pm.mem_iff.mp (List.mem_range.mpr hj)
    simp [find_ord mi 0, find_ord mj 0]
  rw [hL] at z
  have hb := bools_map L fun o => decide (o.idxOf i < o.idxOf j)
  simp [Rets, p_can_lead, evSs_cons, retV, readV, asB, e1, e2, e3, z, biD, hb]
/-! holds -/
end
inductive Way (R : Nat → Nat → Bool) : Nat → Nat → Prop
  | refl (x : Nat) : Way R x x
  | step {x y z : Nat} : x < y → R y x = false → Way R y z → Way R x z
theorem Way.le {R : Nat → Nat → Bool} {x y : Nat} (h : Way R x y) : x ≤ y := by
  induction h with
  | refl => exact Nat.le_refl _
  | step h _ _ ih => omega
inductive HL (R : Nat → Nat → Bool) : Nat → Nat → Od → Prop
  | one (x : Nat) : HL R x x [x]
  | cons {x y z : Nat} {l : Od} : x < y → R y x = false → HL R y z l → HL R x z (x :: l)
section
variable {G : Str → Option Fn} {C : Str → Option D} {n : Nat} {m : Mm}
theorem r_held (g : Chains G C) {T : List D} (hT : Tab T) {r : List Nat} (hr : IsRow r) {i j : Nat} (hi : i < r.length) (hj : j < r.length) (hij : i < j) :
    Rets (callF G C (n + 1) "held" [.tup T, rowD r, .int i, .int j] m) (.v (.bl (!rel T r j i))) m := by
  rw [callF_eq g.held rfl]
  have ix1 := idx_str (row := r) hr.lim (i : Int)
  have ix2 := idx_str (row := r) hr.lim (j : Int)
  rw [atI_nat, nth_get hi] at ix1
  rw [atI_nat, nth_get hj] at ix2
  have hin := isin_rel hT hr hi hj
  have h1 : (i : Int) < j := by omega
  simp [Rets, p_held, evSs_cons, retV, asB, asB2, lookV, readV, cmpop, h1, ix1, ix2, lim2, hin]
/-- what way_from gives -/
def wayD : Option Od → D
  | none => .non
  | some h => ordD h
theorem range_two {a b : Nat} (h : a ≤ b) (hb : b < 1000) : rangeD ((a : Int) + 1) ((b : Int) + 1) = some ((List.range (b - a)).map fun i => D.int ((a + 1 + i : Nat) : Int)) := by
  unfold rangeD
  rw [if_pos (by omega)]
  have : ((b : Int) + 1 - ((a : Int) + 1)).toNat = b - a := by omega
  rw [this]
  refine congrArg some (List.map_congr_left fun i _ => ?_)
  rw [Int.natCast_add, Int.natCast_add]
  rfl
theorem r_way_from (g : Chains G C) {T : List D} (hT : Tab T) {r : List Nat} (hr : IsRow r) {j : Nat} (hj : j < r.length) : ∀ (k i n : Nat), j - i = k → i ≤ j →
    ∃ w, Rets (callF G C (n + 2 + k) "way_from" [.tup T, rowD r, .int i, .int j] m) (.v (wayD w)) m ∧ (match w with
      | none => ¬ Way (rel T r) i j
      | some h => HL (rel T r) i j h ∧ h.length ≤ k + 1) := by
  intro k
  induction k using Nat.strongRecOn with
  | ind k ih =>
    intro i n hk hij
    suffices h : ∃ res, Rets (callF G C (n + 2 + k) "way_from" [.tup T, rowD r, .int i, .int j] m) res m ∧ ∃ w, res = .v (wayD w) ∧ (match w with
      | none => ¬ Way (rel T r) i j
      | some h => HL (rel T r) i j h ∧ h.length ≤ k + 1) by
      obtain ⟨res, h1, w, rfl, h2⟩ := h
      exact ⟨w, h1, h2⟩
    refine rets_ex ?_
    rw [show n + 2 + k = (n + 1 + k) + 1 by omega]
    refine wp_call g.way_from rfl ?_
    simp only [p_way_from, wp_cons, List.map_cons, List.map_nil, List.cons_append, List.nil_append, List.replicate]
    by_cases e : i = j
    · subst e
      simp [readV, lookV, asB, asB2, cmpop, wp_cons, retV, lim1]
      exact ⟨some [i], rfl, .one i, by simp⟩
    · have e' : ¬ ((i : Int) = j) := by omega
      have hrg := range_two hij (by have := hr.hi; omega)
      simp [readV, lookV, asB, asB2, cmpop, binop, e', hrg, wp_bind, wp_cons]
      refine wp_forIx (fun t s => (∃ x y, s = ⟨[some (.v (.tup T)), some (.v (rowD r)), some (.v (.int i)), some (.v (.int j)), x, y], m⟩) ∧ ∀ p, i < p → p < i + 1 + t → rel T r p i = false → ¬ Way (rel T r) p j) (fun t d s ht hI => ?_) (fun s hI => ?_) _ ⟨⟨_, _, rfl⟩, fun p h1 h2 => by omega⟩
      · obtain ⟨⟨x, y, rfl⟩, hno⟩ := hI
        have ht2 : t < j - i := by
          have := (List.getElem?_eq_some_iff.mp ht).1
          simpa using this
        rw [List.getElem?_map, List.getElem?_range ht2] at ht
        simp only [Option.map_some, Option.some.injEq] at ht
        subst ht
        have eh := (r_held (n := n + k) (m := m) g hT hr (i := i) (j := i + 1 + t) (by omega) (by omega) (by omega)).out
        rw [show n + k + 1 = n + 1 + k by omega] at eh
        obtain ⟨w, ew, hw⟩ := ih (j - (i + 1 + t)) (by omega) (i + 1 + t) (n + t) rfl (by omega)
        rw [show n + t + 2 + (j - (i + 1 + t)) = n + 1 + k by omega] at ew
        have ew := ew.out
        generalize hp : i + 1 + t = p at *
        refine ⟨[some (.v (.tup T)), some (.v (rowD r)), some (.v (.int i)), some (.v (.int j)), some (.v (.int p)), y], by simp [asgT]; omega, ?_⟩
        simp only [wp_cons]
        cases hR : rel T r p i with
        | true =>
          rw [hR] at eh
          simp [readV, eh, asgT, asB, lookV]
          refine fun q h1 h2 h3 => ?_
          by_cases hq : q = p
          · rw [hq, hR] at h3; cases h3
          · exact hno q h1 (by omega) h3
        | false =>
          rw [hR] at eh
          cases w with
          | none =>
            simp only [wayD] at ew
            simp [readV, eh, ew, asgT, asB, lookV]
            refine fun q h1 h2 h3 => ?_
            by_cases hq : q = p
            · rw [hq]; exact hw
            · exact hno q h1 (by omega) h3
          | some h =>
            simp only [wayD] at ew
            have hlen : h.length + 1 ≤ Pah.lim := Nat.le_trans (m := 9) (by have := hr.hi; have := hw.2; omega) (by unfold Pah.lim; omega)
            have hlen : 1 + h.length ≤ Pah.lim := by omega
            simp [readV, eh, ew, asgT, asB, asB2, lookV, wp_cons, retV, binop, lim1, hlen]
            refine ⟨some (i :: h), rfl, .cons (by omega) hR hw.1, ?_⟩
            have := hw.2
            simp
            omega
      · obtain ⟨⟨x, y, rfl⟩, hno⟩ := hI
        simp [retV]
        refine ⟨none, rfl, fun hway => ?_⟩
        cases hway with
        | refl => exact e rfl
        | step h1 h2 h3 =>
          have := h3.le
          exact hno _ h1 (by simp; omega) h2 h3
theorem r_holding (g : Chains G C) {T : List D} (hT : Tab T) {r : List Nat} (hr : IsRow r) {i j : Nat} (hij : i < j) (hj : j < r.length) :
    ∃ w, Rets (callF G C (n + 8) "holding" [.tup T, rowD r, .int i, .int j] m) (.v (wayD w)) m ∧ (match w with
      | none => ¬ Way (rel T r) i j
      | some h => HL (rel T r) i j h ∧ h.length ≤ 5) := by
  obtain ⟨w, ew, hw⟩ := r_way_from (m := m) g hT hr hj (j - i) i (n + 5 - (j - i)) rfl (by omega)
  rw [show n + 5 - (j - i) + 2 + (j - i) = n + 7 by have := hr.hi; omega] at ew
  refine ⟨w, ?_, ?_⟩
  · rw [callF_eq g.holding rfl]
    have e1 := (r_need_table (n := n + 4) (m := m) g hT).out
    have e2 := (r_need_row (n := n + 6) (m := m) g hr).out
    have e3 := (r_need_places (n := n + 5) (m := m) g hr (i := i) (j := j) (by omega) hj (by omega)).out
    have ew := ew.out
    have h1 : (i : Int) < j := by omega
    have h2 : ¬ (j : Int) < i := by omega
    simp [Rets, p_holding, evSs_cons, retV, readV, lookV, asB, e1, e2, e3, biD, h1, h2, ew]
  · cases w with
    | none => exact hw
    | some h => exact ⟨hw.1, by have := hw.2; have := hr.hi; omega⟩
/-! rounds -/
theorem eq_ords (L M : List Od) : cmpop .ne (.lst (L.map ordD)) (.lst (M.map ordD)) = some (!decide (L = M)) := by
  have h : (D.lst (L.map ordD)).plain = true ∧ (D.lst (M.map ordD)).plain = true := ⟨plain_ords L, plain_ords M⟩
  show (if _ then _ else _) = _
  rw [if_pos h]
  have s : ∀ L : List Od, (D.lst (L.map ordD)).smp = true := fun L => by
    rw [D.smp, smps_all, List.all_map, List.all_eq_true]
    exact fun o _ => smp_ordD o
  have := eqD_smp _ _ (s L) (s M)
  by_cases e : L = M
  · subst e
    rw [this.mpr rfl]; simp
  · have : eqD (.lst (L.map ordD)) (.lst (M.map ordD)) = false := by
      cases q : eqD (.lst (L.map ordD)) (.lst (M.map ordD)) with
      | false => rfl
      | true =>
        have := this.mp q
        rw [D.lst.injEq] at this
        exact absurd (map_ordD_inj this) e
    rw [this]; simp [e]
theorem r_rounds (g : Chains G C) {l : List (List D × Int)} (hl : IsCh l) {r : List Nat} (hr : IsRow r) {F1 F2 : List Od} (h1 : Ords l r F1) (h2 : CB (chR l r) F1 F2) :
    ∃ t : Nat, Rets (callF G C (n + 5) "rounds" [chD l, rowD r] m) (.v (.int t)) m ∧ (t = 0 ↔ F1 = [List.range r.length]) ∧ (t ≠ 0 → (t = 1 ↔ F2 = F1)) := by
  suffices h : ∃ res, Rets (callF G C (n + 5) "rounds" [chD l, rowD r] m) res m ∧ ∃ t : Nat, res = .v (.int t) ∧ (t = 0 ↔ F1 = [List.range r.length]) ∧ (t ≠ 0 → (t = 1 ↔ F2 = F1)) by
    obtain ⟨res, h1, t, rfl, h2⟩ := h
    exact ⟨t, h1, h2⟩
  refine rets_ex (wp_call g.rounds rfl ?_)
  simp only [p_rounds, wp_cons, List.map_cons, List.map_nil, List.cons_append, List.nil_append, List.replicate]
  have e1 := (r_need_chain (n := n) (m := m) g hl).out
  have e2 := (r_need_row (n := n + 3) (m := m) g hr).out
  have e3 := (r_first_orders (n := n + 3) (m := m) g hr).out
  have step : ∀ {S : List Od}, Srt S → (∀ o ∈ S, (List.range r.length).Perm o) → ∃ res, (∀ env, callOut (callF G C (n + 4) "behind_chain" [chD l, rowD r, .lst (S.map ordD)] m) env = .ok res ⟨env, m⟩) ∧ ∃ L, isL res (L.map ordD) ∧ CB (chR l r) S L := fun {S} hs hp => by
    obtain ⟨res, e, L, a, b⟩ := r_behind_chain (n := n + 1) (m := m) g hl hr (S := S) (b := List.range r.length) hp (fun x h => List.mem_range.mp h) (by simpa using hr.lo) (by simpa using hr.hi) hs
    exact ⟨res, e.out, L, a, b⟩
  obtain ⟨res, e4, L, hL, hC⟩ := step (srt_one (List.range r.length)) first_perm
  obtain rfl := hC.uniq h1
  simp only [List.map_cons, List.map_nil] at e4 e3
  simp [readV, e1, e2, e3, asgN, e4, asgT]
  refine wp_while (fun k s => ∃ (c : Nat) (S M : List Od) (rs rm : RV), s = ⟨[some (.v (chD l)), some (.v (rowD r)), some (.v (.int c)), some rs, some rm], m⟩ ∧ isL rs (S.map ordD) ∧ isL rm (M.map ordD) ∧ Srt S ∧ (∀ o ∈ S, (List.range r.length).Perm o) ∧ CB (chR l r) S M ∧
    (c = 0 → S = [List.range r.length]) ∧ (c = 1 → S = L) ∧ (1 ≤ c → L ≠ [List.range r.length]) ∧ (2 ≤ c → F2 ≠ L) ∧ k = 120 - S.length) (fun k s hI => ?_) wf 119 _ (by unfold wf; omega) ⟨0, [List.range r.length], L, _, _, ⟨by simp, .inl rfl, hL, srt_one _, first_perm, hC, fun _ => rfl, fun h => by omega, fun h => by omega, fun h => by omega, by simp⟩⟩
  obtain ⟨c, S, M, rs, rm, rfl, hrs, hrm, hS, hpS, hCB, g0, g1, g2, g3, hk⟩ := hI
  have he := eq_ords M S
  obtain ⟨f1, f2⟩ := hCB.few hpS (by simpa using hr.hi)
  simp only [evE_cmp, asB2, asB, lookV, List.getElem?_cons_succ, List.getElem?_cons_zero, bind_ok, hrs.d, hrm.d, he, Option.map_some, of_some, asBool_bl, wp_ok]
  by_cases hMS : M = S
  · subst hMS
    simp [wp_cons, retV, readV]
    refine ⟨c, rfl, ⟨fun h => ?_, fun h => ?_⟩, fun h => ⟨fun h1 => ?_, fun h1 => ?_⟩⟩
    · rw [g0 h] at hCB
      exact (hCB.uniq h1).symm
    · cases Nat.eq_zero_or_pos c with
      | inl h => exact h
      | inr h2 => exact absurd h (g2 h2)
    · rw [g1 h1] at hCB
      exact (hCB.uniq h2).symm
    · rcases Nat.lt_or_ge c 2 with h3 | h3
      · omega
      · exact absurd h1 (g3 h3)
  · obtain ⟨res', e5, M', hL', hC'⟩ := step hCB.srt f1
    have hlt : S.length < M.length := by
      have hsub : ∀ o ∈ S, o ∈ M := fun o ho => (hCB.mem o).mpr (Chn.sub _ ho)
      have hle := nodup_len S M hS.nd hsub
      refine Nat.lt_of_le_of_ne hle fun heq => hMS ?_
      refine srt_unique hCB.srt hS fun o => ⟨fun ho => ?_, hsub o⟩
      refine Classical.not_not.mp fun hno => ?_
      have := nodup_len (o :: S) M (List.nodup_cons.mpr ⟨hno, hS.nd⟩) (fun p hp => by
        rcases List.mem_cons.mp hp with rfl | hp
        · exact ho
        · exact hsub p hp)
      simp at this
      omega
    simp only [hMS, decide_false, Bool.not_false, if_true, wp_cons]
    have fin : ∃ k' < k, ∃ (c' : Nat) (S' M'' : List Od) (rs' rm' : RV), (⟨[some (.v (chD l)), some (.v (rowD r)), some (.v (.int ((c : Int) + 1))), some (.v (.lst (M.map ordD))), some res'], m⟩ : Pah.S) = ⟨[some (.v (chD l)), some (.v (rowD r)), some (.v (.int c')), some rs', some rm'], m⟩ ∧ isL rs' (S'.map ordD) ∧ isL rm' (M''.map ordD) ∧ Srt S' ∧ (∀ o ∈ S', (List.range r.length).Perm o) ∧ CB (chR l r) S' M'' ∧
        (c' = 0 → S' = [List.range r.length]) ∧ (c' = 1 → S' = L) ∧ (1 ≤ c' → L ≠ [List.range r.length]) ∧ (2 ≤ c' → F2 ≠ L) ∧ k' = 120 - S'.length := by
      refine ⟨120 - M.length, by omega, c + 1, M, M', _, _, ?_, .inl rfl, hL', hCB.srt, f1, hC', fun h => by omega, fun h => ?_, fun h => ?_, fun h => ?_, rfl⟩
      · simp
      · have hc : c = 0 := by omega
        rw [g0 hc] at hCB
        exact hCB.uniq h1
      · cases Nat.eq_zero_or_pos c with
        | inr h2 => exact g2 h2
        | inl h0 =>
          rw [g0 h0] at hCB hMS
          exact hCB.uniq h1 ▸ hMS
      · rcases Nat.lt_or_ge c 2 with h3 | h3
        · have hc : c = 1 := by omega
          rw [g1 hc] at hCB hMS
          exact hCB.uniq h2 ▸ hMS
        · exact g3 h3
    rcases hrm with rfl | rfl
    · simp [readV, asgT, e5, asB, asB2, lookV, binop]
      simpa using fin
    · simp [readV, asgT, e5, asB, asB2, lookV, binop]
      simpa using fin
end
end Pah
end
section
set_option maxHeartbeats 1000000
/-! EqL: what the laws draw from. -/
namespace Pah
open PySem
structure Draws (G : Str → Option Fn) : Prop where
  source : G "_law_source" = some l_source
  pick : G "_law_pick" = some l_pick
  chosen : G "_law_chosen" = some l_chosen
  kind_pairs : G "_law_kind_pairs" = some l_kind_pairs
  drawn_table : G "_law_drawn_table" = some l_drawn_table
/-- a source stands at j -/
def Src (m : Mm) (j : Nat) : Prop := ∃ a b : Int, m[j]? = some (.lst [.int a, .int b]) ∧ 0 ≤ a ∧ 0 ≤ b ∧ b < 1000000000000
/-- something was drawn -/
structure Adv (j : Nat) (m m' : Mm) : Prop where
  src : Src m' j
  len : m'.length = m.length
  oth : ∀ i, i ≠ j → m'[i]? = m[i]?
theorem Adv.refl {j : Nat} {m : Mm} (h : Src m j) : Adv j m m := ⟨h, rfl, fun _ _ => rfl⟩
theorem Adv.trans {j : Nat} {m m1 m2 : Mm} (h : Adv j m m1) (k : Adv j m1 m2) : Adv j m m2 := ⟨k.src, k.len.trans h.len, fun i hi => (k.oth i hi).trans (h.oth i hi)⟩
theorem mul_l {i j : Int} (h : -1000000000000 ≤ i) (k : i ≤ 1000000000000) : binop .mul (.int i) (.int j) = some (.v (.int (i * j))) := if_pos (.inl ⟨by omega, by omega⟩)
theorem mul_r {i j : Int} (h : -1000000000000 ≤ j) (k : j ≤ 1000000000000) : binop .mul (.int i) (.int j) = some (.v (.int (i * j))) := if_pos (.inr ⟨by omega, by omega⟩)
theorem mod_p {i j : Int} (h : 0 < j) : binop .mod (.int i) (.int j) = some (.v (.int (i % j))) := if_pos h
theorem fdiv_p {i j : Int} (h : 0 < j) (k : j < 10 ^ 40) : binop .fdiv (.int i) (.int j) = some (.v (.int (i / j))) := if_pos ⟨h, by omega⟩
@[simp] theorem add_i {i j : Int} : binop .add (.int i) (.int j) = some (.v (.int (i + j))) := Eq.trans rfl rfl
@[simp] theorem sub_i {i j : Int} : binop .sub (.int i) (.int j) = some (.v (.int (i - j))) := Eq.trans rfl rfl
theorem pow_i {i : Int} {k : Nat} (h : i.natAbs ≤ 1000) (hk : k ≤ 1000) : binop .pow (.int i) (.int (k : Nat)) = some (.v (.int (i ^ k))) := if_pos ⟨by omega, by omega, by omega⟩
theorem pow18 : binop .pow (.int 10) (.int 18) = some (.v (.int 1000000000000000000)) := (pow_i (i := 10) (k := 18) (by decide) (by decide)).trans (by congr)
theorem pow30 : binop .pow (.int 10) (.int 30) = some (.v (.int 1000000000000000000000000000000)) := (pow_i (i := 10) (k := 30) (by decide) (by decide)).trans (by congr)
theorem pow29 : binop .pow (.int 10) (.int 29) = some (.v (.int 100000000000000000000000000000)) := (pow_i (i := 10) (k := 29) (by decide) (by decide)).trans (by congr)
section
variable {G : Str → Option Fn} {C : Str → Option D} {n : Nat} {m : Mm}
theorem r_source (g : Draws G) (ns : List Int) (k : Nat) (hk : k < 1000) : ∃ m', Rets (callF G C (n + 1) "_law_source" [.lst (ns.map .int), .int k] m) (.v (.ref m.length)) m' ∧ Src m' m.length ∧ m'.length = m.length + 1 ∧ ∀ i, i < m.length → m'[i]? = m[i]? := by
  have main : ∀ z : Int, ∃ a b : Int, (0 ≤ a ∧ 0 ≤ b ∧ b < 1000000000000) ∧ evSs ⟨callF G C n, C⟩ (.cons (.asg (.nm 3) (.bin .mod (.bin .add (.bin .add (.bin .mul (.var 2) (.int 16807)) (.bin .mul (.int 60919) (.var 1))) (.int 31)) (.int 2147481173)))
      (.cons (.asg (.nm 3) (.bin .add (.bin .add (.bin .mod (.bin .mul (.var 3) (.var 3)) (.int 2147481151)) (.bin .mul (.int 2) (.var 1))) (.int 5)))
      (.cons (.ret (.lstM (.cons (.ite (.cmp .ge (.var 2) (.bin .pow (.int 10) (.int 18))) (.var 2) (.int 0)) (.cons (.var 3) .nil))))
      .nil))) ⟨[some (.v (.lst (ns.map .int))), some (.v (.int k)), some (.v (.int z)), none], m⟩ = .ok (.ret (.v (.ref m.length))) ⟨[some (.v (.lst (ns.map .int))), some (.v (.int k)), some (.v (.int z)), some (.v (.int b))], m ++ [.lst [.int a, .int b]]⟩ := by
    intro z
    have h1 := Int.emod_nonneg (z * 16807 + 60919 * k + 31) (b := 2147481173) (by decide)
    have h2 := Int.emod_lt_of_pos (z * 16807 + 60919 * k + 31) (b := 2147481173) (by decide)
    generalize hs : (z * 16807 + 60919 * k + 31) % 2147481173 = s at h1 h2
    have h3 := Int.emod_nonneg (s * s) (b := 2147481151) (by decide)
    have h4 := Int.emod_lt_of_pos (s * s) (b := 2147481151) (by decide)
    have q1 := mul_r (i := z) (j := 16807) (by decide) (by decide)
    have q2 := mul_l (i := 60919) (j := k) (by decide) (by decide)
    have q3 := mul_l (i := 2) (j := k) (by decide) (by decide)
    have q4 := mul_l (i := s) (j := s) (by omega) (by omega)
    have q5 := mod_p (i := z * 16807 + 60919 * k + 31) (j := 2147481173) (by decide)
    have q6 := mod_p (i := s * s) (j := 2147481151) (by decide)
    rw [hs] at q5
    by_cases hz : 1000000000000000000 ≤ z
    · refine ⟨z, s * s % 2147481151 + 2 * k + 5, ⟨by omega, by omega, by omega⟩, ?_⟩
      simp [evSs_cons, readV, lookV, asB, asB2, asgT, q1, q2, q3, q4, q5, q6, pow18, cmpop, hz, retV, lim2]
    · refine ⟨0, s * s % 2147481151 + 2 * k + 5, ⟨by omega, by omega, by omega⟩, ?_⟩
      simp [evSs_cons, readV, lookV, asB, asB2, asgT, q1, q2, q3, q4, q5, q6, pow18, cmpop, hz, retV, lim2]
  have fin : ∀ a b : Int, (0 ≤ a ∧ 0 ≤ b ∧ b < 1000000000000) → Src (m ++ [.lst [.int a, .int b]]) m.length ∧ (m ++ [MO.lst [.int a, .int b]]).length = m.length + 1 ∧ ∀ i, i < m.length → (m ++ [MO.lst [.int a, .int b]])[i]? = m[i]? := fun a b h => ⟨⟨a, b, by simp, h.1, h.2.1, h.2.2⟩, by simp, fun i hi => by rw [List.getElem?_append_left hi]⟩
  by_cases hl : k < ns.length
  · obtain ⟨a, b, hab, e⟩ := main ns[k]
    refine ⟨m ++ [.lst [.int a, .int b]], ?_, fin a b hab⟩
    rw [callF_eq g.source rfl]
    have h1 : (k : Int) < (ns.length : Int) := by omega
    have h2 : (ns.map D.int)[k]? = some (.int ns[k]) := by rw [List.getElem?_map, List.getElem?_eq_getElem hl]; rfl
    simp only [l_source]
    rw [evSs_cons]
    simp [Rets, asgT]
    rw [evSs_cons]
    simp [readV, lookV, asB, asB2, asgT, biD, lenD, itemsD, cmpop, h1, evSs_cons (r := .nil), idxD, getAt, hl, e]
  · obtain ⟨a, b, hab, e⟩ := main 0
    refine ⟨m ++ [.lst [.int a, .int b]], ?_, fin a b hab⟩
    rw [callF_eq g.source rfl]
    have h1 : ¬ (k : Int) < (ns.length : Int) := by omega
    simp only [l_source]
    rw [evSs_cons]
    simp [Rets, asgT]
    rw [evSs_cons]
    simp [readV, lookV, asB, asB2, asgT, biD, lenD, itemsD, cmpop, h1, e]
theorem r_pick (g : Draws G) {j : Nat} (hs : Src m j) {k : Int} (h0 : 0 < k) (h1 : k ≤ 10 ^ 30) : ∃ x m', Rets (callF G C (n + 1) "_law_pick" [.ref j, .int k] m) (.v (.int x)) m' ∧ Adv j m m' ∧ 0 ≤ x ∧ x < k := by
  obtain ⟨a, b, hm, ha, hb, hb2⟩ := hs
  have hj : j < m.length := (List.getElem?_eq_some_iff.mp hm).1
  have hd := deref_ref hm
  have fin : ∀ a' b' : Int, 0 ≤ a' → 0 ≤ b' → b' < 1000000000000 → Adv j m (m.set j (.lst [.int a', .int b'])) := fun a' b' x y z => ⟨⟨a', b', by rw [List.getElem?_set_self hj], x, y, z⟩, by simp, fun i hi => by rw [List.getElem?_set_ne (Ne.symm hi)]⟩
  by_cases hp : 0 < a
  · refine ⟨a % k, m.set j (.lst [.int (a / k), .int b]), ?_, fin _ _ (Int.ediv_nonneg ha (Int.le_of_lt h0)) hb hb2, Int.emod_nonneg _ (by omega), Int.emod_lt_of_pos _ h0⟩
    rw [callF_eq g.pick rfl]
    have q1 := mod_p (i := a) h0
    have q2 := fdiv_p (i := a) h0 (by omega)
    simp [Rets, l_pick, evSs_cons, readV, lookV, asB, asB2, asgT, hd, idxD, getAt, cmpop, hp, biD, q1, q2, hasS, setAtD, hm, place, L2.ixN, retV]
  · have ha0 : a = 0 := by omega
    subst ha0
    have e1 := Int.emod_nonneg (b * 44497 + 9973) (b := 2147483647) (by decide)
    have e2 := Int.emod_lt_of_pos (b * 44497 + 9973) (b := 2147483647) (by decide)
    have q1 := mul_r (i := b) (j := 44497) (by decide) (by decide)
    have q2 := mod_p (i := b * 44497 + 9973) (j := 2147483647) (by decide)
    generalize hs : (b * 44497 + 9973) % 2147483647 = s at e1 e2 q2
    have q3 := mul_l (i := s) (j := s) (by omega) (by omega)
    have q4 := mod_p (i := s * s) (j := 2147483399) (by decide)
    have q5 := fdiv_p (i := s * s % 2147483399) (j := 11) (by decide) (by decide)
    have q6 := mod_p (i := s * s % 2147483399 / 11) h0
    have hd2 : deref (m.set j (.lst [.int 0, .int s])) (.ref j) = .lst [.int 0, .int s] := deref_ref (by rw [List.getElem?_set_self hj])
    refine ⟨s * s % 2147483399 / 11 % k, m.set j (.lst [.int 0, .int s]), ?_, fin _ _ (by decide) (by omega) (by omega), Int.emod_nonneg _ (by omega), Int.emod_lt_of_pos _ h0⟩
    rw [callF_eq g.pick rfl]
    simp [Rets, l_pick, evSs_cons, readV, lookV, asB, asB2, asgT, hd, hd2, idxD, getAt, cmpop, biD, q1, q2, q3, q4, q5, q6, hasS, setAtD, hm, place, L2.ixN, retV]
theorem r_chosen (g : Draws G) {j : Nat} (hs : Src m j) {ds : List D} (h0 : ds ≠ []) (h1 : ds.length ≤ 1000) : ∃ x m', Rets (callF G C (n + 2) "_law_chosen" [.ref j, .lst ds] m) (.v x) m' ∧ Adv j m m' ∧ x ∈ ds := by
  have hl : 0 < ds.length := List.length_pos_iff.mpr h0
  obtain ⟨x, m', e, ad, x0, x1⟩ := r_pick (C := C) (n := n) g hs (k := ds.length) (by omega) (by omega)
  have e := e.out
  obtain ⟨i, rfl⟩ : ∃ i : Nat, x = i := ⟨x.toNat, by omega⟩
  have hi : i < ds.length := by omega
  refine ⟨ds[i], m', ?_, ad, List.getElem_mem hi⟩
  rw [callF_eq g.chosen rfl]
  simp [Rets, l_chosen, evSs_cons, readV, lookV, asB, asB2, biD, lenD, itemsD, e, idxD, getAt, hi, retV]
theorem r_kind_pairs (g : Draws G) : Rets (callF G C (n + 1) "_law_kind_pairs" [] m) (.l KP) m := by
  rw [callF_eq g.kind_pairs rfl]
  have arw : (Str.ofString "arw") = ⟨#[97, 114, 119]⟩ := by decide +kernel
  have z : ∀ (L : List D) (c : Nat) (y : Option RV), evE ⟨callF G C n, C⟩ (.comp (.tup (.cons (.var 1) (.cons (.var 2) .nil))) (.nm 2) (.e (.str ⟨#[97, 114, 119]⟩)) (.bl true)) ⟨[some (.l L), some (.v (ch c)), y], m⟩ = .ok (.l (kindsN.map fun b => .tup [ch c, ch b])) ⟨back [2] [some (.l L), some (.v (ch c)), y] [some (.l L), some (.v (ch c)), y], m⟩ := fun L c y => by
    have := comp_pure (Φ := ⟨callF G C n, C⟩) (elt := (.tup (.cons (.var 1) (.cons (.var 2) .nil)))) (cond := .bl true) (tg := .nm 2) (it := .e (.str ⟨#[97, 114, 119]⟩)) (s := ⟨[some (.l L), some (.v (ch c)), y], m⟩) (s0 := ⟨[some (.l L), some (.v (ch c)), y], m⟩) (ds := kindsN.map ch)
      (fun _ => true) (fun d => .tup [ch c, d]) (fun d => [some (.l L), some (.v (ch c)), some (.v d)]) (by simp [itemsV, arw, kindsN]) rfl (fun d hd => by simp [asgT, wipe, Tg.vars, readV, lim2]) (by simp [kindsN]; exact Nat.le_trans (by omega : 3 ≤ 9) (by unfold lim; omega))
    simpa [kindsN, Tg.vars] using this
  have l9 : ∀ {k : Nat}, k ≤ 9 → k ≤ lim := fun h => Nat.le_trans h (by unfold lim; omega)
  simp [Rets, l_kind_pairs, evSs_cons, asgT, itemsV, arw, loopF, asB, asB2, lookV, z, back, keptR, add_lst, le_lim, kindsN, retV, KP]
end
end Pah
end
section
set_option maxHeartbeats 1000000
/-! EqM: drawn tables; holds and orders (k42). -/
namespace Pah
open PySem
section
variable {G : Str → Option Fn} {C : Str → Option D} {n : Nat} {m : Mm}
theorem lt_i (i j : Int) : cmpop .lt (.int i) (.int j) = some (decide (i < j)) := rfl
theorem r_drawn_table (g : Draws G) {j : Nat} (hs : Src m j) : ∃ T m', Rets (callF G C (n + 3) "_law_drawn_table" [.ref j] m) (.v (.tup T)) m' ∧ Adv j m m' ∧ Tab T := by
  obtain ⟨x, m1, e1, ad1, hx⟩ := r_chosen (C := C) (n := n) g hs (ds := [.int 1, .int 2, .int 2, .int 3, .int 5]) (by simp) (by simp)
  obtain ⟨i, rfl⟩ : ∃ i : Int, x = .int i := by
    simp only [List.mem_cons, List.not_mem_nil, or_false] at hx
    rcases hx with rfl | rfl | rfl | rfl | rfl <;> exact ⟨_, rfl⟩
  have e1 := e1.out
  have e2 := (r_kind_pairs (C := C) (n := n + 1) (m := m1) g).out
  obtain ⟨xs, m', e3, hI, hsub⟩ := comp_mem (Φ := ⟨callF G C (n + 2), C⟩) (elt := .var 2) (cond := .cmp .lt (.call "_law_pick" (.cons (.var 0) (.cons (.int 6) .nil))) (.var 1)) (tg := .nm 2) (it := .e (.call "_law_kind_pairs" .nil)) (s := ⟨[some (.v (.ref j)), some (.v (.int i)), none], m1⟩) (s0 := ⟨[some (.v (.ref j)), some (.v (.int i)), none], m1⟩) (ds := KP)
    (fun d => [some (.v (.ref j)), some (.v (.int i)), some (.v d)]) (fun k acc m' => Adv j m m' ∧ acc.Sublist (KP.take k)) (by simp [e2, itemsV]) rfl ⟨ad1, by simp⟩ (fun k d acc m2 hd ⟨ad, hsub⟩ => by
      obtain ⟨y, m3, e4, ad3, _, _⟩ := r_pick (C := C) (n := n + 1) g ad.src (k := 6) (by decide) (by decide)
      have e4 := e4.out
      have tk : KP.take (k + 1) = KP.take k ++ [d] := by rw [List.take_succ, hd]; rfl
      refine ⟨by simp [asgT, wipe, Tg.vars], by simp [wipe, Tg.vars], decide (y < i), m3, by simp [asB2, asB, lookV, readV, e4, lt_i], fun _ => ⟨ad.trans ad3, ?_⟩, fun _ => ⟨.v d, m3, by simp [readV], ad.trans ad3, ?_⟩⟩
      · rw [tk]; exact hsub.trans (List.sublist_append_left _ _)
      · rw [tk]; exact hsub.append (List.Sublist.refl _)) (le_lim (by decide))
  rw [List.take_length] at hsub
  refine ⟨xs, m', ?_, hI, hsub⟩
  rw [callF_eq g.drawn_table rfl]
  simp [Rets, l_drawn_table, evSs_cons, readV, asgT, e1, le_lim, e3, asB, back, Tg.vars, keptR, biD, retV]
end
/-! who can lead -/
theorem ahead_range {n x y : Nat} (h : x < y) (hy : y < n) : Ahead (List.range n) x y := by
  refine ⟨List.range x, (List.range' (x + 1) (n - x - 1)), ?_, ?_⟩
  · rw [List.range_eq_range', List.range_eq_range']
    have e : n = x + (1 + (n - x - 1)) := by omega
    conv => lhs; rw [e]
    rw [← List.range'_append_1, ← List.range'_append_1]
    simp
  · rw [List.mem_range'_1]; omega
theorem way_ahead {R : Nat → Nat → Bool} {n x z : Nat} {o : Od} (hw : Way R x z) (hz : z < n) (s : Star R (List.range n) o) : x = z ∨ Ahead o x z := by
  induction hw with
  | refl => exact .inl rfl
  | step h1 h2 h3 ih =>
    have h4 := h3.le
    have a := ahead_star List.nodup_range h2 s (ahead_range h1 (by omega))
    rcases ih hz with rfl | b
    · exact .inr a
    · exact .inr (a.trans (s.perm.nodup_iff.mp List.nodup_range) b)
open Classical in
theorem lead_iff {R : Nat → Nat → Bool} {n i j : Nat} (hij : i < j) (hj : j < n) : (∃ o, Star R (List.range n) o ∧ o.idxOf j < o.idxOf i) ↔ ¬ Way R i j := by
  constructor
  · rintro ⟨o, s, h⟩ hw
    rcases way_ahead hw hj s with e | a
    · omega
    · have hn := s.perm.nodup_iff.mp (List.nodup_range (n := n))
      have mi : i ∈ o := s.perm.mem_iff.mp (List.mem_range.mpr (by omega))
      have mj : j ∈ o := s.perm.mem_iff.mp (List.mem_range.mpr hj)
      have := (ahead_idx hn mi mj (by omega)).mp a
      omega
  · intro hw
    let U : Nat → Bool := fun x => decide (¬ Way R x j)
    let l := List.range' i (j + 1 - i)
    have sp := Star.split (R := R) U l (by
      refine List.Pairwise.imp (fun {u v} huv hu hv => ?_) (List.pairwise_lt_range' (s := i) (n := j + 1 - i))
      have hu : ¬ Way R u j := of_decide_eq_true hu
      have hv : Way R v j := Classical.not_not.mp (of_decide_eq_false hv)
      cases e : R v u with
      | true => rfl
      | false => exact absurd (Way.step huv e hv) hu)
    have e1 : List.range n = List.range i ++ (l ++ List.range' (j + 1) (n - (j + 1))) := by
      rw [List.range_eq_range', List.range_eq_range']
      have e : n = i + ((j + 1 - i) + (n - (j + 1))) := by omega
      conv => lhs; rw [e]
      rw [← List.range'_append_1, ← List.range'_append_1]
      simp only [Nat.zero_add]
      rw [show i + (j + 1 - i) = j + 1 by omega]
    have st := (sp.post (List.range' (j + 1) (n - (j + 1)))).pre (List.range i)
    rw [← e1] at st
    refine ⟨_, st, ?_⟩
    have hn := st.perm.nodup_iff.mp (List.nodup_range (n := n))
    have mj : j ∈ l.filter fun x => !U x := by
      rw [List.mem_filter]
      refine ⟨List.mem_range'_1.mpr ⟨by omega, by omega⟩, ?_⟩
      have : U j = false := decide_eq_false (fun h => h (.refl j))
      rw [this]; rfl
    have mi : i ∈ l.filter U := by
      rw [List.mem_filter]
      exact ⟨List.mem_range'_1.mpr ⟨by omega, by omega⟩, decide_eq_true hw⟩
    refine (ahead_idx hn (by simp [mj]) (by simp [mi]) (by omega)).mp ?_
    obtain ⟨a, b, e⟩ := List.append_of_mem mj
    refine ⟨List.range i ++ a, b ++ (l.filter U ++ List.range' (j + 1) (n - (j + 1))), by rw [e]; simp, by simp [mi]⟩
/-! holds -/
theorem HL.asc {R : Nat → Nat → Bool} {x z : Nat} {l : Od} (h : HL R x z l) : l.Pairwise (· < ·) ∧ l.head? = some x ∧ l.getLast? = some z ∧ (∀ y ∈ l, x ≤ y ∧ y ≤ z) := by
  induction h with
  | one x => simp
  | @cons x y z l h1 h2 h3 ih =>
    obtain ⟨a, b, c, d⟩ := ih
    refine ⟨List.pairwise_cons.mpr ⟨fun w hw => by have := d w hw; omega, a⟩, rfl, ?_, fun w hw => ?_⟩
    · cases l with
      | nil => cases b
      | cons p l => rw [List.getLast?_cons_cons]; exact c
    · have hyz := d y (by cases l with
        | nil => cases b
        | cons p l => simp at b; simp [b])
      rcases List.mem_cons.mp hw with rfl | hw
      · omega
      · have := d w hw; omega
theorem HL.zip {R : Nat → Nat → Bool} {x z : Nat} {l : Od} (h : HL R x z l) : ∀ d ∈ zipD (l.map fun i => D.int (i : Nat)) ((l.map fun i => D.int (i : Nat)).drop 1), ∃ a b : Nat, d = .tup [.int a, .int b] ∧ R b a = false ∧ a ≤ z ∧ b ≤ z := by
  induction h with
  | one x => intro d hd; simp [zipD] at hd
  | @cons x y z l h1 h2 h3 ih =>
    obtain ⟨_, b, _, dd⟩ := h3.asc
    intro d hd
    cases l with
    | nil => cases b
    | cons p l =>
      simp only [List.head?_cons, Option.some.injEq] at b
      subst b
      simp only [List.map_cons, List.drop_succ_cons, List.drop_zero, zipD, List.mem_cons] at hd
      rcases hd with rfl | hd
      · have := dd p List.mem_cons_self
        exact ⟨x, p, rfl, h2, by omega, by omega⟩
      · exact ih d (by simpa using hd)
theorem leD_int {i j : Int} : leD (.int i) (.int j) = decide (i ≤ j) := by
  have e : leD (.int i) (.int j) = !(decide (j < i) || (!decide (i < j) && false)) := rfl
  rw [e]
  by_cases h : j < i
  · have h2 : ¬ i ≤ j := by omega
    simp [h, h2]
  · have h2 : i ≤ j := by omega
    simp [h, h2]
theorem dedup_id : ∀ {l : List D}, (l.map D.nk).Nodup → dedupD l = l
  | [], _ => rfl
  | x :: l, h => by
    rw [List.map_cons, List.nodup_cons] at h
    unfold dedupD
    have : (l.any fun z => decide (z.nk = x.nk)) = false := by
      cases e : l.any fun z => decide (z.nk = x.nk) with
      | false => rfl
      | true =>
        obtain ⟨z, hz, q⟩ := List.any_eq_true.mp e
        exact absurd (of_decide_eq_true q ▸ List.mem_map_of_mem hz) h.1
    rw [this, if_neg Bool.false_ne_true, dedup_id h.2]
theorem sortset_ints {l : Od} (h : l.Pairwise (· < ·)) (hl : l.length < 64) : biD .sortedset [ordD l] = some (.l (l.map fun i => D.int (i : Nat))) := by
  have nd : ((l.map fun i => D.int (i : Nat)).map D.nk).Nodup := by
    rw [List.map_map]
    exact List.Pairwise.map _ (fun a b (hab : a < b) e => by
      simp only [Function.comp, D.nk, NestedKey.num.injEq] at e
      omega) h
  have hi : (l.map fun i => D.int (i : Nat)).all isIntD = true := by
    rw [List.all_map, List.all_eq_true]
    exact fun _ _ => rfl
  have ok : setOk (l.map fun i => D.int (i : Nat)) = true := by
    unfold setOk
    rw [hi, List.length_map]
    simp
    omega
  have hs : sortable (l.map fun i => D.int (i : Nat)) = true := by
    unfold sortable
    rw [plains_ord, hi, List.length_map]
    simp only [Bool.and_eq_true, decide_eq_true_eq, Bool.or_eq_true, and_true, or_true]
    refine ⟨le_lim (by omega), ?_⟩
    rw [List.all_map, List.all_eq_true]
    intro a ha
    simp only [Function.comp]
    rw [List.all_map, List.all_eq_true]
    exact fun b hb => rfl
  show (if setOk _ = true then _ else _) = _
  rw [if_pos ok, dedup_id nd]
  unfold sortD
  rw [if_pos hs]
  refine congrArg (fun l => some (RV.l l)) (List.mergeSort_of_pairwise ?_)
  refine List.Pairwise.map _ (fun a b (hab : a < b) => ?_) h
  rw [leD_int]
  exact decide_eq_true (by omega)
theorem sortset_ords {L : List Od} (h : Srt L) (hl : L.length ≤ 120) (h1 : ∀ o ∈ L, o ≠ []) : biD .sortedset [.lst (L.map ordD)] = some (.l (L.map ordD)) := by
  have nd : ((L.map ordD).map D.nk).Nodup := by
    rw [List.map_map]
    exact List.Pairwise.map _ (fun a b (hab : a ≠ b) e => hab (nk_ord e)) h.nd
  have nb : ∀ o : Od, (ordD o).nb = true := fun o => by
    have : nbs (o.map fun i => D.int (i : Nat)) = true := by
      induction o with
      | nil => rfl
      | cons x o ih => simp [nbs, D.nb, ih]
    exact this
  have ok : setOk (L.map ordD) = true := by
    unfold setOk
    have a1 : (L.map ordD).all D.key = true := by
      rw [List.all_map, List.all_eq_true]
      exact fun o _ => key_ord o
    have a2 : (L.map ordD).all D.nb = true := by
      rw [List.all_map, List.all_eq_true]
      exact fun o _ => nb o
    rw [a1, a2, List.length_map]
    simp
    omega
  obtain ⟨M, e1, e2, e3⟩ := sort_ords h.nd (le_lim (by omega)) h1
  have : M = L := srt_unique e2 h fun o => e3.mem_iff
  show (if setOk _ = true then _ else _) = _
  rw [if_pos ok, dedup_id nd, e1, this]
  rfl
end Pah
end
section
set_option maxHeartbeats 200000
/-! Terms81: the further terms of k81 (printed by gen.py). -/
namespace Pah
def p_text_of : Fn := ⟨1, 3, (.cons (.ret (.mth .join (.str "\n") (.comp (.bin .add (.bin .add (.var 1) (.str " passes ")) (.var 2)) (.cons (.nm 1) (.cons (.nm 2) .nil)) (.e (.var 0)) (.bl true))))
  .nil)⟩
def p_read_words : Fn := ⟨1, 4, (.cons (.ite (.not (.isty .str (.var 0))) (.cons (.raise "InvalidText")
  .nil) .nil)
  (.cons (.asg (.nm 1) (.tup .nil))
  (.cons (.for (.nm 2) (.e (.ite (.cmp .ne (.var 0) (.str "")) (.mth .split (.var 0) (.str "\n")) (.lst .nil))) (.cons (.asg (.nm 3) (.mth .split (.var 2) (.str " ")))
  (.cons (.ite (.or (.cmp .ne (.bi .len (.cons (.var 3) .nil)) (.int 3)) (.cmp .ne (.idx (.var 3) (.int 1)) (.str "passes"))) (.cons (.raise "InvalidText")
  .nil) .nil)
  (.cons (.asg (.nm 1) (.bin .add (.var 1) (.tup (.cons (.tup (.cons (.idx (.var 3) (.int 0)) (.cons (.idx (.var 3) (.int 2)) .nil))) .nil))))
  .nil))))
  (.cons (.ite (.not (.call "is_right_table" (.cons (.var 1) .nil))) (.cons (.raise "InvalidText")
  .nil) .nil)
  (.cons (.ret (.var 1))
  .nil)))))⟩
def p_table_text : Fn := ⟨1, 1, (.cons (.expr (.call "need_table" (.cons (.var 0) .nil)))
  (.cons (.ret (.call "text_of" (.cons (.var 0) .nil)))
  .nil))⟩
def p_read_table : Fn := ⟨1, 1, (.cons (.ret (.call "read_words" (.cons (.var 0) .nil)))
  .nil)⟩
def p_with_pair : Fn := ⟨2, 2, (.cons (.ite (.or (.not (.call "is_pair" (.cons (.var 1) .nil))) (.cmp .isin (.var 1) (.var 0))) (.cons (.raise "InvalidTable")
  .nil) .nil)
  (.cons (.ret (.bi .tuple (.cons (.bi .sorted (.cons (.bin .add (.var 0) (.tup (.cons (.var 1) .nil))) .nil)) .nil)))
  .nil))⟩
def p_without_pair : Fn := ⟨2, 3, (.cons (.ite (.or (.not (.call "is_pair" (.cons (.var 1) .nil))) (.cmp .notin (.var 1) (.var 0))) (.cons (.raise "InvalidTable")
  .nil) .nil)
  (.cons (.ret (.bi .tuple (.cons (.comp (.var 2) (.nm 2) (.e (.var 0)) (.cmp .ne (.var 2) (.var 1))) .nil)))
  .nil))⟩
def l_wide : Fn := ⟨3, 3, (.cons (.ret (.and (.isty .tuple (.var 0)) (.cmp2 .le .le (.var 1) (.bi .len (.cons (.var 0) .nil)) (.var 2))))
  .nil)⟩
def l_by_one : Fn := ⟨2, 2, (.cons (.ret (.refd (.callV 0 (.cons (.var 1) .nil))))
  .nil)⟩
def l_good_table : Fn := ⟨1, 3, (.cons (.ite (.not (.isty .tuple (.var 0))) (.cons (.ret (.bl false))
  .nil) .nil)
  (.cons (.for (.nm 1) (.e (.var 0)) (.cons (.ite (.or (.not (.call "_law_wide" (.cons (.var 1) (.cons (.int 2) (.cons (.int 2) .nil))))) (.cmp .ne (.comp (.var 2) (.nm 2) (.e (.var 1)) (.not (.isty .str (.var 2)))) (.lst .nil))) (.cons (.ret (.bl false))
  .nil) .nil)
  (.cons (.ite (.cmp .notin (.var 1) (.call "_law_kind_pairs" .nil)) (.cons (.ret (.bl false))
  .nil) .nil)
  .nil)))
  (.cons (.ret (.cmp .eq (.bi .list (.cons (.var 0) .nil)) (.bi .sortedset (.cons (.var 0) .nil))))
  .nil)))⟩
def l_due : Fn := ⟨1, 6, (.cons (.ite (.not (.isty .str (.var 0))) (.cons (.ret (.str "text"))
  .nil) .nil)
  (.cons (.asg (.nm 1) (.bi .dict (.cons (.comp (.tup (.cons (.bin .add (.bin .add (.idx (.var 5) (.int 0)) (.str " passes ")) (.idx (.var 5) (.int 1))) (.cons (.var 5) .nil))) (.nm 5) (.e (.call "_law_kind_pairs" .nil)) (.bl true)) .nil)))
  (.cons (.asg (.nm 2) (.ite (.cmp .ne (.var 0) (.str "")) (.mth .split (.var 0) (.str "\n")) (.lst .nil)))
  (.cons (.asg (.nm 3) (.comp (.get 1 (.var 4)) (.nm 4) (.e (.var 2)) (.bl true)))
  (.cons (.ite (.cmp .isin .non (.var 3)) (.cons (.ret (.str "text"))
  .nil) .nil)
  (.cons (.ret (.ite (.call "_law_good_table" (.cons (.bi .tuple (.cons (.var 3) .nil)) .nil)) (.bi .tuple (.cons (.var 3) .nil)) (.str "text")))
  .nil))))))⟩
def l_read : Fn := ⟨1, 2, (.cons (.tryr (.cons (.ret (.call "read_table" (.cons (.var 0) .nil)))
  .nil))
  .nil)⟩
def l_read_too : Fn := ⟨1, 2, (.cons (.tryr (.cons (.ret (.prop "Table" (.cm "Table" "read" (.var 0)) "source"))
  .nil))
  .nil)⟩
def l_bent : Fn := ⟨2, 8, (.cons (.par (.cons (.nm 2) (.cons (.nm 3) .nil)) (.cons (.call "_law_pick" (.cons (.var 0) (.cons (.int 6) .nil))) (.cons (.call "_law_pick" (.cons (.var 0) (.cons (.bin .add (.bi .len (.cons (.var 1) .nil)) (.int 1)) .nil))) .nil)))
  (.cons (.asg (.nm 4) (.str "wra ps\nx"))
  (.cons (.ite (.cmp .lt (.var 2) (.int 2)) (.cons (.ret (.bin .add (.bin .add (.slice (.var 1) .no (.var 3)) (.idx (.var 4) (.call "_law_pick" (.cons (.var 0) (.cons (.bi .len (.cons (.var 4) .nil)) .nil))))) (.slice (.var 1) (.bin .add (.var 3) (.var 2)) .no)))
  .nil) .nil)
  (.cons (.ite (.cmp .eq (.var 2) (.int 2)) (.cons (.ret (.bin .add (.slice (.var 1) .no (.var 3)) (.slice (.var 1) (.bin .add (.var 3) (.int 1)) .no)))
  .nil) .nil)
  (.cons (.asg (.nm 5) (.mth .split (.var 1) (.str "\n")))
  (.cons (.asg (.nm 3) (.call "_law_pick" (.cons (.var 0) (.cons (.bi .len (.cons (.var 5) .nil)) .nil))))
  (.cons (.ite (.cmp .eq (.var 2) (.int 3)) (.cons (.ret (.mth .join (.str "\n") (.bin .add (.slice (.var 5) .no (.var 3)) (.slice (.var 5) (.bin .add (.var 3) (.int 1)) .no))))
  .nil) .nil)
  (.cons (.ite (.cmp .eq (.var 2) (.int 4)) (.cons (.asg (.nm 7) (.rev (.slice (.var 5) (.var 3) (.bin .add (.var 3) (.int 2)))))
  (.cons (.ret (.mth .join (.str "\n") (.bin .add (.bin .add (.slice (.var 5) .no (.var 3)) (.var 7)) (.slice (.var 5) (.bin .add (.var 3) (.int 2)) .no))))
  .nil)) .nil)
  (.cons (.asg (.nm 6) (.lst (.cons (.str "a passes a") (.cons (.str "w passes w") (.cons (.str "r passes x") (.cons (.str "w pass r") (.cons (.str "w passes  r") (.cons (.str "passes w r") (.cons (.str "") (.cons (.str "w passes w w") .nil))))))))))
  (.cons (.ret (.mth .join (.str "\n") (.bin .add (.bin .add (.slice (.var 5) .no (.bin .add (.var 3) (.int 1))) (.lst (.cons (.call "_law_chosen" (.cons (.var 0) (.cons (.var 6) .nil))) .nil))) (.slice (.var 5) (.bin .add (.var 3) (.int 1)) .no))))
  .nil))))))))))⟩
def l_law_k81 : Fn := ⟨1, 11, (.cons (.for (.nm 1) (.range1 (.bi .max (.cons (.int 6) (.cons (.bi .min (.cons (.int 20) (.cons (.bi .len (.cons (.var 0) .nil)) .nil))) .nil)))) (.cons (.asg (.nm 3) (.call "_law_source" (.cons (.var 0) (.cons (.var 1) .nil))))
  (.cons (.asg (.nm 4) (.call "_law_drawn_table" (.cons (.var 3) .nil)))
  (.cons (.asg (.nm 5) (.mth .join (.str "\n") (.comp (.bin .add (.bin .add (.idx (.var 10) (.int 0)) (.str " passes ")) (.idx (.var 10) (.int 1))) (.nm 10) (.e (.var 4)) (.bl true))))
  (.cons (.ite (.or (.cmp .ne (.call "table_text" (.cons (.var 4) .nil)) (.var 5)) (.cmp .ne (.call "_law_read" (.cons (.var 5) .nil)) (.var 4))) (.cons (.ret (.bl false))
  .nil) .nil)
  (.cons (.asg (.nm 6) (.lst (.cons .non (.cons (.int 7) (.cons (.str "") (.cons (.str "\n") (.cons (.bin .add (.var 5) (.str "\n")) (.cons (.bin .add (.str " ") (.var 5)) (.cons (.tup (.cons (.var 5) .nil)) (.cons (.var 4) (.cons (.upper (.var 5)) (.cons (.bin .add (.var 5) (.str " ")) .nil))))))))))))
  (.cons (.for (.nm 7) (.range1 (.int 16)) (.cons (.asg (.nm 9) (.call "_law_bent" (.cons (.var 3) (.cons (.var 5) .nil))))
  (.cons (.asg (.nm 6) (.bin .add (.var 6) (.lst (.cons (.var 5) (.cons (.var 9) (.cons (.call "_law_bent" (.cons (.var 3) (.cons (.var 9) .nil))) .nil))))))
  .nil)))
  (.cons (.for (.nm 8) (.e (.var 6)) (.cons (.ite (.or (.cmp .ne (.call "_law_read" (.cons (.var 8) .nil)) (.call "_law_due" (.cons (.var 8) .nil))) (.cmp .ne (.call "_law_read_too" (.cons (.var 8) .nil)) (.call "_law_due" (.cons (.var 8) .nil)))) (.cons (.ret (.bl false))
  .nil) .nil)
  .nil))
  (.cons (.ite (.cmp .ne (.call "_law_by_one" (.cons (.gl "table_text") (.cons (.var 5) .nil))) (.str "table")) (.cons (.ret (.bl false))
  .nil) .nil)
  .nil)))))))))
  (.cons (.asg (.nm 2) (.lst (.cons (.str "w  passes r") (.cons (.str "w over r") (.cons (.str "\nw passes r") (.cons (.str "w passes r\nw passes r") (.cons (.str "r passes a\na passes r") (.cons (.str "w passes r ") .nil))))))))
  (.cons (.ite (.cmp .ne (.comp (.call "_law_read" (.cons (.var 5) .nil)) (.nm 5) (.e (.var 2)) (.bl true)) (.bin .mul (.lst (.cons (.str "text") .nil)) (.int 6))) (.cons (.ret (.bl false))
  .nil) .nil)
  (.cons (.ret (.and (.cmp .eq (.call "table_text" (.cons (.tup .nil) .nil)) (.str "")) (.cmp .eq (.call "read_table" (.cons (.str "a passes r\nw passes r") .nil)) (.tup (.cons (.tup (.cons (.str "a") (.cons (.str "r") .nil))) (.cons (.tup (.cons (.str "w") (.cons (.str "r") .nil))) .nil))))))
  .nil))))⟩
def m_Table_init : Fn := ⟨2, 4, (.cons (.ite (.not (.bi .all (.cons (.comp (.call "is_pair" (.cons (.var 3) .nil)) (.nm 3) (.e (.var 1)) (.bl true)) .nil))) (.cons (.raise "InvalidTable")
  .nil) .nil)
  (.cons (.asg (.nm 2) (.bi .tuple (.cons (.bi .sorted (.cons (.var 1) .nil)) .nil)))
  (.cons (.expr (.call "need_table" (.cons (.var 2) .nil)))
  (.cons (.setF "Table" (.var 0) "all" (.var 2))
  .nil))))⟩
def m_Table_read : Fn := ⟨2, 3, (.cons (.asg (.nm 2) (.call "read_words" (.cons (.var 1) .nil)))
  (.cons (.ret (.mkV "Table" 0 (.var 2)))
  .nil))⟩
def m_Table_source : Fn := ⟨1, 1, (.cons (.ret (.fld "Table" (.var 0) "all"))
  .nil)⟩
end Pah
end
section
set_option maxHeartbeats 1000000
/-! Sp81: texts of tables, plainly. -/
namespace Pah
open PySem
/-! ### lists in order -/
theorem sub_of_sorted {α : Type} {R : α → α → Prop} (asym : ∀ x y, R x y → ¬ R y x) : ∀ {K L : List α}, K.Pairwise R → L.Pairwise R → (∀ x ∈ L, x ∈ K) → L.Sublist K
  | [], [], _, _, _ => .slnil
  | [], x :: L, _, _, h => absurd (h x List.mem_cons_self) List.not_mem_nil
  | k :: K, [], _, _, _ => List.nil_sublist _
  | k :: K, x :: L, hK, hL, h => by
    obtain ⟨k1, k2⟩ := List.pairwise_cons.mp hK
    obtain ⟨l1, l2⟩ := List.pairwise_cons.mp hL
    rcases List.mem_cons.mp (h x List.mem_cons_self) with e | hx
    · subst e
      refine .cons₂ _ (sub_of_sorted asym k2 l2 fun y hy => ?_)
      rcases List.mem_cons.mp (h y (List.mem_cons_of_mem _ hy)) with e | z
      · subst e
        exact absurd (l1 y hy) (asym _ _ (l1 y hy))
      · exact z
    · refine .cons _ (sub_of_sorted asym k2 hL fun y hy => ?_)
      rcases List.mem_cons.mp (h y hy) with e | z
      · subst e
        rcases List.mem_cons.mp hy with e | hy
        · rw [e]; exact hx
        · exact absurd (l1 y hy) (asym _ _ (k1 x hx))
      · exact z
theorem chain_pair {α : Type} {R : α → α → Prop} (tr : ∀ x y z, R x y → R y z → R x z) : ∀ {L : List α}, (∀ p ∈ L.zip L.tail, R p.1 p.2) → L.Pairwise R
  | [], _ => .nil
  | [x], _ => by simp
  | x :: y :: L, h => by
    have ih := chain_pair tr (L := y :: L) fun p hp => h p (by
      rw [List.tail_cons] at hp
      rw [List.tail_cons, List.zip_cons_cons]
      exact List.mem_cons_of_mem _ hp)
    have hxy : R x y := h (x, y) (by rw [List.tail_cons, List.zip_cons_cons]; exact List.mem_cons_self)
    refine List.pairwise_cons.mpr ⟨fun z hz => ?_, ih⟩
    rcases List.mem_cons.mp hz with rfl | hz
    · exact hxy
    · exact tr _ _ _ hxy ((List.pairwise_cons.mp ih).1 z hz)
/-- one pair before another one -/
def ltK (x y : D) : Prop := ltD x y = some true
theorem ltK_dec : KP.all (fun x => KP.all fun y => (ltD x y).isSome) = true := by decide +kernel
theorem ltK_asy : KP.all (fun x => KP.all fun y => !((ltD x y == some true) && (ltD y x == some true))) = true := by decide +kernel
theorem ltK_tr : KP.all (fun x => KP.all fun y => KP.all fun z => !((ltD x y == some true) && (ltD y z == some true)) || (ltD x z == some true)) = true := by decide +kernel
theorem ltK_some {x y : D} (hx : x ∈ KP) (hy : y ∈ KP) : ∃ b, ltD x y = some b := by
  have := List.all_eq_true.mp (List.all_eq_true.mp ltK_dec x hx) y hy
  exact Option.isSome_iff_exists.mp this
theorem tab_iff {L : List D} (h : ∀ d ∈ L, d ∈ KP) : Tab L ↔ ∀ p ∈ L.zip L.tail, ltK p.1 p.2 := by
  let R : D → D → Prop := fun x y => x ∈ KP ∧ y ∈ KP ∧ ltK x y
  have asym : ∀ x y, R x y → ¬ R y x := fun x y ⟨a, b, c⟩ ⟨_, _, d⟩ => by
    have := List.all_eq_true.mp (List.all_eq_true.mp ltK_asy x a) y b
    rw [show ltD x y = some true from c, show ltD y x = some true from d] at this
    simp at this
  have tr : ∀ x y z, R x y → R y z → R x z := fun x y z ⟨a, b, c⟩ ⟨_, d, e⟩ => by
    have := List.all_eq_true.mp (List.all_eq_true.mp (List.all_eq_true.mp ltK_tr x a) y b) z d
    rw [show ltD x y = some true from c, show ltD y z = some true from e] at this
    refine ⟨a, d, ?_⟩
    have : (ltD x z == some true) = true := by simpa using this
    exact eq_of_beq this
  have zm : ∀ {L : List D} {p : D × D}, p ∈ L.zip L.tail → p.1 ∈ L ∧ p.2 ∈ L := fun {L p} hp => ⟨(List.of_mem_zip hp).1, List.mem_of_mem_tail (List.of_mem_zip hp).2⟩
  constructor
  · intro ht
    have pw := kp_lt.sublist ht
    have key : ∀ {L : List D}, L.Pairwise (fun x y => ltD x y = some true) → ∀ p ∈ L.zip L.tail, ltK p.1 p.2 := by
      intro L
      induction L with
      | nil => intro _ p hp; simp at hp
      | cons x L ih =>
        intro hL p hp
        cases L with
        | nil => simp at hp
        | cons y L =>
          rw [List.tail_cons, List.zip_cons_cons] at hp
          rcases List.mem_cons.mp hp with rfl | hp
          · exact (List.pairwise_cons.mp hL).1 y List.mem_cons_self
          · exact ih (List.pairwise_cons.mp hL).2 p hp
    exact key pw
  · intro hz
    have pw : L.Pairwise R := chain_pair tr fun p hp => ⟨h _ (zm hp).1, h _ (zm hp).2, hz p hp⟩
    refine sub_of_sorted asym (K := KP) ?_ pw h
    exact List.Pairwise.imp_of_mem (fun ha hb hab => ⟨ha, hb, hab⟩) kp_lt
/-! ### lines -/
abbrev NLs : Str := ⟨#[10]⟩
abbrev SPs : Str := ⟨#[32]⟩
abbrev PASSs : Str := ⟨#[112, 97, 115, 115, 101, 115]⟩
@[simp] theorem str_nl : Str.ofString "\n" = NLs := by decide +kernel
@[simp] theorem str_sp : Str.ofString " " = SPs := by decide +kernel
@[simp] theorem str_pass : Str.ofString "passes" = PASSs := by decide +kernel
/-- the pair of a line -/
def pl (l : Str) : Option D := match Txt.split l SPs with
  | [a, m, b] => if m = PASSs then some (.tup [.str a, .str b]) else none
  | _ => none
abbrev MIDs : Str := ⟨#[32, 112, 97, 115, 115, 101, 115, 32]⟩
@[simp] theorem str_mid : Str.ofString " passes " = MIDs := by decide +kernel
def keyS (a b : Nat) : Str := ⟨#[a]⟩ ++ MIDs ++ ⟨#[b]⟩
def keys : List Str := kindsN.flatMap fun a => kindsN.map fun b => keyS a b
theorem isK_cases {c : Nat} (h : isK c) : c = 97 ∨ c = 114 ∨ c = 119 := by
  have h : c ∈ [97, 114, 119] := h
  simpa using h
theorem key_join (a b : Nat) : Str.join SPs [⟨#[a]⟩, PASSs, ⟨#[b]⟩] = keyS a b := by
  refine TL.ext_tl ?_
  show TL.tl ((⟨#[a]⟩ : Str) ++ SPs ++ (PASSs ++ SPs ++ ⟨#[b]⟩)) = TL.tl ((⟨#[a]⟩ : Str) ++ MIDs ++ ⟨#[b]⟩)
  simp only [TL.tl_append]
  rfl
theorem key_split {a b : Nat} (ha : isK a) (hb : isK b) : Txt.split (keyS a b) SPs = [⟨#[a]⟩, PASSs, ⟨#[b]⟩] := by
  rw [← key_join, ← TL.join_eq]
  refine TL.split_join (s := 32) (S := []) rfl (by decide +kernel) (by simp) fun p hp => ?_
  simp only [List.mem_cons, List.not_mem_nil, or_false] at hp
  rcases hp with rfl | rfl | rfl
  · rcases isK_cases ha with rfl | rfl | rfl <;> decide +kernel
  · decide +kernel
  · rcases isK_cases hb with rfl | rfl | rfl <;> decide +kernel
theorem pl_key {a b : Nat} (ha : isK a) (hb : isK b) : pl (keyS a b) = some (.tup [ch a, ch b]) := by
  unfold pl
  rw [key_split ha hb]
  exact if_pos rfl
theorem look_key {a b : Nat} (ha : isK a) (hb : isK b) : lookS keys KP (keyS a b) = some (.tup [ch a, ch b]) := by
  rcases isK_cases ha with rfl | rfl | rfl <;> rcases isK_cases hb with rfl | rfl | rfl <;> kernel_rfl
theorem look_inv : ∀ {ks : List Str} {vs : List D} {l : Str} {d : D}, lookS ks vs l = some d → (l, d) ∈ ks.zip vs
  | k :: ks, v :: vs, l, d, h => by
    unfold lookS at h
    rw [List.zip_cons_cons]
    by_cases e : k = l
    · rw [if_pos e] at h
      cases h
      rw [e]
      exact List.mem_cons_self
    · rw [if_neg e] at h
      exact List.mem_cons_of_mem _ (look_inv h)
  | [], _, _, _, h => by cases h
  | _ :: _, [], _, _, h => by cases h
theorem look_iff {l : Str} {d : D} : lookS keys KP l = some d ↔ (pl l = some d ∧ d ∈ KP) := by
  constructor
  · intro h
    have z := look_inv h
    have e : keys.zip KP = kindsN.flatMap fun a => kindsN.map fun b => (keyS a b, D.tup [ch a, ch b]) := by kernel_rfl
    rw [e] at z
    simp only [List.mem_flatMap, List.mem_map] at z
    obtain ⟨a, ha, b, hb, e⟩ := z
    cases e
    exact ⟨pl_key ha hb, mem_kp ha hb⟩
  · rintro ⟨h, hd⟩
    obtain ⟨a, b, ha, hb, rfl⟩ := kp_mem hd
    unfold pl at h
    split at h
    · rename_i x y z e
      split at h
      · rename_i ey
        subst ey
        simp only [Option.some.injEq, D.tup.injEq, List.cons.injEq, D.str.injEq, and_true] at h
        obtain ⟨rfl, rfl⟩ := h
        have j := StrLaws.join_split l SPs
        rw [e, key_join] at j
        rw [← j]
        exact look_key ha hb
      · cases h
    · cases h
/-! ### texts -/
def linesOf (s : Str) : List Str := if s = ⟨#[]⟩ then [] else Txt.split s NLs
def prT : List Str → Option (List D)
  | [] => some []
  | l :: r => (pl l).bind fun p => (prT r).map (p :: ·)
open Classical in
noncomputable def ansS (s : Str) : Option (List D) := match prT (linesOf s) with
  | some T => if Tab T then some T else none
  | none => none
theorem ansS_some {s : Str} {T : List D} (h : prT (linesOf s) = some T) (ht : Tab T) : ansS s = some T := by
  unfold ansS
  rw [h]
  exact if_pos ht
theorem ansS_none {s : Str} (h : ∀ T, prT (linesOf s) = some T → ¬ Tab T) : ansS s = none := by
  unfold ansS
  cases e : prT (linesOf s) with
  | none => rfl
  | some T => exact if_neg (h T e)
theorem ansS_inv {s : Str} {T : List D} (h : ansS s = some T) : prT (linesOf s) = some T ∧ Tab T := by
  unfold ansS at h
  split at h
  · rename_i U e
    split at h
    · rename_i ht
      cases h
      exact ⟨e, ht⟩
    · cases h
  · cases h
/-- what reading tells -/
noncomputable def ans : D → D
  | .str s => match ansS s with
    | some T => .tup T
    | none => .str "text"
  | _ => .str "text"
/-- the dict's answers -/
def kl (l : Str) : D := (lookS keys KP l).getD .non
theorem prT_all : ∀ {L : List Str}, (∀ l ∈ L, ∃ d, lookS keys KP l = some d) → prT L = some (L.map kl) ∧ ∀ d ∈ L.map kl, d ∈ KP
  | [], _ => ⟨rfl, fun _ h => nomatch h⟩
  | l :: L, h => by
    obtain ⟨d, hd⟩ := h l List.mem_cons_self
    obtain ⟨h1, h2⟩ := prT_all (L := L) fun x hx => h x (List.mem_cons_of_mem _ hx)
    obtain ⟨p1, p2⟩ := look_iff.mp hd
    have e : kl l = d := by unfold kl; rw [hd]; rfl
    refine ⟨?_, fun x hx => ?_⟩
    · rw [prT, p1, h1, List.map_cons, e]
      rfl
    · rw [List.map_cons] at hx
      rcases List.mem_cons.mp hx with rfl | hx
      · rw [e]; exact p2
      · exact h2 x hx
theorem prT_mem : ∀ {L : List Str} {T : List D}, prT L = some T → ∀ l ∈ L, ∃ d ∈ T, pl l = some d
  | [], _, _, l, hl => nomatch hl
  | l :: L, T, h, x, hx => by
    rw [prT] at h
    cases e1 : pl l with
    | none => rw [e1] at h; cases h
    | some p =>
      rw [e1] at h
      cases e2 : prT L with
      | none => rw [e2] at h; cases h
      | some U =>
        rw [e2] at h
        cases h
        rcases List.mem_cons.mp hx with rfl | hx
        · exact ⟨p, List.mem_cons_self, e1⟩
        · obtain ⟨d, hd, q⟩ := prT_mem e2 x hx
          exact ⟨d, List.mem_cons_of_mem _ hd, q⟩
theorem kl_non {l : Str} : kl l = .non ↔ lookS keys KP l = none := by
  unfold kl
  cases e : lookS keys KP l with
  | none => simp
  | some d =>
    simp only [Option.getD_some, reduceCtorEq, iff_false]
    intro h
    subst h
    obtain ⟨a, b, _, _, q⟩ := kp_mem (look_iff.mp e).2
    cases q
/-- the law's way and the program's agree -/
theorem ans_kl (s : Str) : (∀ l ∈ linesOf s, kl l ≠ .non) ∧ (∀ d ∈ (linesOf s).map kl, d ∈ KP) ∧ prT (linesOf s) = some ((linesOf s).map kl) ∨ (∃ l ∈ linesOf s, kl l = .non) ∧ ansS s = none := by
  by_cases h : ∃ l ∈ linesOf s, kl l = .non
  · right
    refine ⟨h, ansS_none fun T hT ht => ?_⟩
    obtain ⟨l, hl, e⟩ := h
    obtain ⟨d, hd, q⟩ := prT_mem hT l hl
    have := look_iff.mpr ⟨q, ht.subset hd⟩
    rw [kl_non.mp e] at this
    cases this
  · left
    have h2 : ∀ l ∈ linesOf s, kl l ≠ .non := fun l hl e => h ⟨l, hl, e⟩
    have h3 : ∀ l ∈ linesOf s, ∃ d, lookS keys KP l = some d := fun l hl => by
      cases e : lookS keys KP l with
      | none => exact absurd (kl_non.mpr e) (h2 l hl)
      | some d => exact ⟨d, rfl⟩
    obtain ⟨a, b⟩ := prT_all h3
    exact ⟨h2, b, a⟩
/-! ### a table's text -/
def keyD : D → Str
  | .tup [.str a, .str b] => a ++ MIDs ++ b
  | _ => ⟨#[]⟩
def txtOf (T : List D) : Str := Str.join NLs (T.map keyD)
theorem keyD_ok {d : D} (h : d ∈ KP) : pl (keyD d) = some d ∧ 10 ∉ (keyD d).cps.toList ∧ (keyD d).length = 10 ∧ (∀ c ∈ (keyD d).cps.toList, c < 128) := by
  obtain ⟨a, b, ha, hb, rfl⟩ := kp_mem h
  refine ⟨pl_key ha hb, ?_⟩
  rcases isK_cases ha with rfl | rfl | rfl <;> rcases isK_cases hb with rfl | rfl | rfl <;> exact ⟨by decide +kernel, by decide +kernel, by decide +kernel⟩
theorem prT_keys : ∀ {T : List D}, (∀ d ∈ T, d ∈ KP) → prT (T.map keyD) = some T
  | [], _ => rfl
  | d :: T, h => by
    rw [List.map_cons, prT, (keyD_ok (h d List.mem_cons_self)).1, prT_keys fun x hx => h x (List.mem_cons_of_mem _ hx)]
    rfl
theorem txt_lines {T : List D} (h : ∀ d ∈ T, d ∈ KP) : linesOf (txtOf T) = T.map keyD := by
  unfold linesOf
  cases T with
  | nil => exact if_pos rfl
  | cons d T =>
    have sp : Txt.split (txtOf (d :: T)) NLs = (d :: T).map keyD := by
      unfold txtOf
      rw [← TL.join_eq]
      refine TL.split_join (s := 10) (S := []) rfl (by decide +kernel) (by simp) fun p hp => ?_
      obtain ⟨x, hx, rfl⟩ := List.mem_map.mp hp
      exact (keyD_ok (h x hx)).2.1
    have ne : ¬ txtOf (d :: T) = ⟨#[]⟩ := fun e => by
      rw [e] at sp
      have e2 : Txt.split (⟨#[]⟩ : Str) NLs = [⟨#[]⟩] := by decide +kernel
      rw [e2, List.map_cons] at sp
      have e3 := (List.cons.inj sp).1
      have := (keyD_ok (h d List.mem_cons_self)).2.2.1
      rw [← e3] at this
      cases this
    rw [if_neg ne, sp]
theorem ans_txt {T : List D} (h : Tab T) : ansS (txtOf T) = some T := ansS_some (by rw [txt_lines fun d hd => h.subset hd]; exact prT_keys fun d hd => h.subset hd) h
/-! ### how long; which signs -/
def okS (s : Str) : Prop := ∀ c ∈ s.cps.toList, c < 0x110000
theorem okS_iff {s : Str} : PyData.strOk s = true ↔ okS s := by
  unfold PyData.strOk okS
  rw [Array.all_eq_true_iff_forall_mem]
  simp
theorem okS_app {a b : Str} (h : okS a) (k : okS b) : okS (a ++ b) := fun c hc => by
  have hc : c ∈ TL.tl (a ++ b) := hc
  rw [TL.tl_append, List.mem_append] at hc
  exact hc.elim (h c) (k c)
theorem len_app (a b : Str) : (a ++ b).length = a.length + b.length := by
  show (TL.tl (a ++ b)).toArray.size = _
  rw [TL.tl_append]
  simp [Str.length]
def wt (L : List Str) : Nat := lenSum L + L.length
theorem wt_nil : wt [] = 0 := rfl
theorem wt_cons (x : Str) (L : List Str) : wt (x :: L) = x.length + 1 + wt L := by
  unfold wt lenSum
  simp
  omega
theorem wt_app (A B : List Str) : wt (A ++ B) = wt A + wt B := by
  induction A with
  | nil => simp [wt_nil]
  | cons x A ih => rw [List.cons_append, wt_cons, wt_cons, ih]; omega
theorem join_len {y : Str} (hy : y.length = 1) : ∀ {L : List Str}, L ≠ [] → (Str.join y L).length + 1 = wt L
  | [x], _ => by rw [wt_cons, wt_nil]; rfl
  | x :: z :: L, _ => by
    have ih := join_len hy (L := z :: L) (by simp)
    show (x ++ y ++ Str.join y (z :: L)).length + 1 = _
    rw [len_app, len_app, wt_cons, ← ih]
    omega
theorem join_le {y : Str} (hy : y.length = 1) (L : List Str) : (Str.join y L).length ≤ wt L := by
  cases L with
  | nil => exact Nat.zero_le _
  | cons x L => have := join_len hy (L := x :: L) (by simp); omega
theorem join_ok {y : Str} (hy : okS y) : ∀ {L : List Str}, (∀ l ∈ L, okS l) → okS (Str.join y L)
  | [], _ => fun c hc => nomatch hc
  | [x], h => h x List.mem_cons_self
  | x :: z :: L, h => okS_app (okS_app (h x List.mem_cons_self) hy) (join_ok hy fun l hl => h l (List.mem_cons_of_mem _ hl))
theorem of_join_ok {y : Str} : ∀ {L : List Str}, okS (Str.join y L) → ∀ l ∈ L, okS l
  | [], _, l, hl => nomatch hl
  | [x], h, l, hl => by
    rw [List.mem_singleton.mp hl]
    exact h
  | x :: z :: L, h, l, hl => by
    have h : ∀ c ∈ TL.tl (x ++ y ++ Str.join y (z :: L)), c < 0x110000 := h
    simp only [TL.tl_append, List.mem_append] at h
    rcases List.mem_cons.mp hl with rfl | hl
    · exact fun c hc => h c (.inl (.inl hc))
    · exact of_join_ok (L := z :: L) (fun c hc => h c (.inr hc)) l hl
theorem split_ne (s y : Str) : Txt.split s y ≠ [] := by
  unfold Txt.split
  split
  · exact fun h => nomatch h
  · split
    · exact fun h => nomatch h
    · exact fun h => by
        have := congrArg List.length h
        rw [length_partsBetween] at this
        simp at this
theorem split_ok {s y : Str} (h : okS s) : ∀ l ∈ Txt.split s y, okS l := of_join_ok (y := y) (by rw [StrLaws.join_split]; exact h)
theorem split_wt {s y : Str} (hy : y.length = 1) : wt (Txt.split s y) = s.length + 1 := by
  have := join_len hy (split_ne s y)
  rw [StrLaws.join_split] at this
  exact this.symm
end Pah
end
section
set_option maxHeartbeats 200000
/-! Wp2: further forms. -/
namespace Pah
open PySem
section
variable {Φ : Phi} {s : S}
def upR (x : RV) (s : S) : Out RV := match x with
    | .v (.str t) => if t.length ≤ 5592405 then .ok (.v (.str (Txt.upper t))) s else .stuck
    | _ => .stuck
theorem upR_str {t : Str} (h : t.length ≤ 5592405) : upR (.v (.str t)) s = .ok (.v (.str (Txt.upper t))) s := if_pos h
@[simp] theorem evE_upper (a : Ex) : evE Φ (.upper a) s = (evE Φ a s).bind fun x s => upR x s := by rw [evE]; rfl
def getR (ks : List Str) (vs : List D) (y : RV) (s : S) : Out RV := match y with
      | .v (.str t) => .ok (.v ((lookS ks vs t).getD .non)) s
      | _ => .stuck
@[simp] theorem getR_str {ks : List Str} {vs : List D} {t : Str} : getR ks vs (.v (.str t)) s = .ok (.v ((lookS ks vs t).getD .non)) s := Eq.trans rfl rfl
@[simp] theorem evE_get (i : Nat) (k : Ex) : evE Φ (.get i k) s = (lookV i s).bind fun x s => match x with
    | .sd ks vs => (evE Φ k s).bind fun y s => getR ks vs y s
    | _ => .stuck := by rw [evE]; rfl
@[simp] theorem evE_fld (c : Str) (a : Ex) (f : Str) : evE Φ (.fld c a f) s = (evE Φ a s).bind fun x s => Out.of ((fldsO c x.d s.mem).bind fun fs => (fs.lookup f).map RV.v) s := by first | (rw [evE]; done) | (rw [evE]; rfl)
def prR (Φ : Phi) (c f : Str) (x : RV) (s : S) : Out RV := match fldsO c x.d s.mem with
    | some _ => noexn (callOut (Φ.call (c ++ "." ++ f) [x.d] s.mem) s.env)
    | none => .stuck
@[simp] theorem evE_prop (c : Str) (a : Ex) (f : Str) : evE Φ (.prop c a f) s = (evE Φ a s).bind fun x s => prR Φ c f x s := by rw [evE]; rfl
@[simp] theorem evE_cm (c m : Str) (a : Ex) : evE Φ (.cm c m a) s = (evE Φ a s).bind fun x s => callOut (Φ.call (c ++ "." ++ m) [.fn c, x.d] s.mem) s.env := by first | (rw [evE]; done) | (rw [evE]; rfl)
def mkR (Φ : Phi) (c : Str) (x : D) (s : S) : Out RV := match starD x with
    | some ds => if ds.length ≤ lim then mkO Φ c [.tup ds] s else .stuck
    | none => .stuck
@[simp] theorem evE_mkS (c : Str) (a : Ex) : evE Φ (.mkS c a) s = (asB a (evE Φ a) s).bind fun x s => mkR Φ c x s := by rw [evE]; rfl
@[simp] theorem evE_mkV (c : Str) (i : Nat) (a : Ex) : evE Φ (.mkV c i a) s = (lookV i s).bind fun c' s => match c' with
    | .fn c' => if c' = c then (asB a (evE Φ a) s).bind fun x s => mkR Φ c x s else .stuck
    | _ => .stuck := by rw [evE]; rfl
theorem mkR_tup {c : Str} {ds : List D} {s2 : S} (hl : ds.length ≤ lim) (h : Φ.call (c ++ ".__init__") [.ref s.mem.length, .tup ds] (s.mem ++ [.obj c []]) = .ok (.v .non) s2) : mkR Φ c (.tup ds) s = .ok (.v (.ref s.mem.length)) ⟨s.env, s2.mem⟩ := by
  show (if ds.length ≤ lim then mkO Φ c [.tup ds] s else .stuck) = _
  rw [if_pos hl]
  unfold mkO
  rw [show Φ.call (c ++ ".__init__") (.ref s.mem.length :: [.tup ds]) (s.mem ++ [.obj c []]) = _ from h]
@[simp] theorem evE_callV (i : Nat) (es : Exs) : evE Φ (.callV i es) s = (lookV i s).bind fun f s => match f with
    | .fn f => (evEs Φ es s).bind fun ds s => callOut (Φ.call f ds s.mem) s.env
    | _ => .stuck := by first | (rw [evE]; done) | (rw [evE]; rfl)
theorem evE_refd (a : Ex) : evE Φ (.refd a) s = match evE Φ a s with
    | .ok _ s' => .ok (.v (.str "")) s'
    | .exn c .non m => match errW c with
      | some w => .ok (.v (.str w)) ⟨s.env.map keptR, m⟩
      | none => .stuck
    | _ => .stuck := by first | (rw [evE]; done) | (rw [evE]; rfl)
theorem evS_tryr (b : Sms) : evS Φ (.tryr b) s = match evSs Φ b s with
    | .ok f s' => .ok f s'
    | .exn c .non m => match errW c with
      | some w => .ok (.ret (.v (.str w))) ⟨s.env.map keptR, m⟩
      | none => .stuck
    | _ => .stuck := by first | (rw [evS]; done) | (rw [evS]; rfl)
def stF (c f : Str) (y x : RV) (s : S) : Out Fl := match x.d with
    | .ref j => match s.mem[j]? with
      | some (.obj c' fs) => if c' = c ∧ fs.length < 900 then .ok .next { s with mem := s.mem.set j (.obj c (putFd fs f y.d)) } else .stuck
      | _ => .stuck
    | _ => .stuck
@[simp] theorem evS_setF (c : Str) (o : Ex) (f : Str) (e : Ex) : evS Φ (.setF c o f e) s = (evE Φ e s).bind fun y s => (evE Φ o s).bind fun x s => stF c f y x s := by rw [evS]; rfl
theorem stF_ref {c f : Str} {y : RV} {j : Nat} {fs : List (Str × D)} (h : s.mem[j]? = some (.obj c fs)) (hl : fs.length < 900) : stF c f y (.v (.ref j)) s = .ok .next { s with mem := s.mem.set j (.obj c (putFd fs f y.d)) } := by
  show (match s.mem[j]? with
      | some (.obj c' fs) => if c' = c ∧ fs.length < 900 then Out.ok Fl.next { s with mem := s.mem.set j (.obj c (putFd fs f y.d)) } else .stuck
      | _ => .stuck) = _
  rw [h]
  exact if_pos ⟨rfl, hl⟩
theorem flds_ref {c : Str} {j : Nat} {m : Mm} {fs : List (Str × D)} (h : m[j]? = some (.obj c fs)) : fldsO c (.ref j) m = some fs := by
  unfold fldsO
  simp only [h, if_true]
end
theorem mth_split {a b : Str} (h : b.length ≠ 0) (k : a.length + 2 ≤ lim) : mthD .split (.str a) (.str b) = some (.l ((Txt.split a b).map .str)) := if_pos ⟨h, k⟩
/-- a step that goes on with a known state -/
theorem wp_step {Φ : Phi} {s s1 : S} {a : Sm} {r : Sms} {Q : Fl → S → Prop} {E : Str → D → Mm → Prop} (h : evS Φ a s = .ok .next s1) (k : wp (evSs Φ r s1) Q E) : wp (evSs Φ (.cons a r) s) Q E := by
  rw [wp_cons, h, wp_ok]; exact k
theorem wp_forE {Φ : Phi} {s s1 : S} {r : RV} {ds : List D} {t : Tg} {a : Ex} {b : Sms} {Q : Fl → S → Prop} {E : Str → D → Mm → Prop} (h : evE Φ a s = .ok r s1) (hi : itemsV r = some ds) (k : wp (loopF t (evSs Φ b) ds s1) Q E) : wp (evS Φ (.for t (.e a) b) s) Q E := by
  rw [evS_for, evIt_e, h]
  simp only [Out.bind, hi, Out.of]
  exact k
/-- a try that tells: by what its body does -/
theorem wp_tryr {Φ : Phi} {s : S} {b : Sms} {Q : Fl → S → Prop} {E : Str → D → Mm → Prop} (h : wp (evSs Φ b s) Q (fun c p m => p = .non ∧ ∃ w, errW c = some w ∧ Q (.ret (.v (.str w))) ⟨s.env.map keptR, m⟩)) : wp (evS Φ (.tryr b) s) Q E := by
  rw [evS_tryr]
  cases e : evSs Φ b s with
  | ok f s' => rw [e] at h; rw [wp_ok] at h ⊢; exact h
  | exn c p m =>
    rw [e, wp_exn] at h
    obtain ⟨rfl, w, hw, q⟩ := h
    simp only [hw]
    rw [wp_ok]; exact q
  | stuck => rw [e, wp_stuck] at h; exact h.elim
end Pah
end
section
set_option maxHeartbeats 2000000
/-! Eq81: what the defs about texts of tables give. -/
namespace Pah
open PySem
structure TabF (G : Str → Option Fn) (C : Str → Option D) : Prop where
  is_pair : G "is_pair" = some p_is_pair
  is_right_table : G "is_right_table" = some p_is_right_table
  need_table : G "need_table" = some p_need_table
  kinds : C "KINDS" = some KINDS
structure Txts (G : Str → Option Fn) (C : Str → Option D) : Prop extends TabF G C where
  text_of : G "text_of" = some p_text_of
  read_words : G "read_words" = some p_read_words
  table_text : G "table_text" = some p_table_text
  read_table : G "read_table" = some p_read_table
  t_init : G "Table.__init__" = some m_Table_init
  t_read : G "Table.read" = some m_Table_read
  t_source : G "Table.source" = some m_Table_source
/-- a pair of texts -/
def Pr (d : D) : Prop := ∃ a b, d = .tup [.str a, .str b] ∧ okS a ∧ okS b
def isKB (x : Str) : Bool := KINDS3.any fun z => decide (z = x)
where KINDS3 : List Str := [⟨#[97]⟩, ⟨#[114]⟩, ⟨#[119]⟩]
theorem isKB_iff {x : Str} : isKB x = true ↔ ∃ c, isK c ∧ x = ⟨#[c]⟩ := by
  unfold isKB isKB.KINDS3
  simp only [List.any_cons, List.any_nil, Bool.or_false, Bool.or_eq_true, decide_eq_true_eq]
  constructor
  · rintro (rfl | rfl | rfl)
    · exact ⟨97, by decide, rfl⟩
    · exact ⟨114, by decide, rfl⟩
    · exact ⟨119, by decide, rfl⟩
  · rintro ⟨c, hc, rfl⟩
    rcases isK_cases hc with rfl | rfl | rfl
    · exact .inl rfl
    · exact .inr (.inl rfl)
    · exact .inr (.inr rfl)
theorem kinds_plain : plains [ch 97, ch 114, ch 119] = true := by decide +kernel
theorem isin_kind {x : Str} (h : okS x) : isinD (.str x) KINDS = some (isKB x) := by
  rw [KINDS, isin_tup (by rw [plain_str]; exact okS_iff.mpr h) kinds_plain]
  congr 1
theorem pair_kp {a b : Str} : D.tup [.str a, .str b] ∈ KP ↔ (isKB a && isKB b) = true := by
  rw [Bool.and_eq_true, isKB_iff, isKB_iff]
  constructor
  · intro h
    obtain ⟨x, y, hx, hy, e⟩ := kp_mem h
    simp only [D.tup.injEq, List.cons.injEq, D.str.injEq, and_true] at e
    exact ⟨⟨x, hx, e.1⟩, ⟨y, hy, e.2⟩⟩
  · rintro ⟨⟨x, hx, rfl⟩, ⟨y, hy, rfl⟩⟩
    exact mem_kp hx hy
theorem kp_pr {d : D} (h : d ∈ KP) : Pr d := by
  obtain ⟨a, b, ha, hb, rfl⟩ := kp_mem h
  exact ⟨_, _, rfl, fun c hc => by simp at hc; rw [hc]; exact isK_lt ha, fun c hc => by simp at hc; rw [hc]; exact isK_lt hb⟩
section
variable {G : Str → Option Fn} {C : Str → Option D} {n : Nat} {m : Mm}
theorem t_is_pair (g : TabF G C) {d : D} (hd : Pr d) : ∃ b, Rets (callF G C (n + 1) "is_pair" [d] m) (.v (.bl b)) m ∧ (b = true ↔ d ∈ KP) := by
  obtain ⟨a, b, rfl, ha, hb⟩ := hd
  refine ⟨isKB a && isKB b, ?_, pair_kp.symm⟩
  rw [callF_eq g.is_pair rfl]
  have z := comp_pure (Φ := ⟨callF G C n, C⟩) (elt := (.and (.isty .str (.var 1)) (.cmp .isin (.var 1) (.gl "KINDS")))) (cond := .bl true) (tg := .nm 1) (it := .e (.var 0)) (s := ⟨[some (.v (.tup [.str a, .str b])), none], m⟩) (s0 := ⟨[some (.v (.tup [.str a, .str b])), none], m⟩) (ds := [.str a, .str b])
    (fun _ => true) (fun d => match d with
      | .str x => .bl (isKB x)
      | _ => .non) (fun d => [some (.v (.tup [.str a, .str b])), some (.v d)]) (by simp [readV, itemsV]) rfl (fun d hd => by
      have hc : ∃ x, okS x ∧ d = .str x := by
        simp only [List.mem_cons, List.not_mem_nil, or_false] at hd
        rcases hd with rfl | rfl
        · exact ⟨a, ha, rfl⟩
        · exact ⟨b, hb, rfl⟩
      obtain ⟨c, hc, rfl⟩ := hc
      have e := isin_kind hc
      simp [asgT, wipe, Tg.vars, retV, asB, asB2, lookV, readV, isTy, cmpop, g.kinds, e]) (by simp [lim])
  simp [Rets, p_is_pair, evSs_cons, retV, asB, asB2, lookV, readV, isTy, cmpop, biD, lenD, itemsD, z, boolsD, back, Tg.vars, keptR]
theorem zipD_zip {T : List D} : ∀ {U : List D}, zipD T U = (T.zip U).map fun p => .tup [p.1, p.2] := by
  induction T with
  | nil => intro U; cases U <;> rfl
  | cons x T ih => intro U; cases U with
    | nil => rfl
    | cons y U => rw [zipD, List.zip_cons_cons, List.map_cons, ih]
theorem t_is_right (g : TabF G C) {T : List D} (hT : ∀ d ∈ T, Pr d) (hl : T.length ≤ 1000) : ∃ b, Rets (callF G C (n + 2) "is_right_table" [.tup T] m) (.v (.bl b)) m ∧ (b = true ↔ Tab T) := by
  have hp : ∀ d ∈ T, ∃ b, (∀ env, callOut (callF G C (n + 1) "is_pair" [d] m) env = .ok (.v (.bl b)) ⟨env, m⟩) ∧ (b = true ↔ d ∈ KP) := fun d hd => by
    obtain ⟨b, e, h⟩ := t_is_pair (n := n) (m := m) g (hT d hd)
    exact ⟨b, e.out, h⟩
  obtain ⟨f, hf⟩ : ∃ f : D → Bool, ∀ d ∈ T, (∀ env, callOut (callF G C (n + 1) "is_pair" [d] m) env = .ok (.v (.bl (f d))) ⟨env, m⟩) ∧ (f d = true ↔ d ∈ KP) := by
    classical
    refine ⟨fun d => if h : d ∈ T then Classical.choose (hp d h) else false, fun d hd => ?_⟩
    simp only [dif_pos hd]
    exact Classical.choose_spec (hp d hd)
  have z1 := comp_pure (Φ := ⟨callF G C (n + 1), C⟩) (elt := (.call "is_pair" (.cons (.var 3) .nil))) (cond := .bl true) (tg := .nm 3) (it := .e (.var 0)) (s := ⟨[some (.v (.tup T)), none, none, none], m⟩) (s0 := ⟨[some (.v (.tup T)), none, none, none], m⟩) (ds := T)
    (fun _ => true) (fun d => .bl (f d)) (fun d => [some (.v (.tup T)), none, none, some (.v d)]) (by simp [readV, itemsV]) rfl (fun d hd => by
      have e := (hf d hd).1
      simp [asgT, wipe, Tg.vars, readV, e]) (le_lim hl)
  have bm : boolsD (T.map fun d => D.bl (f d)) = some (T.map f) := bools_map T f
  have ft : T.filter (fun _ => true) = T := List.filter_eq_self.mpr fun _ _ => rfl
  rw [ft] at z1
  rw [callF_eq g.is_right_table rfl]
  by_cases hk : ∀ d ∈ T, d ∈ KP
  · have hall : T.all f = true := List.all_eq_true.mpr fun d hd => (hf d hd).2.mpr (hk d hd)
    -- the order
    obtain ⟨lt, hlt⟩ : ∃ lt : D → D → Bool, ∀ x ∈ KP, ∀ y ∈ KP, ltD x y = some (lt x y) := ⟨fun x y => (ltD x y).getD false, fun x hx y hy => by
      obtain ⟨b, e⟩ := ltK_some hx hy
      simp [e]⟩
    have zm : ∀ {p : D × D}, p ∈ T.zip T.tail → p.1 ∈ KP ∧ p.2 ∈ KP := fun {p} hp => ⟨hk _ (List.of_mem_zip hp).1, hk _ (List.mem_of_mem_tail (List.of_mem_zip hp).2)⟩
    have z2 := comp_pure (Φ := ⟨callF G C (n + 1), C⟩) (elt := (.cmp .lt (.var 1) (.var 2))) (cond := .bl true) (tg := (.cons (.nm 1) (.cons (.nm 2) .nil))) (it := (.zip (.var 0) (.slice (.var 0) (.int 1) .no))) (s := ⟨[some (.v (.tup T)), none, none, none], m⟩) (s0 := ⟨[some (.v (.tup T)), none, none, none], m⟩) (ds := zipD T (T.drop 1))
      (fun _ => true) (fun d => match d with
        | .tup [x, y] => .bl (lt x y)
        | _ => .non) (fun d => match d with
        | .tup [x, y] => [some (.v (.tup T)), some (.v x), some (.v y), none]
        | _ => []) (by
          have := cut_from T 1
          simp [readV, itemsV, asS, evO, lookV, optInt, sliceD] at this ⊢
          rw [this]) rfl (fun d hd => by
        rw [zipD_zip, List.drop_one] at hd
        obtain ⟨p, hp, rfl⟩ := List.mem_map.mp hd
        obtain ⟨hx, hy⟩ := zm hp
        have e := hlt _ hx _ hy
        obtain ⟨x, y⟩ := p
        obtain ⟨a, b, _, _, rfl⟩ := kp_mem hx
        obtain ⟨a', b', _, _, rfl⟩ := kp_mem hy
        simp only at e
        simp [asgT, wipe, Tg.vars, readV, lookV, asB2, asB, cmpop, e]) (Nat.le_trans zipD_len (le_lim hl))
    have ez : ((zipD T (T.drop 1)).filter fun _ => true).map (fun d => match d with
        | .tup [x, y] => D.bl (lt x y)
        | _ => .non) = (T.zip T.tail).map fun p => D.bl (lt p.1 p.2) := by
      rw [List.filter_eq_self.mpr fun _ _ => rfl, zipD_zip, List.drop_one, List.map_map]
      rfl
    rw [ez] at z2
    have b2 : boolsD ((T.zip T.tail).map fun p => D.bl (lt p.1 p.2)) = some ((T.zip T.tail).map fun p => lt p.1 p.2) := bools_map _ _
    refine ⟨(T.zip T.tail).all fun p => lt p.1 p.2, ?_, ?_⟩
    · have hall2 : (T.map f).all id = true := by rw [List.all_map]; exact hall
      simp [Rets, p_is_right_table, evSs_cons, retV, asB, asB2, lookV, readV, isTy, cmpop, biD, lenD, itemsD, z1, z2, bm, b2, hall, List.all_map, Function.comp_def, back, Tg.vars, keptR]
    · rw [tab_iff hk, List.all_eq_true]
      refine forall_congr' fun p => forall_congr' fun hp => ?_
      obtain ⟨hx, hy⟩ := zm hp
      unfold ltK
      rw [hlt _ hx _ hy]
      simp
  · have hall : T.all f = false := by
      cases e : T.all f with
      | false => rfl
      | true => exact absurd (fun d hd => (hf d hd).2.mp (List.all_eq_true.mp e d hd)) hk
    refine ⟨false, ?_, by
      simp only [Bool.false_eq_true, false_iff]
      exact fun ht => hk fun d hd => ht.subset hd⟩
    simp [Rets, p_is_right_table, evSs_cons, retV, asB, asB2, lookV, readV, isTy, cmpop, biD, lenD, itemsD, z1, bm, hall, List.all_map, Function.comp_def, back, Tg.vars, keptR]
theorem t_need_table (g : TabF G C) {T : List D} (hT : Tab T) : Rets (callF G C (n + 3) "need_table" [.tup T] m) (.v .non) m := by
  rw [callF_eq g.need_table rfl]
  obtain ⟨b, e, h⟩ := t_is_right (n := n) (m := m) g (T := T) (fun d hd => kp_pr (hT.subset hd)) (by have := hT.len; omega)
  have hb := h.mpr hT
  subst hb
  have e := e.out
  simp [Rets, p_need_table, evSs_cons, readV, e]
end
end Pah
end
section
set_option maxHeartbeats 4000000
/-! Eq81b: reading and writing texts of tables. -/
namespace Pah
open PySem
/-! ### the program's reading -/
theorem prT_app {A : List Str} {l : Str} : prT (A ++ [l]) = (prT A).bind fun T => (pl l).map fun p => T ++ [p] := by
  induction A with
  | nil =>
    show (pl l).bind (fun p => (prT []).map (p :: ·)) = _
    cases pl l <;> rfl
  | cons x A ih =>
    rw [List.cons_append, prT, ih, prT]
    cases pl x with
    | none => rfl
    | some p =>
      simp only [Option.bind_some]
      cases prT A with
      | none => rfl
      | some T =>
        simp only [Option.bind_some, Option.map_some]
        cases pl l <;> rfl
theorem prT_bad {L : List Str} {l : Str} (hl : l ∈ L) (h : pl l = none) : prT L = none := by
  cases e : prT L with
  | none => rfl
  | some T =>
    obtain ⟨d, _, q⟩ := prT_mem e l hl
    rw [h] at q
    cases q
theorem pl_pr {l : Str} {d : D} (h : okS l) (e : pl l = some d) : Pr d := by
  have ok := split_ok (y := SPs) h
  unfold pl at e
  split at e
  · rename_i a m b q
    split at e
    · cases e
      rw [q] at ok
      exact ⟨a, b, rfl, ok a (by simp), ok b (by simp)⟩
    · cases e
  · cases e
theorem ne_str {x y : Str} (hx : okS x) (hy : okS y) : cmpop .ne (.str x) (.str y) = some (!decide (x = y)) := by
  show (if (D.str x).plain = true ∧ (D.str y).plain = true then some (!eqD (.str x) (.str y)) else none) = _
  rw [if_pos ⟨by rw [plain_str]; exact okS_iff.mpr hx, by rw [plain_str]; exact okS_iff.mpr hy⟩, eqD_str]
theorem lines_ok {s : Str} (h : okS s) : ∀ l ∈ linesOf s, okS l := by
  unfold linesOf
  split
  · exact fun _ h => nomatch h
  · exact split_ok h
theorem lines_wt {s : Str} : wt (linesOf s) ≤ s.length + 1 := by
  unfold linesOf
  split
  · exact Nat.zero_le _
  · rw [split_wt rfl]; exact Nat.le_refl _
theorem wt_mem {L : List Str} {l : Str} (h : l ∈ L) : l.length + L.length ≤ wt L := by
  induction L with
  | nil => cases h
  | cons x L ih =>
    rw [wt_cons, List.length_cons]
    rcases List.mem_cons.mp h with rfl | h
    · have : L.length ≤ wt L := by unfold wt; omega
      omega
    · have := ih h; omega
theorem wt_len (L : List Str) : L.length ≤ wt L := by unfold wt; omega
theorem okS_lit (s : Str) (h : PyData.strOk s = true) : okS s := okS_iff.mp h
theorem ok_nl : okS NLs := okS_lit _ (by decide +kernel)
theorem ok_sp : okS SPs := okS_lit _ (by decide +kernel)
theorem ok_pass : okS PASSs := okS_lit _ (by decide +kernel)
theorem ok_emp : okS ⟨#[]⟩ := okS_lit _ (by decide +kernel)
@[simp] theorem str_emp : Str.ofString "" = ⟨#[]⟩ := by decide +kernel
section
variable {G : Str → Option Fn} {C : Str → Option D} {n : Nat} {m : Mm}
/-- an iterable of lines -/
theorem ev_lines {Φ : Phi} {s : Str} (hs : okS s) (hl : s.length ≤ 10000) {rest : Sl} :
    evE Φ (.ite (.cmp .ne (.var 0) (.str "")) (.mth .split (.var 0) (.str "\n")) (.lst .nil)) ⟨some (.v (.str s)) :: rest, m⟩ = .ok (.l ((linesOf s).map .str)) ⟨some (.v (.str s)) :: rest, m⟩ := by
  have e := ne_str hs ok_emp
  have sp := mth_split (a := s) (b := NLs) (by decide) (by unfold lim; omega)
  unfold linesOf
  by_cases h : s = ⟨#[]⟩
  · subst h
    simp [asB, asB2, lookV, e]
  · simp [asB, asB2, asM, mok, kd, lookV, e, h, sp]
theorem t_read_words (g : Txts G C) {s : Str} (hs : okS s) (hl : s.length ≤ 500) : wp (callF G C (n + 3) "read_words" [.str s] m) (fun r s' => s'.mem = m ∧ ∃ T, r = .v (.tup T) ∧ ansS s = some T) (fun c p m' => c = "InvalidText" ∧ p = .non ∧ m' = m ∧ ansS s = none) := by
  refine wp_call g.read_words rfl ?_
  have hw := lines_wt (s := s)
  have hlen := wt_len (linesOf s)
  simp only [p_read_words, List.map_cons, List.map_nil, List.cons_append, List.nil_append, List.replicate]
  refine wp_step (s1 := ⟨[some (.v (.str s)), none, none, none], m⟩) (by simp [asB, lookV, isTy]) ?_
  refine wp_step (s1 := ⟨[some (.v (.str s)), some (.v (.tup [])), none, none], m⟩) (by simp [asgT]) ?_
  rw [wp_cons]
  refine wp_forE (ev_lines (Φ := ⟨callF G C (n + 2), C⟩) (m := m) hs (by omega) (rest := [some (.v (.tup [])), none, none])) rfl ?_
  refine wp_for (fun ds st => ∃ A B T x2 x3, linesOf s = A ++ B ∧ ds = B.map D.str ∧ prT A = some T ∧ T.length = A.length ∧ (∀ d ∈ T, Pr d) ∧ st = ⟨[some (.v (.str s)), some (.v (.tup T)), x2, x3], m⟩) (fun d ds st hI => ?_) (fun st hI => ?_) _ _ ⟨[], linesOf s, [], _, _, rfl, rfl, rfl, rfl, (fun _ h => nomatch h), rfl⟩
  · obtain ⟨A, B, T, x2, x3, eL, eB, eT, lT, pT, rfl⟩ := hI
    cases B with
    | nil => cases eB
    | cons l B =>
      injection eB with e1 e2
      subst e1 e2
      refine ⟨_, by simp [asgT]; rfl, ?_⟩
      have lm : l ∈ linesOf s := by rw [eL]; simp
      have okl := lines_ok hs l lm
      have ll := wt_mem lm
      have sp := mth_split (a := l) (b := SPs) (by decide) (by unfold lim; omega)
      have okw := split_ok (y := SPs) okl
      have bad : pl l = none → ansS s = none := fun h => ansS_none fun U hU => by
        rw [prT_bad lm h] at hU
        cases hU
      simp only [wp_cons]
      simp [asM, mok, kd, asB, lookV, sp, asgT]
      match hW : Txt.split l SPs with
      | [a, mm, b] =>
        rw [hW] at okw
        have em := ne_str (okw mm (by simp)) ok_pass
        have lt2 : T.length + 1 ≤ lim := le_lim (by rw [lT]; have := congrArg List.length eL; simp at this; omega)
        have i1 : idxD (.lst [.str a, .str mm, .str b]) (.int 1) = some (.str mm) := by simp [idxD, getAt]
        have i0 : idxD (.lst [.str a, .str mm, .str b]) (.int 0) = some (.str a) := by simp [idxD, getAt]
        have i2 : idxD (.lst [.str a, .str mm, .str b]) (.int 2) = some (.str b) := by simp [idxD, getAt]
        have n3 : cmpop .ne (.int 3) (.int 3) = some false := rfl
        have ad : binop .add (.tup T) (.tup [.tup [.str a, .str b]]) = some (.v (.tup (T ++ [.tup [.str a, .str b]]))) := add_tup lt2
        have lm1 : 1 ≤ lim := by unfold lim; omega
        have lm2 : 2 ≤ lim := by unfold lim; omega
        by_cases hm : mm = PASSs
        · have epl : pl l = some (.tup [.str a, .str b]) := by unfold pl; rw [hW]; exact if_pos hm
          subst hm
          simp [wp_cons, asB, asB2, lookV, bi_len_l, n3, i0, i1, i2, em, ad, lm1, lm2, asgT]
          refine ⟨A ++ [l], B, by rw [eL]; simp, rfl, T ++ [.tup [.str a, .str b]], ?_, by simp [lT], fun d hd => ?_, rfl⟩
          · rw [prT_app, eT, epl]
            rfl
          · rcases List.mem_append.mp hd with hd | hd
            · exact pT d hd
            · rw [List.mem_singleton.mp hd]
              exact pl_pr okl epl
        · have epl : pl l = none := by unfold pl; rw [hW]; exact if_neg hm
          simp [wp_cons, asB, asB2, lookV, bi_len_l, n3, i1, em, hm, bad epl]
      | [] =>
        have epl : pl l = none := by unfold pl; rw [hW]
        have n3 : cmpop .ne (.int 0) (.int 3) = some true := rfl
        simp [wp_cons, asB, asB2, lookV, bi_len_l, n3, bad epl]
      | [a] =>
        have epl : pl l = none := by unfold pl; rw [hW]
        have n3 : cmpop .ne (.int 1) (.int 3) = some true := rfl
        simp [wp_cons, asB, asB2, lookV, bi_len_l, n3, bad epl]
      | [a, b] =>
        have epl : pl l = none := by unfold pl; rw [hW]
        have n3 : cmpop .ne (.int 2) (.int 3) = some true := rfl
        simp [wp_cons, asB, asB2, lookV, bi_len_l, n3, bad epl]
      | a :: b :: c :: d :: r =>
        have epl : pl l = none := by unfold pl; rw [hW]
        have n3 : cmpop .ne (.int ((r.length : Int) + 1 + 1 + 1 + 1)) (.int 3) = some true := by
          have : ¬ ((r.length : Int) + 1 + 1 + 1 + 1) = 3 := by omega
          rw [show cmpop .ne (.int ((r.length : Int) + 1 + 1 + 1 + 1)) (.int 3) = some (!decide ((r.length : Int) + 1 + 1 + 1 + 1 = 3)) from rfl, decide_eq_false this]
          rfl
        simp [wp_cons, asB, asB2, lookV, bi_len_l, n3, bad epl]
  · obtain ⟨A, B, T, x2, x3, eL, eB, eT, lT, pT, rfl⟩ := hI
    have : B = [] := by cases B with
      | nil => rfl
      | cons _ _ => cases eB
    subst this
    rw [List.append_nil] at eL
    subst eL
    obtain ⟨b, e, hb⟩ := t_is_right (n := n) (m := m) g.toTabF pT (by omega)
    have e := e.out
    cases b with
    | true =>
      simp [wp_cons, asB, lookV, readV, e, retV]
      exact ansS_some eT (hb.mp rfl)
    | false =>
      simp [wp_cons, asB, lookV, readV, e, retV]
      exact ansS_none fun U hU ht => by
        rw [eT] at hU
        cases hU
        cases hb.mpr ht
end
end Pah
end
section
set_option maxHeartbeats 1000000
/-! Sp81b: pairs sorted. -/
namespace Pah
open PySem
/-- the i-th pair -/
def fK (i : Fin 9) : D := KP.getD i.1 .non
theorem KP_f : KP = (List.finRange 9).map fK := by kernel_rfl
theorem fK_le : ∀ i j : Fin 9, leD (fK i) (fK j) = decide (i ≤ j) := by decide +kernel
theorem fK_lt : ∀ i j : Fin 9, ltD (fK i) (fK j) = some (decide (i < j)) := by decide +kernel
theorem fK_nk : ∀ i j : Fin 9, (fK i).nk = (fK j).nk → i = j := by decide +kernel
theorem fK_alike : ∀ i j : Fin 9, W.alike (fK i).py (fK j).py = true := by decide +kernel
theorem fK_ok : ∀ i : Fin 9, (isTup1 (fK i) && D.key (fK i) && D.nb (fK i) && D.plainN 20 (fK i) && D.smp (fK i)) = true := by decide +kernel
theorem kp_f {d : D} (h : d ∈ KP) : ∃ i, d = fK i := by
  rw [KP_f] at h
  obtain ⟨i, _, rfl⟩ := List.mem_map.mp h
  exact ⟨i, rfl⟩
theorem f_kp (i : Fin 9) : fK i ∈ KP := by
  rw [KP_f]
  exact List.mem_map_of_mem (List.mem_finRange i)
theorem kps_f : ∀ {L : List D}, (∀ d ∈ L, d ∈ KP) → ∃ I : List (Fin 9), L = I.map fK
  | [], _ => ⟨[], rfl⟩
  | d :: L, h => by
    obtain ⟨i, rfl⟩ := kp_f (h _ List.mem_cons_self)
    obtain ⟨I, rfl⟩ := kps_f fun x hx => h x (List.mem_cons_of_mem _ hx)
    exact ⟨i :: I, rfl⟩
theorem tab_f {I : List (Fin 9)} : Tab (I.map fK) ↔ I.Pairwise (· < ·) := by
  constructor
  · intro h
    have p := kp_lt.sublist h
    rw [List.pairwise_map] at p
    exact p.imp fun {a b} hab => by
      rw [fK_lt] at hab
      simpa using hab
  · intro h
    show (I.map fK).Sublist KP
    rw [KP_f]
    refine List.Sublist.map fK (sub_of_sorted (R := (· < ·)) (fun x y a b => ?_) ?_ h fun x _ => List.mem_finRange x)
    · exact absurd (Fin.lt_trans a b) (Fin.lt_irrefl _)
    · decide
def dedupF : List (Fin 9) → List (Fin 9)
  | [] => []
  | i :: I => if i ∈ I then dedupF I else i :: dedupF I
theorem dedup_f : ∀ I : List (Fin 9), dedupD (I.map fK) = (dedupF I).map fK
  | [] => rfl
  | i :: I => by
    have e : (((I.map fK).any fun z => decide (z.nk = (fK i).nk)) = true) ↔ i ∈ I := by
      rw [List.any_map, List.any_eq_true]
      constructor
      · rintro ⟨j, hj, q⟩
        rw [← fK_nk j i (of_decide_eq_true q)]
        exact hj
      · intro h
        exact ⟨i, h, decide_eq_true rfl⟩
    rw [List.map_cons, dedupD, dedupF]
    by_cases h : i ∈ I
    · rw [if_pos (e.mpr h), if_pos h, dedup_f I]
    · rw [if_neg fun q => h (e.mp q), if_neg h, dedup_f I]; rfl
theorem dedupF_mem : ∀ {I : List (Fin 9)} {i : Fin 9}, i ∈ dedupF I → i ∈ I
  | j :: I, i, h => by
    rw [dedupF] at h
    split at h
    · exact List.mem_cons_of_mem _ (dedupF_mem h)
    · rcases List.mem_cons.mp h with rfl | h
      · exact List.mem_cons_self
      · exact List.mem_cons_of_mem _ (dedupF_mem h)
theorem dedupF_nd : ∀ I : List (Fin 9), (dedupF I).Nodup
  | [] => .nil
  | i :: I => by
    rw [dedupF]
    split
    · exact dedupF_nd I
    · rename_i h
      exact List.nodup_cons.mpr ⟨fun q => h (dedupF_mem q), dedupF_nd I⟩
theorem dedupF_id : ∀ {I : List (Fin 9)}, I.Nodup → dedupF I = I
  | [], _ => rfl
  | i :: I, h => by
    obtain ⟨a, b⟩ := List.nodup_cons.mp h
    rw [dedupF, if_neg a, dedupF_id b]
def srtF (I : List (Fin 9)) : List (Fin 9) := I.mergeSort fun a b => decide (a ≤ b)
theorem sort_f {I : List (Fin 9)} (hl : I.length ≤ lim) : sortD (I.map fK) = some ((srtF I).map fK) := by
  have all : ∀ {p : D → Bool}, (∀ i, p (fK i) = true) → (I.map fK).all p = true := fun h => by
    rw [List.all_map, List.all_eq_true]
    exact fun i _ => h i
  have ok := fun i => fK_ok i
  simp only [Bool.and_eq_true] at ok
  have hs : sortable (I.map fK) = true := by
    unfold sortable
    simp only [Bool.and_eq_true, decide_eq_true_eq, Bool.or_eq_true, List.length_map]
    refine ⟨⟨⟨hl, ?_⟩, all fun i => all fun j => fK_alike i j⟩, .inl (all fun i => (ok i).1.1.1.1)⟩
    unfold plains
    rw [plainsN_all]
    exact all fun i => (ok i).1.2
  unfold sortD
  rw [if_pos hs]
  exact congrArg some (List.map_mergeSort (r := fun a b => decide (a ≤ b)) (s := leD) (f := fK) fun a _ b _ => (fK_le a b).symm).symm
theorem srt_pw (I : List (Fin 9)) : (srtF I).Pairwise (· ≤ ·) := by
  refine (List.pairwise_mergeSort (le := fun a b : Fin 9 => decide (a ≤ b)) (fun a b c h k => ?_) (fun a b => ?_) I).imp fun h => by simpa using h
  · simp only [decide_eq_true_eq] at *
    exact Fin.le_trans h k
  · simp only [Bool.or_eq_true, decide_eq_true_eq]
    exact Fin.le_total a b
theorem pw_lt {I : List (Fin 9)} (h : I.Pairwise (· ≤ ·)) (nd : I.Nodup) : I.Pairwise (· < ·) := by
  induction I with
  | nil => exact .nil
  | cons i I ih =>
    obtain ⟨a, b⟩ := List.pairwise_cons.mp h
    obtain ⟨c, d⟩ := List.nodup_cons.mp nd
    exact List.pairwise_cons.mpr ⟨fun j hj => Nat.lt_of_le_of_ne (a j hj) fun e => c (by rw [Fin.ext e]; exact hj), ih b d⟩
theorem srt_id {I : List (Fin 9)} (h : I.Pairwise (· < ·)) : srtF I = I := List.mergeSort_of_pairwise (h.imp fun q => by simp only [decide_eq_true_eq]; exact Fin.le_of_lt q)
theorem nd_lt {I : List (Fin 9)} (h : I.Pairwise (· < ·)) : I.Nodup := h.imp fun q => Fin.ne_of_lt q
theorem srt_tab {I : List (Fin 9)} : I = srtF (dedupF I) ↔ I.Pairwise (· < ·) := by
  constructor
  · intro h
    have p := List.mergeSort_perm (dedupF I) fun a b => decide (a ≤ b)
    have := pw_lt (srt_pw (dedupF I)) (p.nodup_iff.mpr (dedupF_nd I))
    rw [← h] at this
    exact this
  · intro h
    rw [dedupF_id (nd_lt h), srt_id h]
theorem dedupF_len : ∀ I : List (Fin 9), (dedupF I).length ≤ I.length
  | [] => Nat.le_refl _
  | i :: I => by
    rw [dedupF]
    have := dedupF_len I
    split <;> simp only [List.length_cons] <;> omega
/-- sorted(set(L)) of pairs -/
theorem sortset_kp {L : List D} (h : ∀ d ∈ L, d ∈ KP) (hl : L.length ≤ 300) : ∃ M, biD .sortedset [.tup L] = some (.l M) ∧ (∀ d ∈ M, d ∈ KP) ∧ (L = M ↔ Tab L) := by
  obtain ⟨I, rfl⟩ := kps_f h
  rw [List.length_map] at hl
  have all : ∀ {p : D → Bool}, (∀ i, p (fK i) = true) → (I.map fK).all p = true := fun h => by
    rw [List.all_map, List.all_eq_true]
    exact fun i _ => h i
  have ok := fun i => fK_ok i
  simp only [Bool.and_eq_true] at ok
  have so : setOk (I.map fK) = true := by
    unfold setOk
    rw [all fun i => (ok i).1.1.1.2, all fun i => (ok i).1.1.2, List.length_map]
    simp
    omega
  refine ⟨(srtF (dedupF I)).map fK, ?_, fun d hd => ?_, ?_⟩
  · show (if setOk _ = true then _ else _) = _
    rw [if_pos so, dedup_f, sort_f (le_lim (Nat.le_trans (dedupF_len I) (by omega)))]
    rfl
  · obtain ⟨i, _, rfl⟩ := List.mem_map.mp hd
    exact f_kp i
  · rw [tab_f, ← srt_tab]
    refine ⟨fun e => List.map_inj_right (fun i j e => fK_nk i j (congrArg D.nk e)) |>.mp e, fun e => congrArg _ e⟩
/-- sorted of a table -/
theorem sorted_tab {T : List D} (h : Tab T) : biD .sorted [.tup T] = some (.l T) := by
  obtain ⟨I, rfl⟩ := kps_f fun d hd => h.subset hd
  have hl := h.len
  rw [List.length_map] at hl
  show ((some (I.map fK)).bind fun l => (sortD l).map fun l => RV.l l) = _
  rw [Option.bind_some, sort_f (le_lim (by omega)), srt_id (tab_f.mp h)]
  rfl
theorem eq_kps {L M : List D} (hL : ∀ d ∈ L, d ∈ KP) (hM : ∀ d ∈ M, d ∈ KP) : ∃ b, cmpop .eq (.lst L) (.lst M) = some b ∧ (b = true ↔ L = M) := by
  have sm : ∀ {L : List D}, (∀ d ∈ L, d ∈ KP) → (D.lst L).smp = true := fun h => by
    show smps _ = true
    rw [smps_all, List.all_eq_true]
    exact fun d hd => List.all_eq_true.mp kp_smp d (h d hd)
  have pn : ∀ {L : List D}, (∀ d ∈ L, d ∈ KP) → (D.lst L).plain = true := fun h => by
    show plainsN 19 _ = true
    rw [plainsN_all, List.all_eq_true]
    exact fun d hd => plainN_le (by decide) (List.all_eq_true.mp kp_plain d (h d hd))
  have := eqD_smp (.lst L) (.lst M) (sm hL) (sm hM)
  rw [D.lst.injEq] at this
  exact ⟨eqD (.lst L) (.lst M), if_pos ⟨pn hL, pn hM⟩, this⟩
end Pah
end
section
set_option maxHeartbeats 4000000
/-! Eq81c: reading as the law does it; table objects. -/
namespace Pah
open PySem
/-- what is handed in to be read -/
def Inp (d : D) : Prop := (∃ s, d = .str s ∧ okS s ∧ s.length ≤ 250) ∨ (isTy .str d = some false)
theorem not_str {d : D} (h : isTy .str d = some false) : ∀ s, d ≠ .str s := fun s e => by subst e; cases h
theorem ans_not {d : D} (h : isTy .str d = some false) : ans d = .str "text" := by
  cases d <;> first | rfl | exact absurd rfl (not_str h _)
section
variable {G : Str → Option Fn} {C : Str → Option D} {n : Nat} {m : Mm}
theorem t_rw_not (g : Txts G C) {d : D} (h : isTy .str d = some false) : callF G C (n + 1) "read_words" [d] m = .exn "InvalidText" .non m := by
  rw [callF_eq g.read_words rfl]
  simp [p_read_words, evSs_cons, asB, lookV, h]
theorem t_words (g : Txts G C) {d : D} (h : Inp d) : wp (callF G C (n + 3) "read_words" [d] m) (fun r s' => s'.mem = m ∧ ∃ T, r = .v (.tup T) ∧ ans d = .tup T ∧ Tab T) (fun c p m' => c = "InvalidText" ∧ p = .non ∧ m' = m ∧ ans d = .str "text") := by
  rcases h with ⟨s, rfl, hs, hl⟩ | h
  · refine wp_mono (t_read_words g hs (by omega)) (fun r s' => ?_) fun c p m' => ?_
    · rintro ⟨h1, T, rfl, h2⟩
      exact ⟨h1, T, rfl, by rw [ans, h2], (ansS_inv h2).2⟩
    · rintro ⟨rfl, rfl, rfl, h2⟩
      exact ⟨rfl, rfl, rfl, by rw [ans, h2]⟩
  · rw [t_rw_not g h, wp_exn]
    exact ⟨rfl, rfl, rfl, ans_not h⟩
theorem t_table (g : Txts G C) {d : D} (h : Inp d) : wp (callF G C (n + 4) "read_table" [d] m) (fun r s' => s'.mem = m ∧ ∃ T, r = .v (.tup T) ∧ ans d = .tup T ∧ Tab T) (fun c p m' => c = "InvalidText" ∧ p = .non ∧ m' = m ∧ ans d = .str "text") := by
  refine wp_call g.read_table rfl ?_
  simp [p_read_table, wp_cons, retV, readV, wp_bind]
  refine wp_out (wp_mono (t_words g h) (fun r s' h => ?_) fun c p m' h => ?_)
  · simpa using h
  · simpa using h
/-! ### table objects -/
abbrev allS : Str := Str.ofString "all"
theorem t_init (g : Txts G C) {T : List D} (hT : Tab T) {j : Nat} (hj : m[j]? = some (.obj "Table" [])) : Rets (callF G C (n + 4) "Table.__init__" [.ref j, .tup T] m) (.v .non) (m.set j (.obj "Table" [("all", .tup T)])) := by
  rw [callF_eq g.t_init rfl]
  have z1 := comp_pure (Φ := ⟨callF G C (n + 3), C⟩) (elt := (.call "is_pair" (.cons (.var 3) .nil))) (cond := .bl true) (tg := .nm 3) (it := .e (.var 1)) (s := ⟨[some (.v (.ref j)), some (.v (.tup T)), none, none], m⟩) (s0 := ⟨[some (.v (.ref j)), some (.v (.tup T)), none, none], m⟩) (ds := T)
    (fun _ => true) (fun d => .bl true) (fun d => [some (.v (.ref j)), some (.v (.tup T)), none, some (.v d)]) (by simp [readV, itemsV]) rfl (fun d hd => by
      obtain ⟨b, e, h⟩ := t_is_pair (n := n + 2) (m := m) g.toTabF (kp_pr (hT.subset hd))
      have hb := h.mpr (hT.subset hd)
      subst hb
      have e := e.out
      simp [asgT, wipe, Tg.vars, readV, e]) (le_lim (by have := hT.len; omega))
  have ft : T.filter (fun _ => true) = T := List.filter_eq_self.mpr fun _ _ => rfl
  rw [ft] at z1
  have bm : boolsD (T.map fun d => D.bl true) = some (T.map fun _ => true) := bools_map T fun _ => true
  have ba : biD .all [.lst (T.map fun d => D.bl true)] = some (.v (.bl true)) := by
    show (boolsD _).map _ = _
    rw [bm]
    have : (T.map fun _ => true).all id = true := by rw [List.all_map, List.all_eq_true]; exact fun _ _ => rfl
    simp [this]
  have so := sorted_tab hT
  have e := (t_need_table (n := n) (m := m) g.toTabF hT).out
  have sf := stF_ref (s := ⟨[some (.v (.ref j)), some (.v (.tup T)), some (.v (.tup T)), none], m⟩) (c := "Table") (f := "all") (y := .v (.tup T)) hj (by decide)
  simp [Rets, m_Table_init, evSs_cons, asB, lookV, z1, ba, so, bi_tuple_l, back, Tg.vars, keptR, asgT, readV, e, sf]
  rfl
theorem t_tread (g : Txts G C) {d : D} (h : Inp d) : wp (callF G C (n + 5) "Table.read" [.fn "Table", d] m) (fun r s' => ∃ T, s'.mem = m ++ [.obj "Table" [("all", .tup T)]] ∧ r = .v (.ref m.length) ∧ ans d = .tup T) (fun c p m' => c = "InvalidText" ∧ p = .non ∧ m' = m ∧ ans d = .str "text") := by
  refine wp_call g.t_read rfl ?_
  simp [m_Table_read, wp_cons, readV, wp_bind]
  refine wp_out (wp_mono (t_words g h) (fun r s' h => ?_) fun c p m' h => ?_)
  · obtain ⟨hm, T, rfl, ha, hT⟩ := h
    obtain ⟨env, e⟩ := t_init (n := n) (m := m ++ [.obj "Table" []]) g hT (j := m.length) (by simp)
    have mk := mkR_tup (Φ := ⟨callF G C (n + 4), C⟩) (s := ⟨[some (.v (.fn "Table")), some (.v d), some (.v (.tup T))], m⟩) (c := "Table") (ds := T) (le_lim (by have := hT.len; omega)) e
    simp [wp_cons, asgT, hm, retV, lookV, asB, mk, ha]
  · simpa using h
theorem t_source (g : Txts G C) {T : List D} {j : Nat} (hj : m[j]? = some (.obj "Table" [("all", .tup T)])) : Rets (callF G C (n + 1) "Table.source" [.ref j] m) (.v (.tup T)) m := by
  rw [callF_eq g.t_source rfl]
  have := flds_ref hj
  simp [Rets, m_Table_source, evSs_cons, readV, retV, this]
end
end Pah
end
section
set_option maxHeartbeats 4000000
/-! Eq81d: the law's own defs. -/
namespace Pah
open PySem
structure Laws81 (G : Str → Option Fn) (C : Str → Option D) : Prop where
  wide : G "_law_wide" = some l_wide
  by_one : G "_law_by_one" = some l_by_one
  good : G "_law_good_table" = some l_good_table
  due : G "_law_due" = some l_due
  read : G "_law_read" = some l_read
  read_too : G "_law_read_too" = some l_read_too
  bent : G "_law_bent" = some l_bent
  ctable : C "table_text" = some (.fn "table_text")
@[simp] theorem err_text : errW "InvalidText" = some "text" := by decide +kernel
@[simp] theorem err_table : errW "InvalidTable" = some "table" := by decide +kernel
theorem strs_map : ∀ (L : List Str), strsD (L.map D.str) = some L
  | [] => rfl
  | l :: L => by rw [List.map_cons, strsD, strs_map L]; rfl
theorem mth_join {y : Str} {L : List Str} (h : lenSum L + L.length * y.length ≤ lim) : mthD .join (.str y) (.lst (L.map D.str)) = some (.v (.str (Str.join y L))) := by
  show (strsD _).bind _ = _
  rw [strs_map, Option.bind_some, if_pos h]
theorem keys_len {T : List D} (h : Tab T) : lenSum (T.map keyD) = 10 * T.length := by
  have : ∀ L : List D, (∀ d ∈ L, d ∈ KP) → lenSum (L.map keyD) = 10 * L.length := fun L => by
    induction L with
    | nil => intro _; rfl
    | cons d L ih =>
      intro h
      have := ih fun x hx => h x (List.mem_cons_of_mem _ hx)
      unfold lenSum at this ⊢
      simp only [List.map_cons, List.sum_cons, List.length_cons, (keyD_ok (h d List.mem_cons_self)).2.2.1, this]
      omega
  exact this T fun d hd => h.subset hd
theorem keyD_kp {a b : Str} : keyD (.tup [.str a, .str b]) = a ++ MIDs ++ b := rfl
section
variable {G : Str → Option Fn} {C : Str → Option D} {n : Nat} {m : Mm}
theorem key_add {a b : Nat} : binop .add (ch a) (.str MIDs) = some (.v (.str (⟨#[a]⟩ ++ MIDs))) ∧ binop .add (.str (⟨#[a]⟩ ++ MIDs)) (ch b) = some (.v (.str (keyS a b))) := by
  have l1 : (⟨#[a]⟩ : Str).length = 1 := rfl
  have l2 : (⟨#[b]⟩ : Str).length = 1 := rfl
  have l3 : MIDs.length = 8 := rfl
  exact ⟨add_str (le_lim (by omega)), add_str (le_lim (by rw [len_app]; omega))⟩
theorem t_text_of (g : Txts G C) {T : List D} (hT : Tab T) : Rets (callF G C (n + 1) "text_of" [.tup T] m) (.v (.str (txtOf T))) m := by
  rw [callF_eq g.text_of rfl]
  have hl := hT.len
  have z := comp_pure (Φ := ⟨callF G C n, C⟩) (elt := (.bin .add (.bin .add (.var 1) (.str " passes ")) (.var 2))) (cond := .bl true) (tg := .cons (.nm 1) (.cons (.nm 2) .nil)) (it := .e (.var 0)) (s := ⟨[some (.v (.tup T)), none, none], m⟩) (s0 := ⟨[some (.v (.tup T)), none, none], m⟩) (ds := T)
    (fun _ => true) (fun d => .str (keyD d)) (fun d => match d with
      | .tup [x, y] => [some (.v (.tup T)), some (.v x), some (.v y)]
      | _ => []) (by simp [readV, itemsV]) rfl (fun d hd => by
      obtain ⟨a, b, _, _, rfl⟩ := kp_mem (hT.subset hd)
      obtain ⟨e1, e2⟩ := key_add (a := a) (b := b)
      simp [asgT, wipe, Tg.vars, readV, asB2, asB, lookV, e1, e2]
      rfl) (le_lim (by omega))
  have ft : T.filter (fun _ => true) = T := List.filter_eq_self.mpr fun _ _ => rfl
  rw [ft, str_mid] at z
  have j : mthD .join (.str NLs) (.lst (T.map fun d => .str (keyD d))) = some (.v (.str (txtOf T))) := by
    have := mth_join (y := NLs) (L := T.map keyD) (le_lim (by
      rw [keys_len hT, List.length_map]
      show _ + _ * 1 ≤ 1000
      omega))
    rw [List.map_map] at this
    exact this
  simp [Rets, p_text_of, evSs_cons, retV, asM, mok, asB, z, back, Tg.vars, keptR, j]
theorem t_table_text (g : Txts G C) {T : List D} (hT : Tab T) : Rets (callF G C (n + 4) "table_text" [.tup T] m) (.v (.str (txtOf T))) m := by
  rw [callF_eq g.table_text rfl]
  have e1 := (t_need_table (n := n) (m := m) g.toTabF hT).out
  have e2 := (t_text_of (n := n + 2) (m := m) g hT).out
  simp [Rets, p_table_text, evSs_cons, retV, readV, e1, e2]
theorem t_table_not (g : Txts G C) {s : Str} : callF G C (n + 4) "table_text" [.str s] m = .exn "InvalidTable" .non m := by
  have e0 : Rets (callF G C (n + 2) "is_right_table" [.str s] m) (.v (.bl false)) m := by
    rw [callF_eq g.is_right_table rfl]
    simp [Rets, p_is_right_table, evSs_cons, asB, lookV, isTy, retV]
  have e0 := e0.out
  have e1 : callF G C (n + 3) "need_table" [.str s] m = .exn "InvalidTable" .non m := by
    rw [callF_eq g.need_table rfl]
    simp [p_need_table, evSs_cons, readV, e0]
  rw [callF_eq g.table_text rfl]
  simp [p_table_text, evSs_cons, readV, e1, callOut]
theorem t_by_one (g : Txts G C) (gl : Laws81 G C) {s : Str} : Rets (callF G C (n + 5) "_law_by_one" [.fn "table_text", .str s] m) (.v (.str "table")) m := by
  rw [callF_eq gl.by_one rfl]
  have e := t_table_not (n := n) (m := m) g (s := s)
  simp [Rets, l_by_one, evSs_cons, retV, evE_refd, lookV, readV, e, callOut]
theorem t_read (g : Txts G C) (gl : Laws81 G C) {d : D} (h : Inp d) : Rets (callF G C (n + 5) "_law_read" [d] m) (.v (ans d)) m := by
  refine rets_wp ?_
  refine wp_call gl.read rfl ?_
  simp only [l_read, wp_cons, List.map_cons, List.map_nil, List.cons_append, List.nil_append, List.replicate]
  refine wp_tryr ?_
  simp [wp_cons, readV, retV, wp_bind]
  refine wp_out (wp_mono (t_table g h) (fun r s' h => ?_) fun c p m' h => ?_)
  · obtain ⟨h1, T, rfl, h2, _⟩ := h
    simp [h1, h2]
  · obtain ⟨rfl, rfl, rfl, h2⟩ := h
    simp [h2]
theorem t_read_too (g : Txts G C) (gl : Laws81 G C) {d : D} (h : Inp d) : ∃ m', Rets (callF G C (n + 6) "_law_read_too" [d] m) (.v (ans d)) m' ∧ ∃ e, m' = m ++ e := by
  suffices q : wp (callF G C (n + 6) "_law_read_too" [d] m) (fun r s' => r = .v (ans d) ∧ ∃ e, s'.mem = m ++ e) E0 by
    obtain ⟨a, s, e1, rfl, e2⟩ := wp_ex q
    exact ⟨s.mem, ⟨s.env, e1⟩, e2⟩
  refine wp_call gl.read_too rfl ?_
  simp only [l_read_too, wp_cons, List.map_cons, List.map_nil, List.cons_append, List.nil_append, List.replicate]
  refine wp_tryr ?_
  simp [wp_cons, readV, retV, wp_bind]
  refine wp_out (wp_mono (t_tread g h) (fun r s' h => ?_) fun c p m' h => ?_)
  · obtain ⟨T, h1, rfl, h2⟩ := h
    have hj : s'.mem[m.length]? = some (.obj "Table" [("all", .tup T)]) := by rw [h1]; simp
    have e1 := flds_ref hj
    have e2 := (t_source (n := n + 4) (m := s'.mem) g hj).out
    have nm : Str.ofString "Table" ++ Str.ofString "." ++ Str.ofString "source" = Str.ofString "Table.source" := by decide +kernel
    simp [prR, e1, nm, e2, noexn, h2]
    exact ⟨_, h1⟩
  · obtain ⟨rfl, rfl, rfl, h2⟩ := h
    simp [h2]
theorem t_wide (gl : Laws81 G C) {x y : D} : Rets (callF G C (n + 1) "_law_wide" [.tup [x, y], .int 2, .int 2] m) (.v (.bl true)) m := by
  rw [callF_eq gl.wide rfl]
  simp [Rets, l_wide, evSs_cons, asB, lookV, isTy, readV, retV, biD, lenD, itemsD, cmpop]
theorem kp_isin {d : D} (h : d ∈ KP) : cmpop .notin d (.lst KP) = some false := by
  obtain ⟨i, rfl⟩ := kp_f h
  have : ∀ i : Fin 9, (cmpop .notin (fK i) (.lst KP) == some false) = true := by decide +kernel
  exact eq_of_beq (this i)
theorem t_good (g : Draws G) (gl : Laws81 G C) {L : List D} (hL : ∀ d ∈ L, d ∈ KP) (hl : L.length ≤ 300) : ∃ b, Rets (callF G C (n + 2) "_law_good_table" [.tup L] m) (.v (.bl b)) m ∧ (b = true ↔ Tab L) := by
  obtain ⟨M, e1, hM, e2⟩ := sortset_kp hL hl
  obtain ⟨b, e3, e4⟩ := eq_kps hL hM
  refine ⟨b, rets_wp ?_, e4.trans e2⟩
  refine wp_call gl.good rfl ?_
  simp only [l_good_table, List.map_cons, List.map_nil, List.cons_append, List.nil_append, List.replicate]
  refine wp_step (s1 := ⟨[some (.v (.tup L)), none, none], m⟩) (by simp [asB, lookV, isTy]) ?_
  rw [wp_cons]
  refine wp_forE (r := .v (.tup L)) (ds := L) (s1 := ⟨[some (.v (.tup L)), none, none], m⟩) (by simp [readV]) rfl ?_
  refine wp_forIx (fun _ s => ∃ x1 x2, s = ⟨[some (.v (.tup L)), x1, x2], m⟩) (fun i d s hi hI => ?_) (fun s hI => ?_) _ ⟨_, _, rfl⟩
  · obtain ⟨x1, x2, rfl⟩ := hI
    have hd := hL d (List.mem_of_getElem? hi)
    obtain ⟨a, b, ha, hb, rfl⟩ := kp_mem hd
    refine ⟨_, by simp [asgT]; rfl, ?_⟩
    have w := (t_wide (n := n) (m := m) gl (x := ch a) (y := ch b)).out
    have k := (r_kind_pairs (C := C) (n := n) (m := m) g).out
    have z := comp_pure (Φ := ⟨callF G C (n + 1), C⟩) (elt := (.var 2)) (cond := (.not (.isty .str (.var 2)))) (tg := .nm 2) (it := .e (.var 1)) (s := ⟨[some (.v (.tup L)), some (.v (.tup [ch a, ch b])), x2], m⟩) (s0 := ⟨[some (.v (.tup L)), some (.v (.tup [ch a, ch b])), x2], m⟩) (ds := [ch a, ch b])
      (fun _ => false) (fun d => d) (fun d => [some (.v (.tup L)), some (.v (.tup [ch a, ch b])), some (.v d)]) (by simp [readV, itemsV]) rfl (fun d hd => by
        have hc : ∃ x, d = .str x := by
          simp only [List.mem_cons, List.not_mem_nil, or_false] at hd
          rcases hd with rfl | rfl <;> exact ⟨_, rfl⟩
        obtain ⟨c, rfl⟩ := hc
        simp [asgT, wipe, Tg.vars, readV, isTy, asB, lookV]) (by simp [lim])
    have ft : [ch a, ch b].filter (fun _ => false) = [] := rfl
    rw [ft] at z
    have ne0 : cmpop .ne (.lst []) (.lst []) = some false := rfl
    have ni := kp_isin hd
    simp [wp_cons, readV, w, z, asB2, asB, ne0, back, Tg.vars, keptR, lookV, k, ni]
  · obtain ⟨x1, x2, rfl⟩ := hI
    simp [wp_cons, retV, asB2, asB, lookV, readV, bi_list_t, e1, e3]
theorem kl_cases (l : Str) : kl l = .non ∨ kl l ∈ KP := by
  unfold kl
  cases e : lookS keys KP l with
  | none => exact .inl rfl
  | some d => exact .inr (look_iff.mp e).2
theorem pairs_keys : pairsS (KP.map fun d => .tup [.str (keyD d), d]) = some (keys, KP) := by kernel_rfl
theorem bi_dict (ds : List D) : biD .dict [.lst ds] = (pairsS ds).bind fun p => if p.1.Nodup then some (.v (.sd p.1 p.2)) else none := Eq.trans rfl rfl
theorem keys_nd : keys.Nodup := by decide +kernel
theorem t_due (g : Draws G) (gl : Laws81 G C) {d : D} (h : Inp d) : Rets (callF G C (n + 3) "_law_due" [d] m) (.v (ans d)) m := by
  rcases h with ⟨s, rfl, hs, hl⟩ | h
  rotate_left
  · rw [callF_eq gl.due rfl, ans_not h]
    simp [Rets, l_due, evSs_cons, asB, lookV, h, retV]
  have hw := lines_wt (s := s)
  have hlen := wt_len (linesOf s)
  have k := (r_kind_pairs (C := C) (n := n + 1) (m := m) g).out
  have z1 := comp_pure (Φ := ⟨callF G C (n + 2), C⟩) (elt := (.tup (.cons (.bin .add (.bin .add (.idx (.var 5) (.int 0)) (.str " passes ")) (.idx (.var 5) (.int 1))) (.cons (.var 5) .nil)))) (cond := .bl true) (tg := .nm 5) (it := .e (.call "_law_kind_pairs" .nil)) (s := ⟨[some (.v (.str s)), none, none, none, none, none], m⟩) (s0 := ⟨[some (.v (.str s)), none, none, none, none, none], m⟩) (ds := KP)
    (fun _ => true) (fun d => .tup [.str (keyD d), d]) (fun d => [some (.v (.str s)), none, none, none, none, some (.v d)]) (by simp [k, itemsV]) rfl (fun d hd => by
      obtain ⟨a, b, _, _, rfl⟩ := kp_mem hd
      obtain ⟨q1, q2⟩ := key_add (a := a) (b := b)
      simp [asgT, wipe, Tg.vars, readV, asB2, asB, lookV, idxD, getAt, q1, q2, le_lim]
      rfl) (le_lim (by decide))
  have ft : KP.filter (fun _ => true) = KP := List.filter_eq_self.mpr fun _ _ => rfl
  rw [ft, str_mid] at z1
  have bd : biD .dict [.lst (KP.map fun d => .tup [.str (keyD d), d])] = some (.v (.sd keys KP)) := by
    rw [bi_dict, pairs_keys, Option.bind_some, if_pos keys_nd]
  have hne : KP.length ≤ 9 := by decide
  refine rets_wp ?_
  refine wp_call gl.due rfl ?_
  simp only [l_due, List.map_cons, List.map_nil, List.cons_append, List.nil_append, List.replicate]
  refine wp_step (s1 := ⟨[some (.v (.str s)), none, none, none, none, none], m⟩) (by simp [asB, lookV, isTy]) ?_
  refine wp_step (s1 := ⟨[some (.v (.str s)), some (.v (.sd keys KP)), none, none, none, none], m⟩) (by simp [asB, z1, bd, asgT, back, Tg.vars, keptR]) ?_
  refine wp_step (s1 := ⟨[some (.v (.str s)), some (.v (.sd keys KP)), some (.l ((linesOf s).map .str)), none, none, none], m⟩) (by
    rw [evS_asg, ev_lines hs (by omega)]
    simp [asgT]) ?_
  have z2 := comp_pure (Φ := ⟨callF G C (n + 2), C⟩) (elt := .get 1 (.var 4)) (cond := .bl true) (tg := .nm 4) (it := .e (.var 2)) (s := ⟨[some (.v (.str s)), some (.v (.sd keys KP)), some (.l ((linesOf s).map .str)), none, none, none], m⟩) (s0 := ⟨[some (.v (.str s)), some (.v (.sd keys KP)), some (.v (.lst ((linesOf s).map .str))), none, none, none], m⟩) (ds := (linesOf s).map .str)
    (fun _ => true) (fun d => match d with
      | .str l => kl l
      | _ => .non) (fun d => [some (.v (.str s)), some (.v (.sd keys KP)), some (.v (.lst ((linesOf s).map .str))), none, some (.v d), none]) (by simp [readV, itemsV]) rfl (fun d hd => by
      obtain ⟨l, _, rfl⟩ := List.mem_map.mp hd
      simp [asgT, wipe, Tg.vars, readV, lookV, kl]) (le_lim (by rw [List.length_map]; omega))
  have e2 : (((linesOf s).map D.str).filter fun _ => true).map (fun d => match d with
      | .str l => kl l
      | _ => .non) = (linesOf s).map kl := by
    rw [List.filter_eq_self.mpr fun _ _ => rfl, List.map_map]
    rfl
  rw [e2] at z2
  generalize hF : (linesOf s).map kl = F at z2
  refine wp_step (s1 := ⟨[some (.v (.str s)), some (.v (.sd keys KP)), some (.v (.lst ((linesOf s).map .str))), some (.l F), none, none], m⟩) (by simp [z2, asgT, back, Tg.vars, keptR]) ?_
  have pF : plains F = true := by
    unfold plains
    rw [plainsN_all, List.all_eq_true, ← hF]
    intro d hd
    obtain ⟨l, _, rfl⟩ := List.mem_map.mp hd
    rcases kl_cases l with e | e
    · rw [e]; rfl
    · exact plainN_le (by decide) (List.all_eq_true.mp kp_plain _ e)
  have ii : cmpop .isin .non (.lst F) = some (F.any fun z => eqD z .non) := isin_lst rfl pF
  have nn : ∀ {d : D}, d ∈ KP → eqD d .non = false := fun hd => by
    obtain ⟨a, b, _, _, rfl⟩ := kp_mem hd
    rfl
  rcases ans_kl s with ⟨q1, q2, q3⟩ | ⟨⟨l, hl1, hl2⟩, q⟩
  · rw [hF] at q2 q3
    have e0 : (F.any fun z => eqD z .non) = false := by
      rw [List.any_eq_false]
      exact fun d hd => by rw [nn (q2 d hd)]; exact Bool.false_ne_true
    rw [e0] at ii
    obtain ⟨b, e1, hb⟩ := t_good (n := n) (m := m) g gl q2 (by rw [← hF, List.length_map]; omega)
    have e1 := e1.out
    cases b with
    | true =>
      have := ansS_some q3 (hb.mp rfl)
      simp [wp_cons, asB2, asB, lookV, ii, retV, bi_tuple_l, e1, ans, this]
    | false =>
      have : ansS s = none := ansS_none fun T hT ht => by
        rw [q3] at hT
        cases hT
        cases hb.mpr ht
      simp [wp_cons, asB2, asB, lookV, ii, retV, bi_tuple_l, e1, ans, this]
  · have e0 : (F.any fun z => eqD z .non) = true := by
      rw [List.any_eq_true]
      refine ⟨.non, ?_, rfl⟩
      rw [← hF, ← hl2]
      exact List.mem_map_of_mem hl1
    rw [e0] at ii
    simp [wp_cons, asB2, asB, lookV, ii, retV, ans, q]
end
end Pah
end
section
set_option maxHeartbeats 4000000
/-! Eq81e: bent texts. -/
namespace Pah
open PySem
def tkS (s : Str) (p : Nat) : Str := ⟨(s.cps.toList.take p).toArray⟩
def dpS (s : Str) (p : Nat) : Str := ⟨(s.cps.toList.drop p).toArray⟩
theorem tk_len (s : Str) (p : Nat) : (tkS s p).length = min p s.length := by simp [tkS, Str.length]
theorem dp_len (s : Str) (p : Nat) : (dpS s p).length = s.length - p := by simp [dpS, Str.length]
theorem tk_ok {s : Str} {p : Nat} (h : okS s) : okS (tkS s p) := fun c hc => h c (List.mem_of_mem_take (by simpa [tkS] using hc))
theorem dp_ok {s : Str} {p : Nat} (h : okS s) : okS (dpS s p) := fun c hc => h c (List.mem_of_mem_drop (by simpa [dpS] using hc))
theorem sl_to {s : Str} (h : s.length ≤ lim) (p : Nat) : sliceD (.str s) none (some (p : Int)) = some (.v (.str (tkS s p))) := by
  show (if _ then _ else _) = _
  rw [if_pos h, cut_to]
  rfl
theorem sl_from {s : Str} (h : s.length ≤ lim) (p q : Nat) : sliceD (.str s) (some ((p : Int) + (q : Int))) none = some (.v (.str (dpS s (p + q)))) := by
  show (if _ then _ else _) = _
  rw [if_pos h, show (p : Int) + (q : Int) = ((p + q : Nat) : Int) from by omega, cut_from]
  rfl
theorem sl_from1 {s : Str} (h : s.length ≤ lim) (p : Nat) : sliceD (.str s) (some ((p : Int) + 1)) none = some (.v (.str (dpS s (p + 1)))) := sl_from h p 1
theorem ll_to (L : List Str) (p : Nat) : sliceD (.lst (L.map .str)) none (some (p : Int)) = some (.l ((L.take p).map .str)) := by
  show some (RV.l (cutD _ _ _)) = _
  rw [cut_to, List.map_take]
theorem ll_to1 (L : List Str) (p : Nat) : sliceD (.lst (L.map .str)) none (some ((p : Int) + 1)) = some (.l ((L.take (p + 1)).map .str)) := ll_to L (p + 1)
theorem ll_from (L : List Str) (p : Nat) : sliceD (.lst (L.map .str)) (some (p : Int)) none = some (.l ((L.drop p).map .str)) := by
  show some (RV.l (cutD _ _ _)) = _
  rw [cut_from, List.map_drop]
theorem ll_from1 (L : List Str) (p : Nat) : sliceD (.lst (L.map .str)) (some ((p : Int) + 1)) none = some (.l ((L.drop (p + 1)).map .str)) := ll_from L (p + 1)
theorem ll_from2 (L : List Str) (p : Nat) : sliceD (.lst (L.map .str)) (some ((p : Int) + 2)) none = some (.l ((L.drop (p + 2)).map .str)) := ll_from L (p + 2)
theorem ll_mid (L : List Str) (p : Nat) : sliceD (.lst (L.map .str)) (some (p : Int)) (some ((p : Int) + 2)) = some (.l (((L.drop p).take 2).map .str)) := by
  show some (RV.l (cutD _ _ _)) = _
  have e : cutD (L.map D.str) (some (p : Int)) (some ((p : Int) + 2)) = ((L.map D.str).drop p).take 2 := by
    unfold cutD
    rw [show (p : Int) + 2 = ((p + 2 : Nat) : Int) from by omega, HT.sIx_nat, HT.sIx_nat]
    generalize L.map D.str = X
    by_cases h : p ≤ X.length
    · rw [Nat.min_eq_left h]
      by_cases k : p + 2 ≤ X.length
      · rw [Nat.min_eq_left k, show p + 2 - p = 2 by omega]
      · rw [Nat.min_eq_right (by omega), List.take_of_length_le (by simp), List.take_of_length_le (by simp; omega)]
    · rw [Nat.min_eq_right (by omega), Nat.min_eq_right (by omega), List.drop_eq_nil_of_le (Nat.le_refl _), List.drop_eq_nil_of_le (by omega)]
      simp
  rw [e, List.map_take, List.map_drop]
theorem rev_l (L : List Str) : revD (.lst (L.map .str)) = some (.l (L.reverse.map .str)) := by
  show some (RV.l _) = _
  rw [List.map_reverse]
theorem ladd {A B : List Str} (h : A.length + B.length ≤ 1000) : binop .add (.lst (A.map .str)) (.lst (B.map .str)) = some (.l ((A ++ B).map .str)) := by
  rw [add_lst (le_lim (by rw [List.length_map, List.length_map]; exact h)), List.map_append]
theorem ljoin {M : List Str} (h : wt M ≤ 1000) : mthD .join (.str NLs) (.lst (M.map .str)) = some (.v (.str (Str.join NLs M))) := mth_join (by
  show _ + _ * 1 ≤ _
  rw [Nat.mul_one]
  exact le_lim h)
theorem wt_rev (L : List Str) : wt L.reverse = wt L := by
  induction L with
  | nil => rfl
  | cons x L ih => rw [List.reverse_cons, wt_app, ih, wt_cons, wt_cons, wt_nil]; omega
theorem wt_split (L : List Str) (p : Nat) : wt (L.take p) + wt (L.drop p) = wt L := by rw [← wt_app, List.take_append_drop]
theorem wt_drop (L : List Str) (p q : Nat) : wt (L.drop (p + q)) ≤ wt (L.drop p) := by
  have := wt_split (L.drop p) q
  rw [List.drop_drop] at this
  omega
theorem bi_len_s {s : Str} (h : s.length ≤ lim) : biD .len [.str s] = some (.v (.int (s.length : Nat))) := by
  show (lenD (.str s)).map _ = _
  rw [show lenD (.str s) = if s.length ≤ lim then some s.length else none from rfl, if_pos h]
  rfl
abbrev BENDs : Str := Str.ofString "wra ps\nx"
theorem bend_row : BENDs = ⟨([119, 114, 97, 32, 112, 115, 10, 120] : List Nat).toArray⟩ := by decide +kernel
abbrev BADs : List Str := ["a passes a", "w passes w", "r passes x", "w pass r", "w passes  r", "passes w r", "", "w passes w w"]
theorem bads_ok : BADs.all (fun l => PyData.strOk l && decide (l.length ≤ 12)) = true := by decide +kernel
section
variable {G : Str → Option Fn} {C : Str → Option D} {n : Nat} {m : Mm}
theorem t_bent (g : Draws G) (gl : Laws81 G C) {j : Nat} (hs : Src m j) {s : Str} (ok : okS s) (hl : s.length ≤ 200) : ∃ t m', Rets (callF G C (n + 3) "_law_bent" [.ref j, .str s] m) (.v (.str t)) m' ∧ Adv j m m' ∧ okS t ∧ t.length ≤ s.length + 20 := by
  suffices q : wp (callF G C (n + 3) "_law_bent" [.ref j, .str s] m) (fun r s' => ∃ t, r = .v (.str t) ∧ Adv j m s'.mem ∧ okS t ∧ t.length ≤ s.length + 20) E0 by
    obtain ⟨a, s', e1, t, rfl, e2⟩ := wp_ex q
    exact ⟨t, s'.mem, ⟨s'.env, e1⟩, e2⟩
  have hls : s.length ≤ lim := le_lim (by omega)
  obtain ⟨w, m1, e1, ad1, w0, w1⟩ := r_pick (C := C) (n := n + 1) g hs (k := 6) (by decide) (by decide)
  have e1 := e1.out
  obtain ⟨w, rfl⟩ : ∃ i : Nat, w = i := ⟨w.toNat, by omega⟩
  obtain ⟨p, m2, e2, ad2, p0, p1⟩ := r_pick (C := C) (n := n + 1) g ad1.src (k := (s.length : Int) + 1) (by omega) (by omega)
  have e2 := e2.out
  obtain ⟨p, rfl⟩ : ∃ i : Nat, p = i := ⟨p.toNat, by omega⟩
  have ad := ad1.trans ad2
  have ln := bi_len_s hls
  refine wp_call gl.bent rfl ?_
  simp only [l_bent, List.map_cons, List.map_nil, List.cons_append, List.nil_append, List.replicate]
  refine wp_step (s1 := ⟨[some (.v (.ref j)), some (.v (.str s)), some (.v (.int w)), some (.v (.int p)), none, none, none, none], m2⟩) (by simp [readV, asB, asB2, lookV, e1, ln, e2, asgN, asgT]) ?_
  refine wp_step (s1 := ⟨[some (.v (.ref j)), some (.v (.str s)), some (.v (.int w)), some (.v (.int p)), some (.v (.str BENDs)), none, none, none], m2⟩) (by simp [asgT]) ?_
  have t1 := sl_to hls p
  have f1 := sl_from hls p w
  have f2 := sl_from1 hls p
  by_cases hw : w < 2
  · have lt : cmpop .lt (.int w) (.int 2) = some true := by rw [lt_i]; congr 1; exact decide_eq_true (by omega)
    have l8 : BENDs.length ≤ lim := le_lim (by decide +kernel)
    have lb : BENDs.length = 8 := by decide +kernel
    have ln8 : biD .len [.str BENDs] = some (.v (.int 8)) := by
      have := bi_len_s l8
      rw [lb] at this
      exact this
    obtain ⟨q, m3, e3, ad3, q0, q1⟩ := r_pick (C := C) (n := n + 1) g ad2.src (k := 8) (by decide) (by decide)
    have e3 := e3.out
    obtain ⟨q, rfl⟩ : ∃ i : Nat, q = i := ⟨q.toNat, by omega⟩
    obtain ⟨c, hc, hc2⟩ : ∃ c, idxD (.str BENDs) (.int (q : Nat)) = some (ch c) ∧ c < 128 := by
      rw [bend_row, idx_str (le_lim (by decide)), atI_nat]
      have : ([119, 114, 97, 32, 112, 115, 10, 120] : List Nat)[q]? = some (([119, 114, 97, 32, 112, 115, 10, 120] : List Nat)[q]'(by simp; omega)) := List.getElem?_eq_getElem _
      rw [this]
      refine ⟨_, rfl, ?_⟩
      have h : ∀ x ∈ ([119, 114, 97, 32, 112, 115, 10, 120] : List Nat), x < 128 := by decide
      exact h _ (List.getElem_mem _)
    have lc : (⟨#[c]⟩ : Str).length = 1 := rfl
    have lt1 := tk_len s p
    have ld1 := dp_len s (p + w)
    have a1 : binop .add (.str (tkS s p)) (ch c) = some (.v (.str (tkS s p ++ ⟨#[c]⟩))) := add_str (le_lim (by omega))
    have a2 : binop .add (.str (tkS s p ++ ⟨#[c]⟩)) (.str (dpS s (p + w))) = some (.v (.str (tkS s p ++ ⟨#[c]⟩ ++ dpS s (p + w)))) := add_str (le_lim (by rw [len_app]; omega))
    simp [wp_cons, readV, asB, asB2, asS, evO, optInt, lookV, lt, retV, t1, f1, ln8, e3, hc, a1, a2]
    refine ⟨ad.trans ad3, okS_app (okS_app (tk_ok ok) fun x hx => ?_) (dp_ok ok), ?_⟩
    · simp at hx
      omega
    · rw [len_app, len_app, lc]
      omega
  have lt : cmpop .lt (.int w) (.int 2) = some false := by rw [lt_i]; congr 1; exact decide_eq_false (by omega)
  refine wp_step (s1 := ⟨[some (.v (.ref j)), some (.v (.str s)), some (.v (.int w)), some (.v (.int p)), some (.v (.str BENDs)), none, none, none], m2⟩) (by simp [readV, asB, asB2, lookV, lt]) ?_
  by_cases hw2 : w = 2
  · subst hw2
    have eq : cmpop .eq (.int 2) (.int 2) = some true := rfl
    have lt1 := tk_len s p
    have ld1 := dp_len s (p + 1)
    have a1 : binop .add (.str (tkS s p)) (.str (dpS s (p + 1))) = some (.v (.str (tkS s p ++ dpS s (p + 1)))) := add_str (le_lim (by omega))
    simp [wp_cons, readV, asB, asB2, asS, evO, optInt, lookV, eq, retV, t1, f2, a1]
    refine ⟨ad, okS_app (tk_ok ok) (dp_ok ok), ?_⟩
    rw [len_app]
    omega
  have eq2 : ∀ k : Nat, w ≠ k → cmpop .eq (.int w) (.int k) = some false := fun k h => by
    show some (decide _) = _
    exact congrArg some (decide_eq_false (by omega))
  have eq2' : cmpop .eq (.int w) (.int 2) = some false := eq2 2 hw2
  have sp := mth_split (a := s) (b := NLs) (by decide) (le_lim (by omega))
  have spw := split_wt (s := s) (y := NLs) rfl
  have spn := split_ne s NLs
  have spo := split_ok (y := NLs) ok
  generalize Txt.split s NLs = L at sp spw spn spo
  have Ll := wt_len L
  refine wp_step (s1 := ⟨[some (.v (.ref j)), some (.v (.str s)), some (.v (.int w)), some (.v (.int p)), some (.v (.str BENDs)), none, none, none], m2⟩) (by simp [readV, asB, asB2, lookV, eq2']) ?_
  refine wp_step (s1 := ⟨[some (.v (.ref j)), some (.v (.str s)), some (.v (.int w)), some (.v (.int p)), some (.v (.str BENDs)), some (.l (L.map .str)), none, none], m2⟩) (by simp [asM, mok, kd, asB, lookV, sp, asgT]) ?_
  have hL : 0 < L.length := List.length_pos_iff.mpr spn
  obtain ⟨q, m3, e3, ad3, q0, q1⟩ := r_pick (C := C) (n := n + 1) g ad2.src (k := (L.length : Int)) (by omega) (by omega)
  have e3 := e3.out
  obtain ⟨q, rfl⟩ : ∃ i : Nat, q = i := ⟨q.toNat, by omega⟩
  have ad := ad.trans ad3
  refine wp_step (s1 := ⟨[some (.v (.ref j)), some (.v (.str s)), some (.v (.int w)), some (.v (.int q)), some (.v (.str BENDs)), some (.l (L.map .str)), none, none], m3⟩) (by simp [readV, asB, lookV, bi_len_l, e3, asgT]) ?_
  have w0 := wt_split L q
  have w1 := wt_split L (q + 1)
  have w2 := wt_split L (q + 2)
  have wd1 := wt_drop L q 1
  have wd2 := wt_drop L q 2
  have lt0 := wt_len (L.take q)
  have ltd1 := wt_len (L.drop (q + 1))
  have ltd2 := wt_len (L.drop (q + 2))
  have fin : ∀ {M : List Str}, (∀ l ∈ M, okS l) → wt M ≤ s.length + 20 → okS (Str.join NLs M) ∧ (Str.join NLs M).length ≤ s.length + 20 := fun h k => ⟨join_ok ok_nl h, Nat.le_trans (join_le rfl _) k⟩
  by_cases hw3 : w = 3
  · subst hw3
    have eq : cmpop .eq (.int 3) (.int 3) = some true := rfl
    have a1 := ladd (A := L.take q) (B := L.drop (q + 1)) (by omega)
    have jn := ljoin (M := L.take q ++ L.drop (q + 1)) (by rw [wt_app]; omega)
    simp [-List.append_assoc, -List.map_take, -List.map_drop, -List.map_append, -List.map_reverse, wp_cons, readV, asB, asB2, asM, mok, asS, evO, optInt, lookV, eq, retV, ll_to, ll_from1, a1, jn]
    refine ⟨ad, fin (fun l h => ?_) (by rw [wt_app]; omega)⟩
    rcases List.mem_append.mp h with h | h
    · exact spo l (List.mem_of_mem_take h)
    · exact spo l (List.mem_of_mem_drop h)
  have eq3' : cmpop .eq (.int w) (.int 3) = some false := eq2 3 hw3
  refine wp_step (s1 := ⟨[some (.v (.ref j)), some (.v (.str s)), some (.v (.int w)), some (.v (.int q)), some (.v (.str BENDs)), some (.l (L.map .str)), none, none], m3⟩) (by simp [readV, asB, asB2, lookV, eq3']) ?_
  by_cases hw4 : w = 4
  · subst hw4
    have eq : cmpop .eq (.int 4) (.int 4) = some true := rfl
    have wm := wt_split (L.drop q) 2
    rw [List.drop_drop] at wm
    have wr := wt_rev ((L.drop q).take 2)
    have lm := wt_len ((L.drop q).take 2).reverse
    have a1 := ladd (A := L.take q) (B := ((L.drop q).take 2).reverse) (by omega)
    have la := wt_len (L.take q ++ ((L.drop q).take 2).reverse)
    rw [wt_app] at la
    have a2 := ladd (A := L.take q ++ ((L.drop q).take 2).reverse) (B := L.drop (q + 2)) (by omega)
    have jn := ljoin (M := L.take q ++ ((L.drop q).take 2).reverse ++ L.drop (q + 2)) (by rw [wt_app, wt_app]; omega)
    have rv := rev_l ((L.drop q).take 2)
    simp [-List.append_assoc, -List.map_take, -List.map_drop, -List.map_append, -List.map_reverse, wp_cons, readV, asB, asB2, asM, mok, asS, evO, optInt, lookV, eq, retV, ll_to, ll_from2, ll_mid, rv, asgT, a1, a2, jn]
    refine ⟨ad, fin (fun l h => ?_) (by rw [wt_app, wt_app]; omega)⟩
    rcases List.mem_append.mp h with h | h
    · rcases List.mem_append.mp h with h | h
      · exact spo l (List.mem_of_mem_take h)
      · exact spo l (List.mem_of_mem_drop (List.mem_of_mem_take (List.mem_reverse.mp h)))
    · exact spo l (List.mem_of_mem_drop h)
  have eq4' : cmpop .eq (.int w) (.int 4) = some false := eq2 4 hw4
  refine wp_step (s1 := ⟨[some (.v (.ref j)), some (.v (.str s)), some (.v (.int w)), some (.v (.int q)), some (.v (.str BENDs)), some (.l (L.map .str)), none, none], m3⟩) (by simp [readV, asB, asB2, lookV, eq4']) ?_
  obtain ⟨B, hB⟩ : ∃ B, B = BADs.map D.str := ⟨_, rfl⟩
  refine wp_step (s1 := ⟨[some (.v (.ref j)), some (.v (.str s)), some (.v (.int w)), some (.v (.int q)), some (.v (.str BENDs)), some (.l (L.map .str)), some (.l B), none], m3⟩) (by subst hB; simp [asgT, le_lim]) ?_
  obtain ⟨x, m4, e4, ad4, hx⟩ := r_chosen (C := C) (n := n) g ad3.src (ds := B) (by subst hB; simp) (by subst hB; simp)
  have e4 := e4.out
  rw [hB] at hx
  obtain ⟨x, hx', rfl⟩ := List.mem_map.mp hx
  have xo := List.all_eq_true.mp bads_ok x hx'
  simp only [Bool.and_eq_true, decide_eq_true_eq] at xo
  have wx : wt [x] = x.length + 1 := by rw [wt_cons, wt_nil]
  have a1 : binop .add (.lst ((L.take (q + 1)).map .str)) (.lst [.str x]) = some (.l ((L.take (q + 1) ++ [x]).map .str)) := ladd (A := L.take (q + 1)) (B := [x]) (by have := wt_len (L.take (q + 1)); simp only [List.length_singleton]; omega)
  have la := wt_len (L.take (q + 1) ++ [x])
  rw [wt_app] at la
  have a2 := ladd (A := L.take (q + 1) ++ [x]) (B := L.drop (q + 1)) (by omega)
  have jn := ljoin (M := L.take (q + 1) ++ [x] ++ L.drop (q + 1)) (by rw [wt_app, wt_app]; omega)
  simp [-List.append_assoc, -List.map_take, -List.map_drop, -List.map_append, -List.map_reverse, wp_cons, readV, asB, asB2, asM, mok, asS, evO, optInt, lookV, retV, ll_to1, ll_from1, e4, le_lim, a1, a2, jn]
  refine ⟨ad.trans ad4, fin (fun l h => ?_) (by rw [wt_app, wt_app]; omega)⟩
  rcases List.mem_append.mp h with h | h
  · rcases List.mem_append.mp h with h | h
    · exact spo l (List.mem_of_mem_take h)
    · rw [List.mem_singleton.mp h]
      exact okS_iff.mp xo.1
  · exact spo l (List.mem_of_mem_drop h)
end
end Pah
end
section
set_option maxHeartbeats 1000000
/-! Sp81c: signs of texts. -/
namespace Pah
open PySem
theorem join_all {P : Nat → Prop} {y : Str} (hy : ∀ c ∈ TL.tl y, P c) : ∀ {L : List Str}, (∀ l ∈ L, ∀ c ∈ TL.tl l, P c) → ∀ c ∈ TL.tl (Str.join y L), P c
  | [], _ => fun c hc => nomatch hc
  | [x], h => h x List.mem_cons_self
  | x :: z :: L, h => fun c hc => by
    have hc : c ∈ TL.tl (x ++ y ++ Str.join y (z :: L)) := hc
    simp only [TL.tl_append, List.mem_append] at hc
    rcases hc with (hc | hc) | hc
    · exact h x List.mem_cons_self c hc
    · exact hy c hc
    · exact join_all hy (L := z :: L) (fun l hl => h l (List.mem_cons_of_mem _ hl)) c hc
def SIGNS : List Nat := [97, 114, 119, 32, 112, 115, 101, 10]
theorem signs_ok : SIGNS.all (fun c => decide (c < 128) && decide ((Unicode.upperOf c).length = 1) && (Unicode.upperOf c).all fun d => decide (d < 128)) = true := by decide +kernel
theorem key_signs : KP.all (fun d => (TL.tl (keyD d)).all fun c => SIGNS.contains c) = true := by decide +kernel
theorem txt_signs {T : List D} (h : Tab T) : ∀ c ∈ TL.tl (txtOf T), c ∈ SIGNS := by
  refine join_all (by decide) fun l hl c hc => ?_
  obtain ⟨d, hd, rfl⟩ := List.mem_map.mp hl
  have := List.all_eq_true.mp (List.all_eq_true.mp key_signs d (h.subset hd)) c hc
  simpa using this
theorem upper_tl (x : Str) : TL.tl (Txt.upper x) = (TL.tl x).flatMap Unicode.upperOf := by
  show (placed x fun _ c => Unicode.upperOf c).toList = _
  unfold placed
  rw [Array.toList_flatten, Array.toList_mapIdx]
  simp [List.flatMap, TL.tl]
  congr 1
  apply List.ext_getElem?
  intro i
  rw [List.getElem?_map, List.getElem?_mapIdx, List.getElem?_map, Option.map_map]
  rfl
theorem flat_one : ∀ {L : List Nat}, (∀ c ∈ L, c ∈ SIGNS) → (L.flatMap Unicode.upperOf).length = L.length ∧ ∀ c ∈ L.flatMap Unicode.upperOf, c < 128
  | [], _ => ⟨rfl, fun _ h => nomatch h⟩
  | x :: L, h => by
    obtain ⟨a, b⟩ := flat_one fun c hc => h c (List.mem_cons_of_mem _ hc)
    have o := List.all_eq_true.mp signs_ok x (h x List.mem_cons_self)
    simp only [Bool.and_eq_true, decide_eq_true_eq, List.all_eq_true] at o
    refine ⟨by rw [List.flatMap_cons, List.length_append, a, o.1.2, List.length_cons]; omega, fun c hc => ?_⟩
    rw [List.flatMap_cons, List.mem_append] at hc
    exact hc.elim (o.2 c) (b c)
theorem upper_ok {T : List D} (h : Tab T) : okS (Txt.upper (txtOf T)) ∧ (Txt.upper (txtOf T)).length = (txtOf T).length := by
  obtain ⟨a, b⟩ := flat_one (txt_signs h)
  rw [← upper_tl] at a b
  exact ⟨fun c hc => Nat.lt_trans (b c hc) (by decide), a⟩
theorem txt_ok {T : List D} (h : Tab T) : okS (txtOf T) := fun c hc => by
  have := List.all_eq_true.mp signs_ok c (txt_signs h c hc)
  simp only [Bool.and_eq_true, decide_eq_true_eq] at this
  exact Nat.lt_trans this.1.1 (by decide)
theorem txt_len {T : List D} (h : Tab T) : (txtOf T).length ≤ 99 := by
  have key : ∀ L : List D, (∀ d ∈ L, d ∈ KP) → wt (L.map keyD) = 11 * L.length := fun L => by
    induction L with
    | nil => intro _; rfl
    | cons d L ih =>
      intro h
      have := ih fun x hx => h x (List.mem_cons_of_mem _ hx)
      rw [List.map_cons, wt_cons, this, (keyD_ok (h d List.mem_cons_self)).2.2.1, List.length_cons]
      omega
  have := join_le (y := NLs) rfl (T.map keyD)
  rw [key T fun d hd => h.subset hd] at this
  have hl := h.len
  show (Str.join _ _).length ≤ _
  omega
end Pah
end
section
set_option maxHeartbeats 2000000
/-! EqTn: how many turns a law takes. -/
namespace Pah
open PySem
section
variable {G : Str → Option Fn} {C : Str → Option D} {n : Nat} {m : Mm}
theorem ev_turn {Φ : Phi} {l : List Int} {rest : Sl} (a b : Nat) (ha : a ≤ b) (hb : b < 1000) : ∃ N : Nat, N < 1000 ∧ evIt Φ (.range1 (.bi .max (.cons (.int a) (.cons (.bi .min (.cons (.int b) (.cons (.bi .len (.cons (.var 0) .nil)) .nil))) .nil)))) ⟨some (.v (.lst (l.map .int))) :: rest, m⟩ = .ok ((List.range N).map fun i => D.int (i : Nat)) ⟨some (.v (.lst (l.map .int))) :: rest, m⟩ := by
  have mn : ∀ i j : Int, biD .min [.int i, .int j] = some (.v (.int (if j < i then j else i))) := fun _ _ => rfl
  have mx : ∀ i j : Int, biD .max [.int i, .int j] = some (.v (.int (if j > i then j else i))) := fun _ _ => rfl
  obtain ⟨N, hN, e⟩ : ∃ N : Nat, N < 1000 ∧ (if (if (l.length : Int) < b then (l.length : Int) else b) > (a : Int) then (if (l.length : Int) < b then (l.length : Int) else b) else (a : Int)) = (N : Int) := by
    by_cases h1 : (l.length : Int) < b
    · rw [if_pos h1]
      by_cases h2 : (l.length : Int) > a
      · rw [if_pos h2]; exact ⟨l.length, by omega, rfl⟩
      · rw [if_neg h2]; exact ⟨a, by omega, rfl⟩
    · rw [if_neg h1]
      by_cases h2 : (b : Int) > a
      · rw [if_pos h2]; exact ⟨b, by omega, rfl⟩
      · rw [if_neg h2]; exact ⟨a, by omega, rfl⟩
  refine ⟨N, hN, ?_⟩
  have hrg := range_nat (n := N) (by omega)
  rw [evIt_r1]
  simp only [evE_bi, evBs_cons, evBs_one, evEs_cons, evEs_nil, evE_int, bind_ok, asB, lookV, readV, evE_var, List.getElem?_cons_zero, rvd_v, List.map_cons, List.map_nil, deref_int, deref_lst, bi_len_l, List.length_map, of_some, mn, mx, e, rng1_int, hrg]
end
end Pah
end
section
set_option maxHeartbeats 4000000
/-! Law81: k81 holds of the evaluator. -/
namespace Pah
open PySem
theorem ans_cases (d : D) : ans d = .str "text" ∨ ∃ T, ans d = .tup T ∧ Tab T := by
  cases d with
  | str s =>
    cases e : ansS s with
    | none => exact .inl (by rw [ans, e])
    | some T => exact .inr ⟨T, by rw [ans, e], (ansS_inv e).2⟩
  | _ => exact .inl rfl
theorem ne_tab {T : List D} (h : Tab T) : cmpop .ne (.tup T) (.tup T) = some false := by
  have sm : (D.tup T).smp = true := by
    show smps T = true
    rw [smps_all, List.all_eq_true]
    exact h.smp
  have pn : (D.tup T).plain = true := by
    show plainsN 19 T = true
    rw [plainsN_all, List.all_eq_true]
    exact fun d hd => plainN_le (by decide) (h.plain1 d hd)
  show (if _ then some (!eqD (.tup T) (.tup T)) else none) = _
  rw [if_pos ⟨pn, pn⟩, (eqD_smp _ _ sm sm).mpr rfl]
  rfl
theorem ne_ans (d : D) : cmpop .ne (ans d) (ans d) = some false := by
  rcases ans_cases d with e | ⟨T, e, hT⟩
  · rw [e]
    exact (ne_str (okS_lit "text" (by decide +kernel)) (okS_lit "text" (by decide +kernel))).trans (by simp)
  · rw [e]
    exact ne_tab hT
theorem inp_str {s : Str} (h : okS s) (k : s.length ≤ 250) : Inp (.str s) := .inl ⟨s, rfl, h, k⟩
theorem src_app {m e : Mm} {j : Nat} (h : Src m j) : Src (m ++ e) j := by
  obtain ⟨a, b, h1, h2⟩ := h
  have hj : j < m.length := (List.getElem?_eq_some_iff.mp h1).1
  exact ⟨a, b, by rw [List.getElem?_append_left hj]; exact h1, h2⟩
section
variable {G : Str → Option Fn} {C : Str → Option D} {n : Nat} {m : Mm}
/-- the odd texts of a turn -/
theorem r_turn81 (g : Txts G C) (gd : Draws G) (gl : Laws81 G C) (ns : List Int) (k : Nat) (hk : k < 1000) {x2 x3 x4 x5 x6 x7 x8 x9 x10 : Option RV} {B : Sms} {rest : Sms}
    (hB : l_law_k81.body = .cons (.for (.nm 1) (.range1 (.bi .max (.cons (.int 6) (.cons (.bi .min (.cons (.int 20) (.cons (.bi .len (.cons (.var 0) .nil)) .nil))) .nil)))) B) rest) :
    wp (evSs ⟨callF G C (n + 7), C⟩ B ⟨[some (.v (.lst (ns.map .int))), some (.v (.int (k : Nat))), x2, x3, x4, x5, x6, x7, x8, x9, x10], m⟩)
      (fun f s => f = .next ∧ ∃ x1 x2 x3 x4 x5 x6 x7 x8 x9 x10 m', s = ⟨[some (.v (.lst (ns.map .int))), x1, x2, x3, x4, x5, x6, x7, x8, x9, x10], m'⟩) E0 := by
  rw [l_law_k81] at hB
  simp only [Sms.cons.injEq, Sm.for.injEq] at hB
  obtain ⟨⟨_, _, rfl⟩, -⟩ := hB
  obtain ⟨m1, e1, hs1, hl1, _⟩ := r_source (C := C) (n := n + 6) (m := m) gd ns k hk
  have e1 := e1.out
  generalize hj : m.length = j at e1 hs1
  refine wp_step (s1 := ⟨[some (.v (.lst (ns.map .int))), some (.v (.int (k : Nat))), x2, some (.v (.ref j)), x4, x5, x6, x7, x8, x9, x10], m1⟩) (by simp [readV, e1, asgT]) ?_
  obtain ⟨T, m2, e2, ad2, hT⟩ := r_drawn_table (C := C) (n := n + 4) (m := m1) gd hs1
  have e2 := e2.out
  refine wp_step (s1 := ⟨[some (.v (.lst (ns.map .int))), some (.v (.int (k : Nat))), x2, some (.v (.ref j)), some (.v (.tup T)), x5, x6, x7, x8, x9, x10], m2⟩) (by simp [readV, e2, asgT]) ?_
  have hTl := hT.len
  have z := comp_pure (Φ := ⟨callF G C (n + 7), C⟩) (elt := (.bin .add (.bin .add (.idx (.var 10) (.int 0)) (.str " passes ")) (.idx (.var 10) (.int 1)))) (cond := .bl true) (tg := .nm 10) (it := .e (.var 4)) (s := ⟨[some (.v (.lst (ns.map .int))), some (.v (.int (k : Nat))), x2, some (.v (.ref j)), some (.v (.tup T)), x5, x6, x7, x8, x9, x10], m2⟩) (s0 := ⟨[some (.v (.lst (ns.map .int))), some (.v (.int (k : Nat))), x2, some (.v (.ref j)), some (.v (.tup T)), x5, x6, x7, x8, x9, x10], m2⟩) (ds := T)
    (fun _ => true) (fun d => .str (keyD d)) (fun d => [some (.v (.lst (ns.map .int))), some (.v (.int (k : Nat))), x2, some (.v (.ref j)), some (.v (.tup T)), x5, x6, x7, x8, x9, some (.v d)]) (by simp [readV, itemsV]) rfl (fun d hd => by
      obtain ⟨a, b, _, _, rfl⟩ := kp_mem (hT.subset hd)
      obtain ⟨q1, q2⟩ := key_add (a := a) (b := b)
      simp [asgT, wipe, Tg.vars, readV, asB2, asB, lookV, idxD, getAt, q1, q2]
      rfl) (le_lim (by omega))
  have ft : T.filter (fun _ => true) = T := List.filter_eq_self.mpr fun _ _ => rfl
  rw [ft, str_mid] at z
  have jn : mthD .join (.str NLs) (.lst (T.map fun d => .str (keyD d))) = some (.v (.str (txtOf T))) := by
    have := mth_join (y := NLs) (L := T.map keyD) (le_lim (by
      rw [keys_len hT, List.length_map]
      show _ + _ * 1 ≤ 1000
      omega))
    rw [List.map_map] at this
    exact this
  have sok := txt_ok hT
  have sln := txt_len hT
  have sup := upper_ok hT
  have sans : ans (.str (txtOf T)) = .tup T := by rw [ans, ans_txt hT]
  have et := (t_table_text (n := n + 3) (m := m2) g hT).out
  generalize txtOf T = s at jn sok sln sup sans et
  refine wp_step (s1 := ⟨[some (.v (.lst (ns.map .int))), some (.v (.int (k : Nat))), x2, some (.v (.ref j)), some (.v (.tup T)), some (.v (.str s)), x6, x7, x8, x9, (back [10] [none, none, none, none, none, none, none, none, none, none, x10] [none, none, none, none, none, none, none, none, none, none, none]).getD 10 none], m2⟩) (by simp [asM, mok, asB, z, jn, asgT, back, Tg.vars]) ?_
  generalize (back [10] [none, none, none, none, none, none, none, none, none, none, x10] [none, none, none, none, none, none, none, none, none, none, none]).getD 10 none = y10
  have is := inp_str sok (by omega)
  have er := (t_read (n := n + 2) (m := m2) g gl is).out
  have n1 := ne_str sok sok
  have n2 := ne_tab hT
  refine wp_step (s1 := ⟨[some (.v (.lst (ns.map .int))), some (.v (.int (k : Nat))), x2, some (.v (.ref j)), some (.v (.tup T)), some (.v (.str s)), x6, x7, x8, x9, y10], m2⟩) (by simp [readV, asB2, asB, lookV, et, n1, er, sans, n2]) ?_
  have l1 : NLs.length = 1 := rfl
  have l2 : SPs.length = 1 := rfl
  have a1 : binop .add (.str s) (.str NLs) = some (.v (.str (s ++ NLs))) := add_str (le_lim (by omega))
  have a2 : binop .add (.str SPs) (.str s) = some (.v (.str (SPs ++ s))) := add_str (le_lim (by omega))
  have a3 : binop .add (.str s) (.str SPs) = some (.v (.str (s ++ SPs))) := add_str (le_lim (by omega))
  have up : ∀ s' : S, upR (.v (.str s)) s' = .ok (.v (.str (Txt.upper s))) s' := fun s' => upR_str (by omega)
  obtain ⟨O, hO⟩ : ∃ O : List D, O = [.non, .int 7, .str ⟨#[]⟩, .str NLs, .str (s ++ NLs), .str (SPs ++ s), .tup [.str s], .tup T, .str (Txt.upper s), .str (s ++ SPs)] := ⟨_, rfl⟩
  refine wp_step (s1 := ⟨[some (.v (.lst (ns.map .int))), some (.v (.int (k : Nat))), x2, some (.v (.ref j)), some (.v (.tup T)), some (.v (.str s)), some (.l O), x7, x8, x9, y10], m2⟩) (by subst hO; simp [readV, asB2, asB, lookV, a1, a2, a3, up, le_lim, asgT]) ?_
  have iO : ∀ d ∈ O, Inp d := by
    rw [hO]
    intro d hd
    simp only [List.mem_cons, List.not_mem_nil, or_false] at hd
    rcases hd with rfl | rfl | rfl | rfl | rfl | rfl | rfl | rfl | rfl | rfl
    · exact .inr rfl
    · exact .inr rfl
    · exact inp_str ok_emp (by decide)
    · exact inp_str ok_nl (by decide)
    · exact inp_str (okS_app sok ok_nl) (by rw [len_app]; omega)
    · exact inp_str (okS_app ok_sp sok) (by rw [len_app]; omega)
    · exact .inr rfl
    · exact .inr rfl
    · exact inp_str sup.1 (by omega)
    · exact inp_str (okS_app sok ok_sp) (by rw [len_app]; omega)
  have lO : O.length = 10 := by rw [hO]; rfl
  clear hO
  -- the bent ones
  refine wp_seq (fun st => ∃ O x7 x9 m3, st = ⟨[some (.v (.lst (ns.map .int))), some (.v (.int (k : Nat))), x2, some (.v (.ref j)), some (.v (.tup T)), some (.v (.str s)), some (.l O), x7, x8, x9, y10], m3⟩ ∧ (∀ d ∈ O, Inp d) ∧ O.length ≤ 100) ?_ ?_
  · have hr : rangeD 0 16 = some ((List.range 16).map fun i => D.int (i : Nat)) := range_nat (n := 16) (by decide)
    rw [evS_for, evIt_r1, evE_int, bind_ok, rng1_int, hr, of_some, bind_ok]
    refine wp_forIx (fun i st => ∃ O x7 x9 m3, st = ⟨[some (.v (.lst (ns.map .int))), some (.v (.int (k : Nat))), x2, some (.v (.ref j)), some (.v (.tup T)), some (.v (.str s)), some (.l O), x7, x8, x9, y10], m3⟩ ∧ Src m3 j ∧ (∀ d ∈ O, Inp d) ∧ O.length = 10 + 3 * i) (fun i d st hi hI => ?_) (fun st hI => ?_) _ ⟨O, x7, x9, m2, rfl, ad2.src, iO, by omega⟩
    · obtain ⟨O, x7, x9, m3, rfl, hs3, iO, lO⟩ := hI
      have hi16 : i < 16 := by
        have := (List.getElem?_eq_some_iff.mp hi).1
        simpa using this
      refine ⟨_, by simp [asgT]; rfl, ?_⟩
      obtain ⟨b, m4, e4, ad4, ok4, l4⟩ := t_bent (C := C) (n := n + 4) gd gl hs3 sok (by omega)
      have e4 := e4.out
      obtain ⟨c, m5, e5, ad5, ok5, l5⟩ := t_bent (C := C) (n := n + 4) gd gl ad4.src ok4 (by omega)
      have e5 := e5.out
      have ad : binop .add (.lst O) (.lst [.str s, .str b, .str c]) = some (.l (O ++ [.str s, .str b, .str c])) := add_lst (le_lim (by simp only [List.length_cons, List.length_nil]; omega))
      have l3 : ([.str s, .str b, .str c] : List D).length ≤ lim := le_lim (by simp)
      refine wp_mono (Q := fun f st => f = .next ∧ st = ⟨[some (.v (.lst (ns.map .int))), some (.v (.int (k : Nat))), x2, some (.v (.ref j)), some (.v (.tup T)), some (.v (.str s)), some (.l (O ++ [.str s, .str b, .str c])), some (.v d), x8, some (.v (.str b)), y10], m5⟩) (E := E0) ?_ (fun f st h => ?_) fun _ _ _ h => h
      · simp [wp_cons, readV, e4, asgT, asB2, asB, lookV, e5, le_lim, ad]
      · obtain ⟨rfl, rfl⟩ := h
        refine ⟨_, _, _, m5, rfl, ad5.src, fun d hd => ?_, by simp [lO]; omega⟩
        rcases List.mem_append.mp hd with hd | hd
        · exact iO d hd
        · simp only [List.mem_cons, List.not_mem_nil, or_false] at hd
          rcases hd with rfl | rfl | rfl
          · exact is
          · exact inp_str ok4 (by omega)
          · exact inp_str ok5 (by omega)
    · obtain ⟨O, x7, x9, m3, rfl, hs3, iO, lO⟩ := hI
      exact ⟨rfl, O, x7, x9, m3, rfl, iO, by simp at lO; omega⟩
  rintro _ ⟨O, x7, x9, m3, rfl, iO, lO⟩
  refine wp_seq (fun st => ∃ x6 x8 m4, st = ⟨[some (.v (.lst (ns.map .int))), some (.v (.int (k : Nat))), x2, some (.v (.ref j)), some (.v (.tup T)), some (.v (.str s)), x6, x7, x8, x9, y10], m4⟩) ?_ ?_
  · refine wp_forE (r := .v (.lst O)) (ds := O) (s1 := ⟨[some (.v (.lst (ns.map .int))), some (.v (.int (k : Nat))), x2, some (.v (.ref j)), some (.v (.tup T)), some (.v (.str s)), some (.v (.lst O)), x7, x8, x9, y10], m3⟩) (by simp [readV]) rfl ?_
    refine wp_forIx (fun _ st => ∃ x6 x8 m4, st = ⟨[some (.v (.lst (ns.map .int))), some (.v (.int (k : Nat))), x2, some (.v (.ref j)), some (.v (.tup T)), some (.v (.str s)), x6, x7, x8, x9, y10], m4⟩) (fun i d st hi hI => ?_) (fun st hI => ⟨rfl, hI⟩) _ ⟨_, _, _, rfl⟩
    obtain ⟨x6, x8, m4, rfl⟩ := hI
    refine ⟨_, by simp [asgT]; rfl, ?_⟩
    have hd := iO d (List.mem_of_getElem? hi)
    have f1 := (t_read (n := n + 2) (m := m4) g gl hd).out
    have f2 := (t_due (C := C) (n := n + 4) (m := m4) gd gl hd).out
    obtain ⟨m5, f3, f4⟩ := t_read_too (n := n + 1) (m := m4) g gl hd
    have f3 := f3.out
    have f5 := (t_due (C := C) (n := n + 4) (m := m5) gd gl hd).out
    have ne := ne_ans d
    refine wp_mono (Q := fun f st => f = .next ∧ st = ⟨[some (.v (.lst (ns.map .int))), some (.v (.int (k : Nat))), x2, some (.v (.ref j)), some (.v (.tup T)), some (.v (.str s)), x6, x7, some (.v d), x9, y10], m5⟩) (E := E0) ?_ (fun f st h => ?_) fun _ _ _ h => h
    · simp [wp_cons, readV, asB2, asB, lookV, f1, f2, f3, f5, ne]
    · obtain ⟨rfl, rfl⟩ := h
      exact ⟨_, _, m5, rfl⟩
  rintro _ ⟨x6, x8, m4, rfl⟩
  have eb := (t_by_one (n := n + 2) (m := m4) g gl (s := s)).out
  have nt : cmpop .ne (.str "table") (.str "table") = some false := (ne_str (okS_lit "table" (by decide +kernel)) (okS_lit "table" (by decide +kernel))).trans (by simp)
  refine wp_step (s1 := ⟨[some (.v (.lst (ns.map .int))), some (.v (.int (k : Nat))), x2, some (.v (.ref j)), some (.v (.tup T)), some (.v (.str s)), x6, x7, x8, x9, y10], m4⟩) (by simp [readV, asB2, asB, lookV, gl.ctable, eb, nt]) ?_
  simp
abbrev ODDS : List Str := ["w  passes r", "w over r", "\nw passes r", "w passes r\nw passes r", "r passes a\na passes r", "w passes r "]
theorem odds_none : ∀ x ∈ ODDS, okS x ∧ x.length ≤ 30 ∧ ansS x = none := by
  have bad : ∀ {x : Str}, (prT (linesOf x)).isNone = true → ansS x = none := fun h => ansS_none fun T hT => by rw [hT] at h; cases h
  have bad2 : ∀ {x : Str} {I : List (Fin 9)}, prT (linesOf x) = some (I.map fK) → ¬ I.Pairwise (· < ·) → ansS x = none := fun h k => ansS_none fun T hT ht => by
    rw [h] at hT
    cases hT
    exact k (tab_f.mp ht)
  have ok : ODDS.all (fun x => PyData.strOk x && decide (x.length ≤ 30)) = true := by decide +kernel
  intro x hx
  have o := List.all_eq_true.mp ok x hx
  simp only [Bool.and_eq_true, decide_eq_true_eq] at o
  refine ⟨okS_iff.mp o.1, o.2, ?_⟩
  simp only [ODDS, List.mem_cons, List.not_mem_nil, or_false] at hx
  rcases hx with rfl | rfl | rfl | rfl | rfl | rfl
  · exact bad (by decide +kernel)
  · exact bad (by decide +kernel)
  · exact bad (by decide +kernel)
  · exact bad2 (I := [7, 7]) (by kernel_rfl) (by decide)
  · exact bad2 (I := [3, 1]) (by kernel_rfl) (by decide)
  · exact bad (by decide +kernel)
abbrev TWOs : Str := Str.ofString "a passes r\nw passes r"
theorem two_ans : ans (.str TWOs) = .tup ([1, 7].map fK) := by
  have : ansS TWOs = some ([1, 7].map fK) := ansS_some (by kernel_rfl) (tab_f.mpr (by decide))
  rw [ans, this]
theorem r_rest81 (g : Txts G C) (gd : Draws G) (gl : Laws81 G C) {l : D} {x1 x2 x3 x4 x5 x6 x7 x8 x9 x10 : Option RV} {a : Sm} {rest : Sms} (hB : l_law_k81.body = .cons a rest) :
    wp (evSs ⟨callF G C (n + 7), C⟩ rest ⟨[some (.v l), x1, x2, x3, x4, x5, x6, x7, x8, x9, x10], m⟩) (fun f s => f = .ret (.v (.bl true))) E0 := by
  rw [l_law_k81] at hB
  simp only [Sms.cons.injEq] at hB
  obtain ⟨_, rfl⟩ := hB
  obtain ⟨O, hO⟩ : ∃ O : List D, O = ODDS.map D.str := ⟨_, rfl⟩
  refine wp_step (s1 := ⟨[some (.v l), x1, some (.l O), x3, x4, x5, x6, x7, x8, x9, x10], m⟩) (by subst hO; simp [le_lim, asgT]) ?_
  have z := comp_pure (Φ := ⟨callF G C (n + 7), C⟩) (elt := .call "_law_read" (.cons (.var 5) .nil)) (cond := .bl true) (tg := .nm 5) (it := .e (.var 2)) (s := ⟨[some (.v l), x1, some (.l O), x3, x4, x5, x6, x7, x8, x9, x10], m⟩) (s0 := ⟨[some (.v l), x1, some (.v (.lst O)), x3, x4, x5, x6, x7, x8, x9, x10], m⟩) (ds := O)
    (fun _ => true) (fun d => .str "text") (fun d => [some (.v l), x1, some (.v (.lst O)), x3, x4, some (.v d), x6, x7, x8, x9, x10]) (by simp [readV, itemsV]) rfl (fun d hd => by
      rw [hO] at hd
      obtain ⟨x, hx, rfl⟩ := List.mem_map.mp hd
      obtain ⟨o1, o2, o3⟩ := odds_none x hx
      have e := (t_read (n := n + 2) (m := m) g gl (inp_str o1 (by omega))).out
      have ea : ans (.str x) = .str "text" := by rw [ans, o3]
      rw [ea] at e
      simp [asgT, wipe, Tg.vars, readV, e]) (by rw [hO]; exact le_lim (by decide))
  have ft : (O.filter fun _ => true).map (fun _ => D.str "text") = List.replicate 6 (.str "text") := by
    rw [hO]
    rfl
  rw [ft] at z
  have mu : binop .mul (.lst [.str "text"]) (.int 6) = some (.l (List.replicate 6 (.str "text"))) := by
    have h : (0 : Int) ≤ 6 ∧ (6 : Int) ≤ 1000 ∧ ([D.str "text"] : List D).length * (6 : Int).toNat ≤ lim := ⟨by decide, by decide, le_lim (by decide)⟩
    exact (if_pos (e := none) h).trans rfl
  have ne : cmpop .ne (.lst (List.replicate 6 (.str "text"))) (.lst (List.replicate 6 (.str "text"))) = some false := by
    have : (cmpop .ne (.lst (List.replicate 6 (.str "text"))) (.lst (List.replicate 6 (.str "text"))) == some false) = true := by decide +kernel
    exact eq_of_beq this
  have l1 : 1 ≤ lim := le_lim (by decide)
  rw [wp_cons]
  have st : ∀ (Φ : Phi), Φ = ⟨callF G C (n + 7), C⟩ → evS Φ (.ite (.cmp .ne (.comp (.call "_law_read" (.cons (.var 5) .nil)) (.nm 5) (.e (.var 2)) (.bl true)) (.bin .mul (.lst (.cons (.str "text") .nil)) (.int 6))) (.cons (.ret (.bl false)) .nil) .nil) ⟨[some (.v l), x1, some (.l O), x3, x4, x5, x6, x7, x8, x9, x10], m⟩ = .ok .next ⟨back [5] [some (.v l), x1, some (.v (.lst O)), x3, x4, x5, x6, x7, x8, x9, x10] [some (.v l), x1, some (.v (.lst O)), x3, x4, x5, x6, x7, x8, x9, x10], m⟩ := fun Φ h => by
    subst h
    generalize List.replicate 6 (D.str "text") = R at z mu ne
    rw [evS_ite, evE_cmp]
    simp [asB2, asB, z, mu, ne, l1, Tg.vars]
  rw [st _ rfl, wp_ok]
  simp only [back, List.foldl_cons, List.foldl_nil, List.set_cons_succ, List.set_cons_zero]
  have e1 := (t_table_text (n := n + 3) (m := m) g (T := []) (List.nil_sublist _)).out
  have te : txtOf [] = ⟨#[]⟩ := rfl
  rw [te] at e1
  have e2 : Rets (callF G C (n + 7) "read_table" [.str TWOs] m) (.v (.tup ([1, 7].map fK))) m := by
    refine rets_wp (wp_mono (t_table (n := n + 3) g (inp_str (okS_lit _ (by decide +kernel)) (by decide +kernel))) (fun r s' h => ?_) fun c p m' h => ?_)
    · obtain ⟨h1, T, rfl, h2, _⟩ := h
      rw [two_ans] at h2
      cases h2
      exact ⟨rfl, h1⟩
    · obtain ⟨_, _, _, h⟩ := h
      rw [two_ans] at h
      cases h
  have e2 := e2.out
  have q1 : cmpop .eq (.str ⟨#[]⟩) (.str ⟨#[]⟩) = some true := by
    have : (cmpop .eq (.str ⟨#[]⟩) (.str ⟨#[]⟩) == some true) = true := by decide +kernel
    exact eq_of_beq this
  have f1 : fK 1 = .tup [.str ⟨#[97]⟩, .str ⟨#[114]⟩] := rfl
  have f7 : fK 7 = .tup [.str ⟨#[119]⟩, .str ⟨#[114]⟩] := rfl
  have q2 : cmpop .eq (.tup ([1, 7].map fK)) (.tup [.tup [.str ⟨#[97]⟩, .str ⟨#[114]⟩], .tup [.str ⟨#[119]⟩, .str ⟨#[114]⟩]]) = some true := by
    have : (cmpop .eq (.tup ([1, 7].map fK)) (.tup [.tup [.str ⟨#[97]⟩, .str ⟨#[114]⟩], .tup [.str ⟨#[119]⟩, .str ⟨#[114]⟩]]) == some true) = true := by decide +kernel
    exact eq_of_beq this
  generalize [1, 7].map fK = R at e2 q2
  have l2 : 2 ≤ lim := le_lim (by decide)
  have l0 : 0 ≤ lim := Nat.zero_le _
  simp [wp_cons, retV, asB2, asB, e1, q1, e2, q2, l2, l0]
theorem law81_ev (g : Txts G C) (gd : Draws G) (gl : Laws81 G C) (hl : G "law" = some l_law_k81) (ns : List Int) : ∃ s', callF G C (n + 8) "law" [.lst (ns.map .int)] [] = .ok (.v (.bl true)) s' := by
  suffices h : wp (callF G C (n + 8) "law" [.lst (ns.map .int)] []) (fun r _ => r = .v (.bl true)) E0 by
    obtain ⟨a, s, e, rfl⟩ := wp_ex h
    exact ⟨s, e⟩
  refine wp_call hl rfl ?_
  obtain ⟨B, rest, hB⟩ : ∃ B rest, l_law_k81.body = .cons (.for (.nm 1) (.range1 (.bi .max (.cons (.int 6) (.cons (.bi .min (.cons (.int 20) (.cons (.bi .len (.cons (.var 0) .nil)) .nil))) .nil)))) B) rest := ⟨_, _, rfl⟩
  rw [hB]
  simp only [show l_law_k81.ns = 11 from rfl, show l_law_k81.np = 1 from rfl, List.map_cons, List.map_nil, List.cons_append, List.nil_append, List.replicate]
  refine wp_seq (fun s => ∃ x1 x2 x3 x4 x5 x6 x7 x8 x9 x10 m', s = ⟨[some (.v (.lst (ns.map .int))), x1, x2, x3, x4, x5, x6, x7, x8, x9, x10], m'⟩) ?_ ?_
  · obtain ⟨N, hN, e⟩ := ev_turn (Φ := ⟨callF G C (n + 7), C⟩) (l := ns) (rest := [none, none, none, none, none, none, none, none, none, none]) (m := []) 6 20 (by decide) (by decide)
    rw [evS_for]
    have e : evIt ⟨callF G C (n + 7), C⟩ (.range1 (.bi .max (.cons (.int 6) (.cons (.bi .min (.cons (.int 20) (.cons (.bi .len (.cons (.var 0) .nil)) .nil))) .nil)))) _ = _ := e
    rw [e, bind_ok]
    refine wp_forIx (fun _ s => ∃ x1 x2 x3 x4 x5 x6 x7 x8 x9 x10 m', s = ⟨[some (.v (.lst (ns.map .int))), x1, x2, x3, x4, x5, x6, x7, x8, x9, x10], m'⟩) (fun i d s hi hI => ?_) (fun s hI => ⟨rfl, hI⟩) _ ⟨_, _, _, _, _, _, _, _, _, _, _, rfl⟩
    obtain ⟨x1, x2, x3, x4, x5, x6, x7, x8, x9, x10, m', rfl⟩ := hI
    have hi2 : i < N := by
      have := (List.getElem?_eq_some_iff.mp hi).1
      simpa using this
    rw [List.getElem?_map, List.getElem?_range hi2] at hi
    simp only [Option.map_some, Option.some.injEq] at hi
    subst hi
    refine ⟨[some (.v (.lst (ns.map .int))), some (.v (.int (i : Nat))), x2, x3, x4, x5, x6, x7, x8, x9, x10], by simp [asgT], ?_⟩
    refine wp_mono (r_turn81 g gd gl ns i (by omega) hB) (fun f s h => ?_) fun _ _ _ h => h
    obtain ⟨rfl, h⟩ := h
    exact h
  · rintro _ ⟨x1, x2, x3, x4, x5, x6, x7, x8, x9, x10, m', rfl⟩
    refine wp_mono (r_rest81 g gd gl hB) (fun f s h => ?_) fun _ _ _ h => h
    rw [h]
    rfl
end
end Pah
end
set_option maxHeartbeats 0
namespace Pah
open PySem PySem.Spec PyProof.Rows L2
def top_k81 (i : Nat) : Stmt := PySem.Challenge.pw_passahead_k81_whole_tables_written_and_r.main.body.getD i (.Pass ⟨0, 0, 0, 0⟩)
def tab_k81 : List DefR := [⟨"is_within", top_k81 18, p_is_within, ["value", "low", "high"], .glob⟩,
  ⟨"is_pair", top_k81 19, p_is_pair, ["value", "kind"], .glob⟩,
  ⟨"is_right_table", top_k81 20, p_is_right_table, ["value", "one", "other", "pair"], .glob⟩,
  ⟨"need_table", top_k81 21, p_need_table, ["value"], .glob⟩,
  ⟨"text_of", top_k81 23, p_text_of, ["table", "later", "earlier"], .glob⟩,
  ⟨"read_words", top_k81 24, p_read_words, ["value", "found", "line", "words"], .glob⟩,
  ⟨"table_text", top_k81 25, p_table_text, ["table"], .glob⟩,
  ⟨"read_table", top_k81 26, p_read_table, ["value"], .glob⟩,
  ⟨"need_row", top_k81 28, p_need_row, ["value", "kind"], .glob⟩,
  ⟨"passed", top_k81 29, p_passed, ["table", "row", "order", "found", "at"], .glob⟩,
  ⟨"behind_bridge", top_k81 30, p_behind_bridge, ["table", "row", "some", "found", "line", "order"], .glob⟩,
  ⟨"behind_chain", top_k81 31, p_behind_chain, ["chain", "row", "some", "table", "many"], .glob⟩,
  ⟨"first_orders", top_k81 32, p_first_orders, ["row"], .glob⟩,
  ⟨"orders_of", top_k81 33, p_orders_of, ["chain", "row"], .glob⟩,
  ⟨"with_pair", top_k81 35, p_with_pair, ["table", "pair"], .glob⟩,
  ⟨"without_pair", top_k81 36, p_without_pair, ["table", "pair", "one"], .glob⟩,
  ⟨"_law_source", top_k81 40, l_source, ["script", "k", "number", "start"], .glob⟩,
  ⟨"_law_pick", top_k81 41, l_pick, ["source", "many", "found"], .glob⟩,
  ⟨"_law_chosen", top_k81 42, l_chosen, ["source", "things"], .glob⟩,
  ⟨"_law_wide", top_k81 43, l_wide, ["value", "low", "high"], .glob⟩,
  ⟨"_law_by_one", top_k81 46, l_by_one, ["call", "one"], .glob⟩,
  ⟨"_law_kind_pairs", top_k81 47, l_kind_pairs, ["found", "later_so", "earlier_so"], .glob⟩,
  ⟨"_law_drawn_table", top_k81 48, l_drawn_table, ["source", "some", "pair"], .glob⟩,
  ⟨"_law_good_table", top_k81 49, l_good_table, ["value", "pair", "kind"], .glob⟩,
  ⟨"_law_due", top_k81 50, l_due, ["value", "known", "lines", "found", "line", "pair"], .glob⟩,
  ⟨"_law_read", top_k81 51, l_read, ["value", "e"], .glob⟩,
  ⟨"_law_read_too", top_k81 52, l_read_too, ["value", "e"], .glob⟩,
  ⟨"_law_bent", top_k81 53, l_bent, ["source", "text", "kind", "spot", "signs", "lines", "some", "both"], .glob⟩,
  ⟨"law", top_k81 54, l_law_k81, ["script", "k", "bad", "source", "table_so", "text", "odds", "turn", "odd", "bent", "pair"], .glob⟩,
  ⟨"Table.__init__", memS (top_k81 37) 1, m_Table_init, ["self", "pairs", "found", "pair"], .init "Table"⟩,
  ⟨"Table.read", memS (top_k81 37) 2, m_Table_read, ["cls", "text", "pairs"], .cls "Table" "read"⟩,
  ⟨"Table.source", memS (top_k81 37) 3, m_Table_source, ["self"], .prop "Table" "source"⟩]

def nums81 : List (Str × Int) := []
def tups81 : List (Str × List Str) := [("KINDS", ["a", "r", "w"])]
def fns81 : List Str := ["table_text"]
def tn81 : List Str := ["_law_by_one", "law"]
def W81 : Wh := ⟨(consOf nums81 tups81 fns81).map (·.1), ["InvalidTable", "InvalidText", "InvalidRow"], ["_law_by_one"], [("Table", "all")], true⟩
abbrev aux81 := auxAll true (top_k81 45) (top_k81 44)
abbrev R81 : PySem.W.OpenRow := PySem.W.OpenLaw.row PySem.Challenge.rw_passahead_k81_whole_tables_written_and_r
abbrev fa81 := faAll tab_k81 nums81 tups81 W81 true
abbrev fn81 := (tab_k81 ++ aux81).map defOf
abbrev tf81 : List He.Defn := tn81.map fun x => (x, none)
abbrev ex81 := moreB tab_k81 tups81 tn81 true
abbrev hk81 : PySem.W.Hook := hookL 7 tab_k81 nums81 tups81 W81 tn81 true (top_k81 45) (top_k81 44)
def ob81 (s : PySem.W.SharedT) : AlY := obsY 7 fa81 fn81 tf81 ex81 (HandSHeadRun.getT s)
theorem ob81_eq (s : PySem.W.SharedT) : ob81 s = hk81.obs s.abs := obsY_eq (HandSHeadRun.getT_eq s)
def lo81_0 : List Str := ["PassError", "InvalidNet", "InvalidTable", "InvalidRun", "InvalidClaim", "InvalidOutcome", "InvalidChain", "InvalidRow", "InvalidPlace", "InvalidIndex", "InvalidMove", "InvalidText", "NothingToUndo", "TooMany", "KINDS", "ALL_PAIRS"]
def lo81_1 : List Str := ["is_within", "is_pair", "is_right_table", "need_table", "text_of", "read_words", "table_text", "read_table", "need_row", "passed", "behind_bridge", "behind_chain", "first_orders", "orders_of", "with_pair", "without_pair"]
def lo81_2 : List Str := ["Table", "need_value", "_law_source", "_law_pick", "_law_chosen", "_law_wide", "_law_error", "_law_refused", "_law_by_one", "_law_kind_pairs", "_law_drawn_table", "_law_good_table", "_law_due", "_law_read", "_law_read_too", "_law_bent"]
def loose81 : List Str := lo81_0 ++ lo81_1 ++ lo81_2
theorem run81 (w : World) : HandSHeadRun.RunEq R81 (PySem.W.view R81.prog [54]) hk81 ob81 6000 loose81 w := by
  intro os
  kernel_rfl
theorem bind81 : ∀ d ∈ tab_k81 ++ aux81, BindOk d := by
  intro d hd
  simp only [tab_k81, aux81, auxAll, auxOf, if_true, List.mem_append, List.mem_cons, List.not_mem_nil, or_false, or_assoc] at hd
  rcases hd with rfl | rfl | rfl | rfl | rfl | rfl | rfl | rfl | rfl | rfl | rfl | rfl | rfl | rfl | rfl | rfl | rfl | rfl | rfl | rfl | rfl | rfl | rfl | rfl | rfl | rfl | rfl | rfl | rfl | rfl | rfl | rfl | rfl | rfl <;>
    (intro _ _ _ _ _ _; first
      | (refine (if_neg (by decide +kernel)).mpr ?_
         intro us hl
         first
          | exact (match us, hl with | [], _ => rfl)
          | exact (match us, hl with | [_], _ => rfl)
          | exact (match us, hl with | [_, _], _ => rfl)
          | exact (match us, hl with | [_, _, _], _ => rfl)
          | exact (match us, hl with | [_, _, _, _], _ => rfl))
      | (refine (if_pos (by decide +kernel)).mpr ?_
         intro us rest hl
         exact (match us, rest, hl with | [_], [], _ => rfl | [_], _ :: _, _ => rfl)))
def dl81 : DefR := ⟨"law", top_k81 54, l_law_k81, ["script", "k", "bad", "source", "table_so", "text", "odds", "turn", "odd", "bent", "pair"], .glob⟩
theorem chk81 : tab_k81.all (chkD tab_k81 W81) = true := by decide +kernel
theorem is81 : Gof tab_k81 "law" = some l_law_k81 := by kernel_rfl
theorem txts81 : Txts (Gof tab_k81) (fun x => (consOf nums81 tups81 fns81).lookup x) := by
  constructor
  all_goals first | kernel_rfl | (constructor <;> kernel_rfl)
theorem draws81 : Draws (Gof tab_k81) := by
  constructor
  all_goals first | kernel_rfl | (constructor <;> kernel_rfl)
theorem laws81 : Laws81 (Gof tab_k81) (fun x => (consOf nums81 tups81 fns81).lookup x) := by
  constructor
  all_goals first | kernel_rfl | (constructor <;> kernel_rfl)
theorem law81 : ∀ ns : List Int, ns.length ≤ 63 → ∃ s', callF (Gof tab_k81) (fun x => (consOf nums81 tups81 fns81).lookup x) 40 "law" [.lst (ns.map .int)] [] = .ok (.v (.bl true)) s' := fun ns _ => law81_ev (n := 32) txts81 draws81 laws81 is81 ns
end Pah
open PySem PySem.W PySem.Calls PyProof.Rows
theorem PySem.Challenge.cw_passahead_k81_whole_tables_written_and_r_holds : PySem.Challenge.rw_passahead_k81_whole_tables_written_and_r.Holds := by
  w_on; o_law
  refine HandSHeadRun.head_any (r := Pah.R81) (q := view Pah.R81.prog [54]) (H := Pah.hk81) (ob := Pah.ob81) (M := 6000) (loose := Pah.loose81) (d := HandSHeadRun.topDef Pah.R81.prog 54) (kwd := []) Pah.ob81_eq
    (by kernel_rfl) (fun s => by kernel_rfl) Pah.run81 (by kernel_rfl) (by kernel_rfl) (by kernel_rfl) (by rfl) (by first | assumption | decide +kernel) (by decide +kernel) ⟨rfl, rfl, rfl, rfl, rfl, by decide +kernel⟩ ?hw ?hc
  case hw => w_witness2
  case hc => exact Pah.walk_law (nums := Pah.nums81) (tups := Pah.tups81) (fns := Pah.fns81) (tn := Pah.tn81) (W := Pah.W81) (cl := true) 40 Pah.dl81 rfl (by kernel_rfl) ⟨rfl, by decide, by decide⟩ (by kernel_rfl) (by simp [Pah.tab_k81, Pah.dl81]) rfl (by kernel_rfl) rfl (by decide +kernel) rfl Pah.chk81 Pah.bind81 (by decide +kernel) (by decide +kernel) (by decide +kernel) (by decide +kernel) (by decide +kernel) (by decide +kernel) Pah.law81

