import PyProof.Rows.All
import HandS.ForMost
import KE.SortData
import KE.KDictKeyed
import HandS.HeadHook1
import HandS.TupMul
import HandS.Deep
import HandS.TupAny
import HandS.IsInst
import HandS.Conv
import KE.KDictDisplayH
import HandS.ReCall
import HandS.TupLen
import HandS.More
import HandS.Comp
import HandS.Flow
import HandS.ExcOwn
import HandS.Codes
import HandS.Defaults
import HandS.WordsExc
import KE.SortKeyHeap
import HandS.SortKw
import HandS.Star
import HandS.SlotsOwn
import HandS.Ends
import HandS.Words
import HandS.Head0
import HandS.Head1
import HandS.Head2
import HandS.HeadEnd
import HandS.HeadHook2
import PySem.Challenge.RW_eitheranswers_k06_boxes_turned
set_option linter.all false
set_option autoImplicit false
/-! The small language, its data, its evaluator. -/
namespace Ev
open PySem

/-- a class of the module: its name, its fields -/
structure Cl where
  name : Str
  flds : List Str
  deriving DecidableEq

inductive D where
  | non
  | bl (b : Bool)
  | int (i : Int)
  | str (x : Str)
  | tup (ds : List D)
  | lst (ds : List D)
  | scr (ds : List D)
  | ins (c : Cl) (fs : List D)
  | dK (kvs : List (L2.Key × D))
  | dN (kvs : List (D × D))
  deriving Inhabited

inductive R (α : Type) where
  | ok (a : α)
  | exc (c : Cl) (fs : List D)
  | bad

@[reducible] def R.bind {α β : Type} : R α → (α → R β) → R β
  | .ok a, f => f a
  | .exc c fs, _ => .exc c fs
  | .bad, _ => .bad
instance : Monad R where
  pure := .ok
  bind := R.bind
theorem nrfl {α : Sort _} {a b : α} (h : a = b) : a = b := h
@[simp] theorem ok_bind {α β : Type} (a : α) (f : α → R β) : ((R.ok a : R α) >>= f) = f a := nrfl rfl
@[simp] theorem exc_bind {α β : Type} (c : Cl) (fs : List D) (f : α → R β) : ((R.exc c fs : R α) >>= f) = R.exc c fs := nrfl rfl
@[simp] theorem bad_bind {α β : Type} (f : α → R β) : ((R.bad : R α) >>= f) = R.bad := nrfl rfl
@[simp] theorem pure_ok {α : Type} (a : α) : (pure a : R α) = R.ok a := nrfl rfl
def ofO {α : Type} : Option α → R α
  | some a => .ok a
  | none => .bad
@[simp] theorem ofO_some {α : Type} (a : α) : ofO (some a) = R.ok a := nrfl rfl
@[simp] theorem ofO_none {α : Type} : ofO (none : Option α) = R.bad := nrfl rfl

inductive BOp where
  | add | sub | mul | fdiv | mod | pow | shl | shr | band | bor
  deriving DecidableEq
inductive COp where
  | eq | ne | lt | le | gt | ge | isin | notin | is_ | isnot
  deriving DecidableEq
/-- built-in functions and types that are called -/
inductive Bi where
  | len | tuple | list | int | max | min | sum | sorted
  deriving DecidableEq
inductive Ty where
  | int | bool | tuple | str | list | cls (c : Cl)
  deriving DecidableEq

mutual
inductive E where
  | var (i : Nat)
  | non
  | bl (b : Bool)
  | int (i : Int)
  | str (x : Str)
  | glob (g : Nat)
  | bin (o : BOp) (a b : E)
  | neg (a : E)
  | not (a : E)
  | and (a b : E)
  | or (a b : E)
  | cmp (o : COp) (a b : E)
  | chain (o o' : COp) (a b c : E)
  | ife (c a b : E)
  | tup (es : List E)
  | lst (es : List E)
  | dnew (t : Bool)
  | ddisp (t : Bool) (k v : E)
  | idx (a i : E)
  | slc (a : E) (lo hi : Option E)
  | rev (a : E)
  | call (f : Nat) (es : List E)
  | bi (b : Bi) (es : List E)
  | get (d k : E)
  | getd (d k x : E)
  | isi (a : E) (t : Ty)
  | comp (elt : E) (x : Nat) (src : Src) (cond : Option E)
  | sorts (e : E)
  | isc (a : E) (k : Cl)
  | att (a : E) (x : Str)
  | slf (x : Str)
  | new (f : Nat) (es : List E)
  | cal (m : Str) (a : E) (es : List E)
  | eqo (ne : Bool) (a b : E)
inductive Src where
  | rng (es : List E)
  | seq (e : E)
end

inductive Tgt where
  | one (i : Nat)
  | tup (is : List Nat)

inductive S where
  | asg (i : Nat) (e : E)
  | unp (is : List Nat) (e : E)
  | app (i : Nat) (e : E)
  | seti (i : Nat) (k e : E)
  | expr (e : E)
  | ret (e : E)
  | ifs (c : E) (a b : List S)
  | fors (t : Tgt) (src : Src) (body : List S)
  | while (c : E) (body : List S)
  | brk
  | cont
  | pass
  | raise
  | fld (x : Str) (e : E)

inductive Sl where
  | no
  | val (d : D)
  | own (d : D)
  | slf (c : Cl) (fs : List D)
  deriving Inhabited
abbrev Env := List Sl

structure Fn where
  np : Nat
  nl : Nat
  body : List S
  fr : Bool := false
  ini : Option Cl := none

structure Tab where
  fn : Nat → Option Fn
  glob : Nat → Option D
  wf : Nat
  cls : List Cl := []
  meth : Str → Str → Option Nat := fun _ _ => none

/-! ### data -/
@[simp] def isRoot : D → Bool
  | .lst _ => true
  | .dK _ => true
  | .dN _ => true
  | _ => false
mutual
def noMut : D → Bool
  | .tup ds => noMuts ds
  | .lst _ => false
  | .dK _ => false
  | .dN _ => false
  | .ins _ fs => noMuts fs
  | .scr _ => false
  | _ => true
def noMuts : List D → Bool
  | [] => true
  | d :: ds => noMut d && noMuts ds
end

/- what == reads -/
mutual
def py : D → Option PyData
  | .non => some .none
  | .bl b => some (.bool b)
  | .int i => some (.int i)
  | .str x => some (.str x)
  | .tup ds => (pys ds).map .tuple
  | .lst ds => (pys ds).map .list
  | _ => none
def pys : List D → Option (List PyData)
  | [] => some []
  | d :: ds => match py d, pys ds with
    | some a, some b => some (a :: b)
    | _, _ => none
end
def eqD (d e : D) : R Bool := match py d, py e with
  | some a, some b => if SeqAt.shaped a && SeqAt.shaped b then .ok (PyData.eqv a b) else .bad
  | _, _ => .bad
def inD (d : D) (ds : List D) : R Bool := match py d, pys ds with
  | some a, some bs => if SeqAt.shaped a && SeqAt.shaped (.list bs) then .ok (bs.any fun z => PyData.eqv z a) else .bad
  | _, _ => .bad

/- keys of dicts -/
def keyOf : D → Option L2.Key
  | .int i => some (.inl i)
  | .str x => some (.inr x)
  | _ => none
def dOfKey : L2.Key → D
  | .inl i => .int i
  | .inr x => .str x
mutual
def nkey : D → Option NestedKey
  | .non => some .none
  | .bl b => some (.num (if b then 1 else 0))
  | .int i => some (.num i)
  | .str x => some (.text x)
  | .tup ds => match nkeys ds with
    | some ks => some (.tup ks)
    | none => none
  | _ => none
def nkeys : List D → Option (List NestedKey)
  | [] => some []
  | d :: ds => match nkey d, nkeys ds with
    | some k, some ks => some (k :: ks)
    | _, _ => none
end
/-- a tuple as a key -/
def nkeyT (d : D) : Option NestedKey := match d with
  | .tup ds => match nkeys ds with
    | some ks => if (NestedKey.tup ks).depth ≤ 8 then some (.tup ks) else none
    | none => none
  | _ => none
def getN (kvs : List (D × D)) (k : NestedKey) : Option D := (kvs.find? fun kv => decide (nkeyT kv.1 = some k)).map (·.2)
def putN (kvs : List (D × D)) (d : D) (k : NestedKey) (v : D) : List (D × D) :=
  if (getN kvs k).isSome then kvs.map fun kv => if nkeyT kv.1 = some k then (kv.1, v) else kv else kvs ++ [(d, v)]
def getK (kvs : List (L2.Key × D)) (k : L2.Key) : Option D := (kvs.find? fun kv => decide (kv.1 = k)).map (·.2)
def putK (kvs : List (L2.Key × D)) (k : L2.Key) (v : D) : List (L2.Key × D) :=
  if (kvs.any fun kv => decide (kv.1 = k)) = true then kvs.map fun kv => if kv.1 = k then (kv.1, v) else kv else kvs ++ [(k, v)]
def isDict : D → Bool
  | .dN _ => true
  | .dK _ => true
  | _ => false
/-- what a dict holds at a key -/
def dget (d k : D) : R (Option D) := match d with
  | .dN kvs => (match nkeyT k with
    | some k => .ok (getN kvs k)
    | none => .bad)
  | .dK kvs => (match keyOf k with
    | some k => .ok (getK kvs k)
    | none => .bad)
  | _ => .bad
def dput (d k v : D) : R D := match d with
  | .dN kvs => (match nkeyT k with
    | some n => if kvs.length < 16777216 then .ok (.dN (putN kvs k n v)) else .bad
    | none => .bad)
  | .dK kvs => (match keyOf k with
    | some k => if kvs.length < 16777216 then .ok (.dK (putK kvs k v)) else .bad
    | none => .bad)
  | _ => .bad

def truth : D → R Bool
  | .non => .ok false
  | .bl b => .ok b
  | .int i => .ok (i != 0)
  | .tup ds => .ok (!ds.isEmpty)
  | .lst ds => .ok (!ds.isEmpty)
  | _ => .bad

def lineSz : Nat := 16777216

def binD : BOp → D → D → R D
  | .add, .int i, .int j => .ok (.int (i + j))
  | .add, .tup a, .tup b => if a.length + b.length ≤ lineSz then .ok (.tup (a ++ b)) else .bad
  | .add, .lst a, .lst b => if a.length + b.length ≤ lineSz then .ok (.lst (a ++ b)) else .bad
  | .sub, .int i, .int j => .ok (.int (i - j))
  | .mul, .int i, .int j => if (-(2 ^ 64) < i ∧ i < 2 ^ 64) ∨ (-(2 ^ 64) < j ∧ j < 2 ^ 64) then .ok (.int (i * j)) else .bad
  | .mul, .tup a, .int k => if 0 ≤ k ∧ k ≤ 1000 ∧ a.length ≤ 1000 ∧ a ≠ [] then .ok (.tup (List.replicate k.toNat a).flatten) else .bad
  | .mul, .lst a, .int k => if -(2 ^ 63) ≤ k ∧ k < 2 ^ 63 ∧ a.length * k.toNat ≤ lineSz then .ok (.lst (List.replicate k.toNat a).flatten) else .bad
  | .fdiv, .int i, .int j => if 0 < j ∧ j < 1073741824 then .ok (.int (i / j)) else .bad
  | .mod, .int i, .int j => if 0 < j then .ok (.int (i % j)) else .bad
  | .pow, .int i, .int j => if 0 ≤ j ∧ j ≤ 1000000 ∧ i.natAbs < 2 ^ 64 then .ok (.int (i ^ j.toNat)) else .bad
  | .shl, .int i, .int j => if 0 ≤ j ∧ j ≤ 1000000 ∧ i.natAbs < 2 ^ 64 then .ok (.int (i * 2 ^ j.toNat)) else .bad
  | .shr, .int i, .int j => if 0 ≤ j then .ok (.int (i / 2 ^ j.toNat)) else .bad
  | .band, .int i, .int j => .ok (.int (Builtin.bitAnd i j))
  | .bor, .int i, .int j => .ok (.int (Builtin.bitOr i j))
  | _, _, _ => .bad

def hasD (x d : D) : R Bool := match d with
  | .lst ds => inD x ds
  | .tup ds => inD x ds
  | .dN kvs => (dget (.dN kvs) x).bind fun o => .ok o.isSome
  | .dK kvs => (dget (.dK kvs) x).bind fun o => .ok o.isSome
  | _ => .bad

def cmpD : COp → D → D → R Bool
  | .eq, d, e => eqD d e
  | .ne, d, e => (eqD d e).bind fun b => .ok (!b)
  | .lt, .int i, .int j => .ok (decide (i < j))
  | .le, .int i, .int j => .ok (decide (i ≤ j))
  | .gt, .int i, .int j => .ok (decide (j < i))
  | .ge, .int i, .int j => .ok (decide (j ≤ i))
  | .isin, x, d => hasD x d
  | .notin, x, d => (hasD x d).bind fun b => .ok (!b)
  | .is_, .non, .non => .ok true
  | .is_, .ins _ _, .non => .ok false
  | .is_, .tup _, .non => .ok false
  | .is_, .lst _, .non => .ok false
  | .is_, .int _, .non => .ok false
  | .is_, .bl _, .non => .ok false
  | .is_, .str _, .non => .ok false
  | .isnot, .non, .non => .ok false
  | .isnot, .ins _ _, .non => .ok true
  | .isnot, .tup _, .non => .ok true
  | .isnot, .lst _, .non => .ok true
  | .isnot, .int _, .non => .ok true
  | .isnot, .bl _, .non => .ok true
  | .isnot, .str _, .non => .ok true
  | _, _, _ => .bad

def idxD : D → D → R D
  | .tup ds, .int i => ofO (L2.atI ds i)
  | .lst ds, .int i => ofO (L2.atI ds i)
  | .scr ds, .int i => ofO (L2.atI ds i)
  | .dN kvs, k => (dget (.dN kvs) k).bind ofO
  | .dK kvs, k => (dget (.dK kvs) k).bind ofO
  | _, _ => .bad

def cut {α : Type} (xs : List α) (lo hi : Option Int) : List α := (xs.drop (HT.sIx xs.length 0 lo)).take (HT.sIx xs.length xs.length hi - HT.sIx xs.length 0 lo)
def slcD : D → Option Int → Option Int → R D
  | .tup ds, lo, hi => .ok (.tup (cut ds lo hi))
  | .lst ds, lo, hi => .ok (.lst (cut ds lo hi))
  | _, _, _ => .bad
def revD : D → R D
  | .tup ds => .ok (.tup ds.reverse)
  | .lst ds => .ok (.lst ds.reverse)
  | _ => .bad

def intsOf : List D → Option (List Int)
  | [] => some []
  | .int i :: ds => (intsOf ds).map (i :: ·)
  | _ => none
def maxI : Int → List Int → Int
  | m, [] => m
  | m, x :: xs => maxI (if x > m then x else m) xs
def minI : Int → List Int → Int
  | m, [] => m
  | m, x :: xs => minI (if x < m then x else m) xs

def isTy : D → Ty → R Bool
  | .int _, .int => .ok true
  | .bl _, .int => .ok true
  | .bl _, .bool => .ok true
  | .tup _, .tuple => .ok true
  | .str _, .str => .ok true
  | .lst _, .list => .ok true
  | .non, .int | .non, .bool | .non, .tuple | .non, .str | .non, .list => .ok false
  | .int _, .bool | .int _, .tuple | .int _, .str | .int _, .list => .ok false
  | .bl _, .tuple | .bl _, .str | .bl _, .list => .ok false
  | .str _, .int | .str _, .bool | .str _, .tuple | .str _, .list => .ok false
  | .tup _, .int | .tup _, .bool | .tup _, .str | .tup _, .list => .ok false
  | .lst _, .int | .lst _, .bool | .lst _, .str | .lst _, .tuple => .ok false
  | _, _ => .bad
/-- data of a built-in type -/
def isPl : D → Bool
  | .non => true
  | .bl _ => true
  | .int _ => true
  | .str _ => true
  | .tup _ => true
  | .lst _ => true
  | _ => false
/-- the field x of an instance -/
def fldD (c : Cl) (fs : List D) (x : Str) : Option D := match c.flds.findIdx? fun y => decide (y = x) with
  | some i => fs[i]?
  | none => none

def pyD (d : D) : PyData := (py d).getD .none
def neTup : PyData → Bool
  | .tuple (_ :: _) => true
  | _ => false
def noTup : PyData → Bool
  | .none => false
  | .tuple _ => false
  | _ => true
def isUnit : List PyData → Bool
  | [.tuple []] => true
  | _ => false
def sortOk (zs : List PyData) : Bool := zs.all (fun x => zs.all fun y => PySem.W.alike x y) && (zs.all neTup || zs.all noTup || isUnit zs) && zs.all SeqAt.shaped
def sortD (ds : List D) : List D := ds.mergeSort (PySem.W.dataLe false pyD)
/-- the key that size_order gives -/
def szKey : D → PyData
  | .tup ds => .tuple [.int ds.length, .tuple ((pys ds).getD [])]
  | _ => .none
/-- what may be sorted so -/
def szOk (ds : List D) : Bool := ds.all (fun d => match d with
  | .tup es => noMuts es && (pys es).isSome && SeqAt.shaped (szKey (.tup es))
  | _ => false) && (ds.all fun d => ds.all fun e => PySem.W.alike (szKey d) (szKey e)) && decide (ds.length ≤ lineSz)
def sortSz (ds : List D) : List D := ds.mergeSort (PySem.W.dataLe false szKey)
def seqOf : D → Option (List D)
  | .tup ds => some ds
  | .lst ds => some ds
  | .scr ds => some ds
  | .dN kvs => some (kvs.map (·.1))
  | _ => none
def biD : Bi → List D → R D
  | .len, [.tup ds] => .ok (.int ds.length)
  | .len, [.lst ds] => .ok (.int ds.length)
  | .len, [.scr ds] => .ok (.int ds.length)
  | .len, [.dN kvs] => .ok (.int kvs.length)
  | .len, [.str x] => if x.length ≤ lineSz then .ok (.int x.length) else .bad
  | .tuple, [.tup ds] => .ok (.tup ds)
  | .tuple, [.lst ds] => .ok (.tup ds)
  | .tuple, [.scr ds] => .ok (.tup ds)
  | .list, [.tup ds] => .ok (.lst ds)
  | .list, [.lst ds] => .ok (.lst ds)
  | .list, [.scr ds] => .ok (.lst ds)
  | .list, [.dN kvs] => .ok (.lst (kvs.map (·.1)))
  | .list, [.dK kvs] => .ok (.lst (kvs.map fun kv => dOfKey kv.1))
  | .int, [.int i] => .ok (.int i)
  | .int, [.bl b] => .ok (.int (if b then 1 else 0))
  | .max, [.int i, .int j] => .ok (.int (if j > i then j else i))
  | .min, [.int i, .int j] => .ok (.int (if j < i then j else i))
  | .sum, [.lst ds] => match intsOf ds with
    | some is => .ok (.int is.sum)
    | none => .bad
  | .max, [.lst ds] => match intsOf ds with
    | some (i :: is) => .ok (.int (maxI i is))
    | _ => .bad
  | .min, [.lst ds] => match intsOf ds with
    | some (i :: is) => .ok (.int (minI i is))
    | _ => .bad
  | .sorted, [.lst ds] => match pys ds with
    | some zs => if sortOk zs && decide (ds.length ≤ lineSz) then .ok (.lst (sortD ds)) else .bad
    | none => .bad
  | _, _ => .bad

/-! ### statics -/
mutual
/-- names whose own root may stand in the value -/
def lks : E → List Nat
  | .var i => [i]
  | .and a b => lks a ++ lks b
  | .or a b => lks a ++ lks b
  | .ife _ a b => lks a ++ lks b
  | .tup es => lksL es
  | .lst es => lksL es
  | .ddisp _ k v => lks k ++ lks v
  | .idx a _ => lkb a
  | .slc a _ _ => lkb a
  | .rev a => lkb a
  | .bin _ a b => lkb a ++ lkb b
  | .call _ es => lksL es
  | .bi _ es => lkbL es
  | .get d _ => lkb d
  | .getd d _ x => lkb d ++ lks x
  | .comp elt _ _ _ => lks elt
  | .sorts e => lkb e
  | .att a _ => lkb a
  | .new _ es => lksL es
  | .cal _ a es => lks a ++ lksL es
  | .eqo _ a b => lks a ++ lks b
  | _ => []
def lksL : List E → List Nat
  | [] => []
  | e :: es => lks e ++ lksL es
def lkb : E → List Nat
  | .var _ => []
  | e => lks e
def lkbL : List E → List Nat
  | [] => []
  | e :: es => lkb e ++ lkbL es
def lkr : Src → List Nat
  | .rng _ => []
  | .seq e => lkb e
end
def fresh (T : Tab) : E → Bool
  | .lst _ => true
  | .dnew _ => true
  | .ddisp _ _ _ => true
  | .comp _ _ _ _ => true
  | .sorts _ => true
  | .slc _ _ _ => true
  | .rev _ => true
  | .bin _ _ _ => true
  | .bi .list _ => true
  | .bi .sorted _ => true
  | .ife _ a b => fresh T a && fresh T b
  | .call f _ => match T.fn f with
    | some fn => fn.fr
    | none => false
  | _ => false
mutual
/-- names whose root may be written -/
def mutS : S → List Nat
  | .app i _ => [i]
  | .seti i _ _ => [i]
  | .ifs _ a b => mutSs a ++ mutSs b
  | .fors _ _ b => mutSs b
  | .while _ b => mutSs b
  | _ => []
def mutSs : List S → List Nat
  | [] => []
  | s :: r => mutS s ++ mutSs r
end
def srcVar : Src → Option Nat
  | .seq (.var i) => some i
  | _ => none

/-! ### environments -/
def freeze1 : Sl → Sl
  | .own d => .val d
  | s => s
def freeze (is : List Nat) (ρ : Env) : Env := match is with
  | [] => ρ
  | i :: is => freeze is (match ρ[i]? with
    | some (.own d) => ρ.set i (.val d)
    | _ => ρ)
def anyOwn (is : List Nat) (ρ : Env) : Bool := is.any fun i => match ρ[i]? with
  | some (.own _) => true
  | _ => false
/-- behind the evaluation of e to d that is kept -/
def kept (e : E) (d : D) (ρ : Env) : Env := if anyOwn (lks e) ρ then (if noMut d then ρ else freeze (lks e) ρ) else ρ

/-! ### expressions -/
def rangeD : List D → Option (List D)
  | [.int j] => if -(2 ^ 62) ≤ j ∧ j < 2 ^ 62 then some ((List.range j.toNat).map fun k => .int (k : Nat)) else none
  | [.int i, .int j] => if -(2 ^ 62) ≤ i ∧ i < 2 ^ 62 ∧ -(2 ^ 62) ≤ j ∧ j < 2 ^ 62 then some ((List.range (j - i).toNat).map fun (k : Nat) => .int (i + k)) else none
  | [.int i, .int j, .int c] => if c = -1 ∧ -(2 ^ 61) ≤ i ∧ i < 2 ^ 61 ∧ -(2 ^ 61) ≤ j ∧ j < 2 ^ 61 then some ((List.range (i - j).toNat).map fun (k : Nat) => .int (i - k)) else none
  | _ => none

def compR (c : D → R Bool) (f : D → R D) : List D → R (List D)
  | [] => .ok []
  | d :: ds => match c d with
    | .ok false => compR c f ds
    | .ok true => match f d with
      | .ok v => match compR c f ds with
        | .ok vs => .ok (v :: vs)
        | _ => .bad
      | _ => .bad
    | _ => .bad

mutual
def evE (T : Tab) (cf : Nat → List D → R D) (ρ : Env) : E → R D
  | .var i => match ρ[i]? with
    | some (.val d) => .ok d
    | some (.own d) => .ok d
    | _ => .bad
  | .non => .ok .non
  | .bl b => .ok (.bl b)
  | .int i => .ok (.int i)
  | .str x => .ok (.str x)
  | .glob g => ofO (T.glob g)
  | .bin o a b => do let x ← evE T cf ρ a; let y ← evE T cf ρ b; binD o x y
  | .neg a => do match ← evE T cf ρ a with
    | .int i => .ok (.int (-i))
    | _ => .bad
  | .not a => do let x ← evE T cf ρ a; let b ← truth x; .ok (.bl (!b))
  | .and a b => do match ← evE T cf ρ a with
    | .bl true => evE T cf ρ b
    | .bl false => .ok (.bl false)
    | _ => .bad
  | .or a b => do match ← evE T cf ρ a with
    | .bl true => .ok (.bl true)
    | .bl false => evE T cf ρ b
    | _ => .bad
  | .cmp o a b => do let x ← evE T cf ρ a; let y ← evE T cf ρ b; let c ← cmpD o x y; .ok (.bl c)
  | .chain o o' a b c => do
    let x ← evE T cf ρ a
    let y ← evE T cf ρ b
    match ← cmpD o x y with
    | true => let z ← evE T cf ρ c; let r ← cmpD o' y z; .ok (.bl r)
    | false => .ok (.bl false)
  | .ife c a b => do
    let x ← evE T cf ρ c
    match ← truth x with
    | true => evE T cf ρ a
    | false => evE T cf ρ b
  | .tup es => do let ds ← evEs T cf ρ es; .ok (.tup ds)
  | .lst es => do let ds ← evEs T cf ρ es; .ok (.lst ds)
  | .dnew t => .ok (if t then .dN [] else .dK [])
  | .ddisp t k v => if t then (do
    let x ← evE T cf ρ k
    let y ← evE T cf ρ v
    dput (.dN []) x y) else .bad
  | .idx a i => do let x ← evE T cf ρ a; let y ← evE T cf ρ i; idxD x y
  | .slc a lo hi => do
    let x ← evE T cf ρ a
    let l ← evO T cf ρ lo
    let h ← evO T cf ρ hi
    slcD x l h
  | .rev a => do let x ← evE T cf ρ a; revD x
  | .call f es => do let ds ← evEs T cf ρ es; cf f ds
  | .bi b es => do let ds ← evEs T cf ρ es; biD b ds
  | .get d k => do let x ← evE T cf ρ d; if isDict x then (do let y ← evE T cf ρ k; (dget x y).bind fun o => .ok (o.getD .non)) else .bad
  | .getd d k e => do let x ← evE T cf ρ d; if isDict x then (do let y ← evE T cf ρ k; let z ← evE T cf ρ e; (dget x y).bind fun o => .ok (o.getD z)) else .bad
  | .sorts e => do match ← evE T cf ρ e with
    | .lst ds => if szOk ds then .ok (.lst (sortSz ds)) else .bad
    | _ => .bad
  | .isi a t => do let x ← evE T cf ρ a; let b ← isTy x t; .ok (.bl b)
  | .isc a k => if k ∈ T.cls then (do
    let x ← evE T cf ρ a
    match x with
    | .ins c _ => if c ∈ T.cls then .ok (.bl (decide (c = k))) else .bad
    | d => if isPl d = true then .ok (.bl false) else .bad) else .bad
  | .att a x => do match ← evE T cf ρ a with
    | .ins c fs => if c ∈ T.cls then ofO (fldD c fs x) else .bad
    | _ => .bad
  | .slf x => match (ρ[(0 : Nat)]? : Option Sl) with
    | some (.slf c fs) => if c ∈ T.cls then ofO (fldD c fs x) else .bad
    | _ => .bad
  | .new f es => do let ds ← evEs T cf ρ es; cf f ds
  | .cal m a es => match evE T cf ρ a with
    | .ok (.ins c fs) => if c ∈ T.cls then (match T.meth c.name m with
      | some f => do let ds ← evEs T cf ρ es; cf f (.ins c fs :: ds)
      | none => .bad) else .bad
    | _ => .bad
  | .eqo ne a b => match evE T cf ρ a with
    | .ok (.ins c fs) => (match evE T cf ρ b with
      | .ok (.ins c' gs) => if ne = false ∧ c ∈ T.cls ∧ c' ∈ T.cls then (match T.meth c.name "__eq__" with
        | some f => (match cf f [.ins c fs, .ins c' gs] with
          | .ok (.bl r) => .ok (.bl r)
          | _ => .bad)
        | none => .bad) else .bad
      | _ => .bad)
    | _ => .bad
  | .comp elt x src cond => if anyOwn (x :: lkr src) ρ then .bad else do
    let items ← evSrc T cf ρ src
    match compR (fun d => match cond with
        | none => .ok true
        | some c => (evE T cf (ρ.set x (.val d)) c).bind truth) (fun d => evE T cf (ρ.set x (.val d)) elt) items with
    | .ok vs => if items.length ≤ lineSz then .ok (.lst vs) else .bad
    | _ => .bad
def evEs (T : Tab) (cf : Nat → List D → R D) (ρ : Env) : List E → R (List D)
  | [] => .ok []
  | e :: es => do let d ← evE T cf ρ e; let ds ← evEs T cf ρ es; .ok (d :: ds)
def evO (T : Tab) (cf : Nat → List D → R D) (ρ : Env) : Option E → R (Option Int)
  | none => .ok none
  | some e => do match ← evE T cf ρ e with
    | .int i => .ok (some i)
    | _ => .bad
def evSrc (T : Tab) (cf : Nat → List D → R D) (ρ : Env) : Src → R (List D)
  | .rng es => do let ds ← evEs T cf ρ es; ofO (rangeD ds)
  | .seq e => do let d ← evE T cf ρ e; ofO (seqOf d)
end

/-! ### statements -/
inductive Fl where
  | nx (ρ : Env)
  | brk (ρ : Env)
  | cont (ρ : Env)
  | ret (d : D) (own : Bool)

def setT (ρ : Env) (t : Tgt) (d : D) : R Env := match t with
  | .one i => .ok (ρ.set i (.val d))
  | .tup is => match d with
    | .tup ds => if ds.length = is.length then .ok ((is.zip ds).foldl (fun ρ p => ρ.set p.1 (.val p.2)) ρ) else .bad
    | _ => .bad
def forR (set : Env → D → R Env) (body : Env → R Fl) : List D → Env → R Fl
  | [], ρ => .ok (.nx ρ)
  | d :: ds, ρ => match set ρ d with
    | .ok ρ1 => match body ρ1 with
      | .ok (.nx ρ') => forR set body ds ρ'
      | .ok (.cont ρ') => forR set body ds ρ'
      | .ok (.brk ρ') => .ok (.nx ρ')
      | x => x
    | _ => .bad
def whileR (c : Env → R Bool) (body : Env → R Fl) : Nat → Env → R Fl
  | 0, _ => .bad
  | n + 1, ρ => match c ρ with
    | .ok true => match body ρ with
      | .ok (.nx ρ') => whileR c body n ρ'
      | .ok (.cont ρ') => whileR c body n ρ'
      | .ok (.brk ρ') => .ok (.nx ρ')
      | x => x
    | .ok false => .ok (.nx ρ)
    | .exc c fs => .exc c fs
    | .bad => .bad
def bindTo (T : Tab) (i : Nat) (e : E) (d : D) (ρ : Env) : Env :=
  (kept e d ρ).set i (if fresh T e && isRoot d then .own d else .val d)
def isOwnL (ρ : Env) (i : Nat) : Bool := match ρ[i]? with
  | some (.own (.lst _)) => true
  | _ => false
def isOwnM (ρ : Env) (i : Nat) : Bool := match ρ[i]? with
  | some (.own _) => true
  | _ => false
def isOwn (e : E) (ρ : Env) : Bool := match e with
  | .var i => match ρ[i]? with
    | some (.own _) => true
    | _ => false
  | _ => false
mutual
def evS (T : Tab) (cf : Nat → List D → R D) : S → Env → R Fl
  | .asg i e, ρ => do let d ← evE T cf ρ e; .ok (.nx (bindTo T i e d ρ))
  | .app i e, ρ => if isOwnL ρ i then do
    let d ← evE T cf ρ e
    match (kept e d ρ)[i]? with
    | some (.own (.lst ds)) => if ds.length < lineSz then .ok (.nx ((kept e d ρ).set i (.own (.lst (ds ++ [d]))))) else .bad
    | _ => .bad
    else .bad
  | .seti i k e, ρ => if isOwnM ρ i then do
    let d ← evE T cf ρ e
    let y ← evE T cf ρ k
    match (kept e d ρ)[i]? with
    | some (.own (.lst ds)) => (match y with
      | .int j => (match L2.ixN ds.length j with
        | some j => .ok (.nx ((kept e d ρ).set i (.own (.lst (ds.set j d)))))
        | none => .bad)
      | _ => .bad)
    | some (.own x) => if anyOwn (lks k) ρ then .bad else (match dput x y d with
      | .ok x' => .ok (.nx ((kept e d ρ).set i (.own x')))
      | _ => .bad)
    | _ => .bad
    else .bad
  | .unp is e, ρ => do
    let d ← evE T cf ρ e
    match setT (kept e d ρ) (.tup is) d with
    | .ok ρ' => .ok (.nx ρ')
    | _ => .bad
  | .expr e, ρ => do let _ ← evE T cf ρ e; .ok (.nx ρ)
  | .ret e, ρ => do let d ← evE T cf ρ e; .ok (.ret d ((fresh T e && isRoot d) || isOwn e ρ))
  | .ifs c a b, ρ => do
    let x ← evE T cf ρ c
    match ← truth x with
    | true => evSs T cf a ρ
    | false => evSs T cf b ρ
  | .fors t src body, ρ => match srcVar src with
    | some y => if (mutSs body).contains y then .bad else (evSrc T cf ρ src).bind fun items => forR (fun ρ d => setT ρ t d) (fun ρ => evSs T cf body ρ) items ρ
    | none => if anyOwn (lkr src) ρ then .bad else (evSrc T cf ρ src).bind fun items => forR (fun ρ d => setT ρ t d) (fun ρ => evSs T cf body ρ) items ρ
  | .while c body, ρ => whileR (fun ρ => (evE T cf ρ c).bind truth) (fun ρ => evSs T cf body ρ) T.wf ρ
  | .brk, ρ => .ok (.brk ρ)
  | .cont, ρ => .ok (.cont ρ)
  | .pass, ρ => .ok (.nx ρ)
  | .raise, _ => .bad
  | .fld _ _, _ => .bad
def evSs (T : Tab) (cf : Nat → List D → R D) : List S → Env → R Fl
  | [], ρ => .ok (.nx ρ)
  | s :: r, ρ => match evS T cf s ρ with
    | .ok (.nx ρ') => evSs T cf r ρ'
    | x => x
end

def startE (fn : Fn) (ds : List D) : Env := ds.map .val ++ List.replicate (fn.nl - fn.np) .no
def startI (c : Cl) (fn : Fn) (ds : List D) : Env := .slf c [] :: (ds.map .val ++ List.replicate (fn.nl - (fn.np + 1)) .no)
/-- an initializer's body: fields are stored at the top level alone -/
def evI (T : Tab) (cf : Nat → List D → R D) : List S → Env → R Env
  | [], ρ => .ok ρ
  | s :: r, ρ => match s with
    | .fld x e => (match (ρ[(0 : Nat)]? : Option Sl) with
      | some (.slf c fs) => (match evE T cf ρ e with
        | .ok d => if noMut d = true ∧ c ∈ T.cls ∧ c.flds[fs.length]? = some x ∧ c.flds.length ≤ 100 ∧ c.flds.Nodup then evI T cf r (ρ.set 0 (.slf c (fs ++ [d]))) else .bad
        | .exc c fs => .exc c fs
        | .bad => .bad)
      | _ => .bad)
    | s => (match evS T cf s ρ with
      | .ok (.nx ρ') => evI T cf r ρ'
      | .exc c fs => .exc c fs
      | _ => .bad)
def ev (T : Tab) : Nat → Nat → List D → R D
  | 0, _, _ => .bad
  | n + 1, f, ds => match T.fn f with
    | none => .bad
    | some fn => if ds.length = fn.np then
        match fn.ini with
        | none => (match evSs T (ev T n) fn.body (startE fn ds) with
          | .ok (.nx _) => if fn.fr then .bad else .ok .non
          | .ok (.ret d own) => if fn.fr && !own then .bad else .ok d
          | .exc c fs => .exc c fs
          | _ => .bad)
        | some c => (match evI T (ev T n) fn.body (startI c fn ds) with
          | .ok ρ => (match (ρ[(0 : Nat)]? : Option Sl) with
            | some (.slf c' fs) => if c' = c ∧ fs.length = c.flds.length then .ok (.ins c fs) else .bad
            | _ => .bad)
          | .exc c fs => .exc c fs
          | .bad => .bad)
      else .bad
end Ev

set_option linter.all false
set_option autoImplicit false
set_option maxRecDepth 100000
/-! What stands for data in the abstract heap. -/
namespace Ev
open PySem PySem.Spec PyProof.Rows L2

abbrev Own := Nat → Option Addr
abbrev Av := Addr → Prop

/-- a tuple of the written part -/
def KTup (K : PySem.W.Frag) (a : Addr) (xs : List V) : Prop :=
  ∃ (o : Obj) (its : Array Value) (n : Nat), K.lookup a = some o ∧ o.cls = .type "tuple" ∧ o.data = .seq its n ∧ its.size ≤ sizeLine ∧ Vals xs its.toList

/-- a list of the written part -/
def KLst (K : PySem.W.Frag) (a : Addr) (xs : List V) : Prop :=
  ∃ (o : Obj) (its : Array Value) (n : Nat), K.lookup a = some o ∧ o.cls = .type "list" ∧ o.dict = none ∧ o.data = .seq its n ∧ its.size ≤ sizeLine ∧ Vals xs its.toList
/-- entries against values -/
def KR (x : NestedKey × Addr × V) (y : NestedKey × Addr × Value) : Prop := x.1 = y.1 ∧ x.2.1 = y.2.1 ∧ RelV x.2.2 y.2.2
/-- a dict whose keys are tuples of numbers, texts, None and such tuples -/
def dctO (wd : World) (a : Addr) (ep : Nat) (xs : List (NestedKey × Addr × V)) : HO := .ext fun h => xs.length ≤ sizeLine ∧ (a == sysModules) = false ∧ (xs.map (·.1)).Nodup ∧
  ∃ (ys : List (NestedKey × Addr × Value)) (o : Obj) (es : Array DictEntry), Paired KR xs ys ∧ h.get? a = some o ∧ o.ExactDict ∧ o.data = .dict es ep ∧ es.toList = ys.map fun y => ⟨y.1.hash wd, .ref y.2.1, y.2.2⟩
abbrev dRefs (xs : List (NestedKey × Addr × V)) : List V := xs.map fun x => .ref x.2.1
abbrev dVals (xs : List (NestedKey × Addr × V)) : List V := xs.map fun x => x.2.2
/-- an instance: its class, its fields -/
def IsIns (K : PySem.W.Frag) (c : Cl) (vs : List V) (o : HO) : Prop := ∃ dx, o = .ins (He.ga K c.name) dx (c.flds.zip vs) ∧ vs.length = c.flds.length
mutual
inductive Rep (wd : World) (K : PySem.W.Frag) (H : Hp) (A : Av) : V → D → Prop
  | non : Rep wd K H A .non .non
  | bl (b : Bool) : Rep wd K H A (.bl b) (.bl b)
  | int (i : Int) : Rep wd K H A (.int i) (.int i)
  | str (x : Str) : Rep wd K H A (.str x) (.str x)
  | tup {a : Addr} {xs : List V} {ds : List D} : H a = some (.tup xs) → ¬ A a → Reps wd K H A xs ds → Rep wd K H A (.ref a) (.tup ds)
  | tupK {a : Addr} {xs : List V} {ds : List D} : KTup K a xs → Reps wd K H A xs ds → Rep wd K H A (.ref a) (.tup ds)
  | lst {a : Addr} {xs : List V} {ds : List D} : H a = some (.lst xs) → ¬ A a → Reps wd K H A xs ds → Rep wd K H A (.ref a) (.lst ds)
  | scr {a : Addr} {xs : List V} {ds : List D} : Rd H a (.lst xs) → ¬ A a → Reps wd K H A xs ds → Rep wd K H A (.ref a) (.scr ds)
  | scrK {a : Addr} {xs : List V} {ds : List D} : KLst K a xs → Reps wd K H A xs ds → Rep wd K H A (.ref a) (.scr ds)
  | ins {a : Addr} {o : HO} {c : Cl} {vs : List V} {ds : List D} : H a = some o → IsIns K c vs o → ¬ A a → Reps wd K H A vs ds → Rep wd K H A (.ref a) (.ins c ds)
  | dK {a : Addr} {kvs : List (L2.Key × V)} {kds : List (L2.Key × D)} : H a = some (.dK kvs) → ¬ A a → kvs.map (·.1) = kds.map (·.1) → Reps wd K H A (kvs.map (·.2)) (kds.map (·.2)) → Rep wd K H A (.ref a) (.dK kds)
  | dN {a : Addr} {ep : Nat} {xs : List (NestedKey × Addr × V)} {kds : List (D × D)} : H a = some (dctO wd a ep xs) → ¬ A a → Reps wd K H A (dRefs xs) (kds.map (·.1)) → Reps wd K H A (dVals xs) (kds.map (·.2)) →
      kds.map (fun kv => nkeyT kv.1) = xs.map (fun x => some x.1) → Rep wd K H A (.ref a) (.dN kds)
inductive Reps (wd : World) (K : PySem.W.Frag) (H : Hp) (A : Av) : List V → List D → Prop
  | nil : Reps wd K H A [] []
  | cons {v : V} {vs : List V} {d : D} {ds : List D} : Rep wd K H A v d → Reps wd K H A vs ds → Reps wd K H A (v :: vs) (d :: ds)
end

/-- the cell of an own name -/
inductive Root (wd : World) (K : PySem.W.Frag) (H : Hp) (A : Av) (a : Addr) : D → Prop
  | lst {xs : List V} {ds : List D} : H a = some (.lst xs) → Reps wd K H A xs ds → Root wd K H A a (.lst ds)
  | dK {kvs : List (L2.Key × V)} {kds : List (L2.Key × D)} : H a = some (.dK kvs) → kvs.map (·.1) = kds.map (·.1) → Reps wd K H A (kvs.map (·.2)) (kds.map (·.2)) → Root wd K H A a (.dK kds)
  | dN {ep : Nat} {xs : List (NestedKey × Addr × V)} {kds : List (D × D)} : H a = some (dctO wd a ep xs) → Reps wd K H A (dRefs xs) (kds.map (·.1)) → Reps wd K H A (dVals xs) (kds.map (·.2)) →
      kds.map (fun kv => nkeyT kv.1) = xs.map (fun x => some x.1) → Root wd K H A a (.dN kds)

def Ext (H H' : Hp) : Prop := ∀ b o, H b = some o → H' b = some o
theorem Ext.refl {H : Hp} : Ext H H := fun _ _ e => e
theorem Ext.trans {H H1 H2 : Hp} (a : Ext H H1) (b : Ext H1 H2) : Ext H H2 := fun c o e => b c o (a c o e)
theorem Ext.upd {H : Hp} {p : Addr} {o : HO} (h : H p = none) : Ext H (upd H p o) := fun b u e => by rw [upd_ne (ne_of_none e h)]; exact e
theorem Ext.none {H H' : Hp} (a : Ext H H') {p : Addr} (h : H' p = none) : H p = none := by
  cases e : H p with
  | none => rfl
  | some o => rw [a p o e] at h; cases h

theorem rd_ext {H H' : Hp} {a : Addr} {u : HO} (r : Rd H a u) (k : ∀ o, H a = some o → H' a = some o) : Rd H' a u := by
  rcases r with r | ⟨o, r⟩
  · exact .inl (k _ r)
  · exact .inr ⟨o, k _ r⟩
theorem rd_some {H : Hp} {a : Addr} {u : HO} (r : Rd H a u) : ∃ o, H a = some o := by
  rcases r with r | ⟨o, r⟩
  · exact ⟨_, r⟩
  · exact ⟨_, r⟩

section
variable {wd : World} {K : PySem.W.Frag} {H H' : Hp} {A B : Av} {v : V} {d : D} {vs : List V} {ds : List D}

/-- carried over: what stands at an address that A does not forbid still stands, and B does not forbid it -/
theorem Rep.both (k : ∀ b o, H b = some o → ¬ A b → H' b = some o ∧ ¬ B b) :
    (∀ v d, Rep wd K H A v d → Rep wd K H' B v d) ∧ (∀ vs ds, Reps wd K H A vs ds → Reps wd K H' B vs ds) := by
  have rd : ∀ {a : Addr} {u : HO}, Rd H a u → ¬ A a → Rd H' a u ∧ ¬ B a := fun {a u} r n => by
    obtain ⟨o, e⟩ := rd_some r
    exact ⟨rd_ext r fun o e => (k a o e n).1, (k a o e n).2⟩
  constructor
  · intro v d h
    refine Rep.rec (motive_1 := fun v d _ => Rep wd K H' B v d) (motive_2 := fun vs ds _ => Reps wd K H' B vs ds) ?_ ?_ ?_ ?_ ?_ ?_ ?_ ?_ ?_ ?_ ?_ ?_ ?_ ?_ h
    · exact .non
    · exact .bl
    · exact .int
    · exact .str
    · exact fun r n _ ih => .tup (k _ _ r n).1 (k _ _ r n).2 ih
    · exact fun r _ ih => .tupK r ih
    · exact fun r n _ ih => .lst (k _ _ r n).1 (k _ _ r n).2 ih
    · exact fun r n _ ih => .scr (rd r n).1 (rd r n).2 ih
    · exact fun r _ ih => .scrK r ih
    · exact fun r q n _ ih => .ins (k _ _ r n).1 q (k _ _ r n).2 ih
    · exact fun r n q _ ih => .dK (k _ _ r n).1 (k _ _ r n).2 q ih
    · exact fun r n _ _ q i1 i2 => .dN (k _ _ r n).1 (k _ _ r n).2 i1 i2 q
    · exact .nil
    · exact fun _ _ h1 h2 => .cons h1 h2
  · intro v d h
    refine Reps.rec (motive_1 := fun v d _ => Rep wd K H' B v d) (motive_2 := fun vs ds _ => Reps wd K H' B vs ds) ?_ ?_ ?_ ?_ ?_ ?_ ?_ ?_ ?_ ?_ ?_ ?_ ?_ ?_ h
    · exact .non
    · exact .bl
    · exact .int
    · exact .str
    · exact fun r n _ ih => .tup (k _ _ r n).1 (k _ _ r n).2 ih
    · exact fun r _ ih => .tupK r ih
    · exact fun r n _ ih => .lst (k _ _ r n).1 (k _ _ r n).2 ih
    · exact fun r n _ ih => .scr (rd r n).1 (rd r n).2 ih
    · exact fun r _ ih => .scrK r ih
    · exact fun r q n _ ih => .ins (k _ _ r n).1 q (k _ _ r n).2 ih
    · exact fun r n q _ ih => .dK (k _ _ r n).1 (k _ _ r n).2 q ih
    · exact fun r n _ _ q i1 i2 => .dN (k _ _ r n).1 (k _ _ r n).2 i1 i2 q
    · exact .nil
    · exact fun _ _ h1 h2 => .cons h1 h2
theorem Rep.to (h : Rep wd K H A v d) (k : ∀ b o, H b = some o → ¬ A b → H' b = some o ∧ ¬ B b) : Rep wd K H' B v d := (Rep.both k).1 v d h
theorem Reps.to (h : Reps wd K H A vs ds) (k : ∀ b o, H b = some o → ¬ A b → H' b = some o ∧ ¬ B b) : Reps wd K H' B vs ds := (Rep.both k).2 vs ds h
theorem Rep.ext (h : Rep wd K H A v d) (e : Ext H H') : Rep wd K H' A v d := h.to fun b o q n => ⟨e b o q, n⟩
theorem Reps.ext (h : Reps wd K H A vs ds) (e : Ext H H') : Reps wd K H' A vs ds := h.to fun b o q n => ⟨e b o q, n⟩
theorem Rep.sub (h : Rep wd K H A v d) (e : ∀ b, B b → A b) : Rep wd K H B v d := h.to fun b o q n => ⟨q, fun z => n (e b z)⟩
theorem Reps.sub (h : Reps wd K H A vs ds) (e : ∀ b, B b → A b) : Reps wd K H B vs ds := h.to fun b o q n => ⟨q, fun z => n (e b z)⟩
theorem Root.to {a : Addr} (h : Root wd K H A a d) (ka : ∀ o, H a = some o → H' a = some o) (k : ∀ b o, H b = some o → ¬ A b → H' b = some o ∧ ¬ B b) : Root wd K H' B a d := by
  cases h with
  | lst e r => exact .lst (ka _ e) (r.to k)
  | dK e q r => exact .dK (ka _ e) q (r.to k)
  | dN e r1 r2 q => exact .dN (ka _ e) (r1.to k) (r2.to k) q
theorem Root.some {a : Addr} (h : Root wd K H A a d) : ∃ o, H a = some o := by
  cases h with
  | lst e r => exact ⟨_, e⟩
  | dK e q r => exact ⟨_, e⟩
  | dN e r1 r2 q => exact ⟨_, e⟩
theorem Root.isRoot {a : Addr} (h : Root wd K H A a d) : isRoot d = true := by cases h <;> rfl
/-- a root is a value where it is not forbidden itself -/
theorem Root.rep {a : Addr} (h : Root wd K H A a d) (n : ¬ B a) (k : ∀ b, B b → A b) : Rep wd K H B (.ref a) d := by
  cases h with
  | lst e r => exact .lst e n (r.sub k)
  | dK e q r => exact .dK e n q (r.sub k)
  | dN e r1 r2 q => exact .dN e n (r1.sub k) (r2.sub k) q

/-- what may hold a list or a dict -/
def mutO : HO → Bool
  | .lst _ => true
  | .dK _ => true
  | .dT _ => true
  | .ext _ => true
  | _ => false
theorem rd_mutO {a : Addr} {xs : List V} {o : HO} (r : Rd H a (.tup xs)) (e : H a = some o) : mutO o = false := by
  rcases r with r | ⟨o, r⟩ <;> (rw [r] at e; cases e; rfl)
/-- data without lists and dicts stands aside of all such -/
theorem Rep.pureBoth (k : ∀ b o, H b = some o → ¬ A b → mutO o = false → ¬ B b) :
    (∀ v d, Rep wd K H A v d → noMut d = true → Rep wd K H B v d) ∧ (∀ vs ds, Reps wd K H A vs ds → noMuts ds = true → Reps wd K H B vs ds) := by
  have rd : ∀ {a : Addr} {xs : List V}, Rd H a (.tup xs) → ¬ A a → ¬ B a := fun {a xs} r n => by
    obtain ⟨o, e⟩ := rd_some r
    exact k a o e n (rd_mutO r e)
  constructor
  · intro v d h
    refine Rep.rec (motive_1 := fun v d _ => noMut d = true → Rep wd K H B v d) (motive_2 := fun vs ds _ => noMuts ds = true → Reps wd K H B vs ds) ?_ ?_ ?_ ?_ ?_ ?_ ?_ ?_ ?_ ?_ ?_ ?_ ?_ ?_ h
    · exact fun _ => .non
    · exact fun b _ => .bl b
    · exact fun b _ => .int b
    · exact fun b _ => .str b
    · exact fun r n _ ih z => .tup r (rd (.inl r) n) (ih z)
    · exact fun r _ ih z => .tupK r (ih z)
    · exact fun r n _ ih z => by simp [noMut] at z
    · exact fun r n _ ih z => by simp [noMut] at z
    · exact fun r _ ih z => by simp [noMut] at z
    · exact fun r q n _ ih z => by
        obtain ⟨dx, e, _⟩ := id q
        exact .ins r q (k _ _ r n (by rw [e]; rfl)) (ih (by simpa [noMut] using z))
    · exact fun r n q _ ih z => by simp [noMut] at z
    · exact fun r n _ _ q i1 i2 z => by simp [noMut] at z
    · exact fun _ => .nil
    · exact fun _ _ h1 h2 z => by
        simp only [noMuts, Bool.and_eq_true] at z
        exact .cons (h1 z.1) (h2 z.2)
  · intro v d h
    refine Reps.rec (motive_1 := fun v d _ => noMut d = true → Rep wd K H B v d) (motive_2 := fun vs ds _ => noMuts ds = true → Reps wd K H B vs ds) ?_ ?_ ?_ ?_ ?_ ?_ ?_ ?_ ?_ ?_ ?_ ?_ ?_ ?_ h
    · exact fun _ => .non
    · exact fun b _ => .bl b
    · exact fun b _ => .int b
    · exact fun b _ => .str b
    · exact fun r n _ ih z => .tup r (rd (.inl r) n) (ih z)
    · exact fun r _ ih z => .tupK r (ih z)
    · exact fun r n _ ih z => by simp [noMut] at z
    · exact fun r n _ ih z => by simp [noMut] at z
    · exact fun r _ ih z => by simp [noMut] at z
    · exact fun r q n _ ih z => by
        obtain ⟨dx, e, _⟩ := id q
        exact .ins r q (k _ _ r n (by rw [e]; rfl)) (ih (by simpa [noMut] using z))
    · exact fun r n q _ ih z => by simp [noMut] at z
    · exact fun r n _ _ q i1 i2 z => by simp [noMut] at z
    · exact fun _ => .nil
    · exact fun _ _ h1 h2 z => by
        simp only [noMuts, Bool.and_eq_true] at z
        exact .cons (h1 z.1) (h2 z.2)
theorem Rep.pure (h : Rep wd K H A v d) (z : noMut d = true) (k : ∀ b o, H b = some o → ¬ A b → mutO o = false → ¬ B b) : Rep wd K H B v d := (Rep.pureBoth k).1 v d h z

theorem Reps.length (h : Reps wd K H A vs ds) : vs.length = ds.length := by
  refine Reps.rec (motive_1 := fun v d _ => True) (motive_2 := fun vs ds _ => vs.length = ds.length) ?_ ?_ ?_ ?_ ?_ ?_ ?_ ?_ ?_ ?_ ?_ ?_ ?_ ?_ h
  all_goals first
    | exact trivial
    | exact fun _ => trivial
    | (intros; trivial)
    | rfl
    | (intro _ _ _ _ _ _ _ q; simp [q])
theorem Reps.nil_iff (h : Reps wd K H A vs []) : vs = [] := by cases h; rfl
theorem Reps.get : ∀ {vs : List V} {ds : List D} {i : Nat} {d : D}, Reps wd K H A vs ds → ds[i]? = some d → ∃ v, vs[i]? = some v ∧ Rep wd K H A v d
  | _, _, 0, _, .cons r _, e => by simp at e; subst e; exact ⟨_, rfl, r⟩
  | _, _, i + 1, d, .cons _ t, e => by
    obtain ⟨v, h1, h2⟩ := Reps.get (i := i) (d := d) t (by simpa using e)
    exact ⟨v, by simpa using h1, h2⟩
  | _, _, _, _, .nil, e => by simp at e
theorem Reps.getV : ∀ {vs : List V} {ds : List D} {i : Nat} {v : V}, Reps wd K H A vs ds → vs[i]? = some v → ∃ d, ds[i]? = some d ∧ Rep wd K H A v d
  | _, _, 0, _, .cons r _, e => by simp at e; subst e; exact ⟨_, rfl, r⟩
  | _, _, i + 1, d, .cons _ t, e => by
    obtain ⟨v, h1, h2⟩ := Reps.getV (i := i) (v := d) t (by simpa using e)
    exact ⟨v, by simpa using h1, h2⟩
  | _, _, _, _, .nil, e => by simp at e
theorem Reps.append : ∀ {vs ws : List V} {ds es : List D}, Reps wd K H A vs ds → Reps wd K H A ws es → Reps wd K H A (vs ++ ws) (ds ++ es)
  | _, _, _, _, .nil, s => s
  | _, _, _, _, .cons r t, s => .cons r (Reps.append t s)
theorem Reps.take : ∀ {vs : List V} {ds : List D} (n : Nat), Reps wd K H A vs ds → Reps wd K H A (vs.take n) (ds.take n)
  | _, _, 0, _ => .nil
  | _, _, _ + 1, .nil => .nil
  | _, _, n + 1, .cons r t => .cons r (Reps.take n t)
theorem Reps.drop : ∀ {vs : List V} {ds : List D} (n : Nat), Reps wd K H A vs ds → Reps wd K H A (vs.drop n) (ds.drop n)
  | _, _, 0, r => r
  | _, _, _ + 1, .nil => .nil
  | _, _, n + 1, .cons _ t => Reps.drop n t
theorem Reps.set {v : V} {d : D} (r : Rep wd K H A v d) : ∀ {vs : List V} {ds : List D} (i : Nat), Reps wd K H A vs ds → Reps wd K H A (vs.set i v) (ds.set i d)
  | _, _, _, .nil => .nil
  | _, _, 0, .cons _ t => .cons r t
  | _, _, i + 1, .cons q t => .cons q (Reps.set r i t)
theorem Reps.rep {n : Nat} {vs : List V} {ds : List D} (h : Reps wd K H A vs ds) : Reps wd K H A (List.replicate n vs).flatten (List.replicate n ds).flatten := by
  induction n with
  | zero => exact .nil
  | succ n ih => rw [List.replicate_succ, List.replicate_succ, List.flatten_cons, List.flatten_cons]; exact h.append ih
theorem Reps.reverse : ∀ {vs : List V} {ds : List D}, Reps wd K H A vs ds → Reps wd K H A vs.reverse ds.reverse
  | _, _, .nil => .nil
  | _, _, .cons r t => by rw [List.reverse_cons, List.reverse_cons]; exact (Reps.reverse t).append (.cons r .nil)
end
end Ev

set_option linter.all false
set_option autoImplicit false
set_option maxRecDepth 100000
set_option maxHeartbeats 4000000
/-! t * 0, t * 1. -/
namespace Ev
open PySem PySem.Spec PyProof.Rows L2
theorem tuple_mul1 (l : Addr) (items : Array Value) (n : Nat) (dd : Option Addr) (sl : Array (Option Value)) (u : Tok) :
    Meets (Builtin.«tuple.__mul__» ⟨[.ref l, .int 1 u], []⟩) (fun _ R s => s.heap.get? l = some { cls := .type "tuple", dict := dd, data := .seq items n, slots := sl } ∧ R (.ok (.ret (Value.ref l))) s) :=
  .of_wp fun prog w A R s h => by
    obtain ⟨hp, g, d, tk, os⟩ := s
    obtain ⟨hl, h⟩ := h
    have f1 := AutoSeq1.idx_int
    wp_walk using wpAny_loadPart' hl
    exact ⟨_, rfl, h⟩
theorem tuple_mul0 (l : Addr) (items : Array Value) (n : Nat) (dd : Option Addr) (sl : Array (Option Value)) (u : Tok) (hi : items.isEmpty = false) :
    Meets (Builtin.«tuple.__mul__» ⟨[.ref l, .int 0 u], []⟩) (fun _ R s => s.heap.get? l = some { cls := .type "tuple", dict := dd, data := .seq items n, slots := sl } ∧
      R (.ok (.ret (Value.ref s.heap.objs.size))) { s with heap := s.heap.push { cls := Value.type "tuple", data := Data.seq #[] }, toks := s.toks }) :=
  .of_wp fun prog w A R s h => by
    obtain ⟨hp, g, d, tk, os⟩ := s
    obtain ⟨hl, h⟩ := h
    have f1 := AutoSeq1.idx_int
    have c1 : (items.isEmpty || (0 : Int) == 1) = false := by rw [hi]; rfl
    wp_walk using wpAny_loadPart' hl
    all_goals first
      | exact ⟨_, rfl, h⟩
      | (refine wpAny_ite_false (decide_eq_false (by rw [c1]; exact Bool.false_ne_true)) ?_
         wp_walk using wpAny_loadPart' hl
         exact ⟨_, rfl, h⟩)
def rTupMul1 (K : PySem.W.Frag) : R2 := fun x y H Q => ∃ (l : Addr) (k : Int) (xs : List V), x = .ref l ∧ y = .int k ∧ SqT K H l xs ∧ xs ≠ [] ∧ 0 ≤ k ∧ k ≤ 1 ∧ (k = 1 → Q (.ref l) H) ∧ (k = 0 → ∀ p, H p = none → Q (.ref p) (upd H p (.tup [])))
theorem op_tupMul1 {X : Cx} : OpR X (binaryOp .Mult) (rTupMul1 X.K) := by
  intro pins s σ H x y v u Q I rx ry h
  obtain ⟨l, k, xs, rfl, rfl, hT, hne, h1, h2, q1, q0⟩ := h
  cases rx
  obtain ⟨t, rfl⟩ := ry
  obtain ⟨its, r, ⟨⟨cls, dd, data, sl⟩, ho, hc, n, hd⟩, hs⟩ := I.tuple hT
  simp only at hc hd
  subst hc hd
  have hle : its.length = xs.length := r.length.symm
  have hn : its ≠ [] := fun e => hne (by
    rw [e] at hle
    exact List.eq_nil_of_length_eq_zero hle.symm)
  have hi : its.toArray.isEmpty = false := by
    cases its with
    | nil => exact absurd rfl hn
    | cons a b => rfl
  have hk : k = 1 ∨ k = 0 := by omega
  rcases hk with rfl | rfl
  · refine wpAny_binaryOp_repeat_ref (T := "tuple") (U := "int") (by decide) ⟨_, ho, rfl⟩ (fun s' => typeIs_int s' 1 t) noFill_tuple_mul F.fills_int_mul F.slot_int_rmul repeat_tuple F.slot_int_index.lookup
      (call_meets F.slot_int_rmul (typeIs_int s 1 t) F.entry_int_rmul (F.args_int_rmul_2 _ _) (int_rmul_tuple 1 t l its.toArray n dd sl)
        ⟨ho, rfl, ⟨_, ho, rfl⟩, call_meets F.slot_tuple_mul ⟨_, ho, rfl⟩ F.entry_tuple_mul (F.args_tuple_mul_2 _ _) (tuple_mul1 l its.toArray n dd sl t) ⟨ho, ?_⟩⟩)
    exact ⟨.ref l, H, I, rfl, q1 rfl⟩
  · refine wpAny_binaryOp_repeat_ref (T := "tuple") (U := "int") (by decide) ⟨_, ho, rfl⟩ (fun s' => typeIs_int s' 0 t) noFill_tuple_mul F.fills_int_mul F.slot_int_rmul repeat_tuple F.slot_int_index.lookup
      (call_meets F.slot_int_rmul (typeIs_int s 0 t) F.entry_int_rmul (F.args_int_rmul_2 _ _) (int_rmul_tuple 0 t l its.toArray n dd sl)
        ⟨ho, rfl, ⟨_, ho, rfl⟩, call_meets F.slot_tuple_mul ⟨_, ho, rfl⟩ F.entry_tuple_mul (F.args_tuple_mul_2 _ _) (tuple_mul0 l its.toArray n dd sl t hi) ⟨ho, ?_⟩⟩)
    refine ⟨.ref s.heap.objs.size, _, I.laid (t' := s.toks) (o := .tup []) (fun b ob q => Heap.get?_push_of_some _ q) (Nat.le_refl _) ?_, rfl, q0 rfl _ (I.hok.fresh (Nat.le_refl _))⟩
    exact ⟨Nat.zero_le _, [], .nil, IsTup.new _ _⟩
end Ev

set_option linter.all false
set_option autoImplicit false
set_option maxRecDepth 100000
/-! The operations: what they make of data. -/
namespace Ev
open PySem PySem.Spec PyProof.Rows L2

/-- a value, or the root of an own name (its items stand aside of A all the same) -/
def RepB (wd : World) (K : PySem.W.Frag) (H : Hp) (A : Av) (v : V) (d : D) : Prop := Rep wd K H A v d ∨ ∃ a, v = .ref a ∧ Root wd K H A a d
/-- what is made: a value; if it is a list or a dict, a new one -/
def New (wd : World) (K : PySem.W.Frag) (H : Hp) (A : Av) (v : V) (d : D) (H' : Hp) : Prop :=
  Rep wd K H' A v d ∧ (isRoot d = true → ∃ p, v = .ref p ∧ H p = none ∧ Root wd K H' (fun b => A b ∨ b = p) p d)
def Trk (H : Hp) (A : Av) : Prop := ∀ b, A b → ∃ o, H b = some o

section
variable {wd : World} {K : PySem.W.Frag} {H H' : Hp} {A B : Av} {v : V} {d : D} {vs xs : List V} {ds : List D} {p a : Addr}
theorem Trk.not (t : Trk H A) (h : H p = none) : ¬ A p := fun z => by
  obtain ⟨o, e⟩ := t p z
  rw [h] at e; cases e
theorem Trk.ext (t : Trk H A) (e : Ext H H') : Trk H' A := fun b z => by
  obtain ⟨o, q⟩ := t b z
  exact ⟨o, e b o q⟩
theorem Reps.grow (r : Reps wd K H A xs ds) (h : H p = none) (o : HO) : Reps wd K (upd H p o) (fun b => A b ∨ b = p) xs ds :=
  r.to fun b u e n => ⟨Ext.upd h b u e, fun z => z.elim n fun q => by subst q; rw [h] at e; cases e⟩
theorem New.lst (t : Trk H A) (h : H p = none) (r : Reps wd K H A xs ds) : New wd K H A (.ref p) (.lst ds) (upd H p (.lst xs)) :=
  ⟨.lst upd_same (t.not h) (r.ext (Ext.upd h)), fun _ => ⟨p, rfl, h, .lst upd_same (r.grow h _)⟩⟩
theorem New.tup (t : Trk H A) (h : H p = none) (r : Reps wd K H A xs ds) : New wd K H A (.ref p) (.tup ds) (upd H p (.tup xs)) :=
  ⟨.tup upd_same (t.not h) (r.ext (Ext.upd h)), fun z => by cases z⟩
theorem New.of (r : Rep wd K H' A v d) (z : isRoot d = false) : New wd K H A v d H' := ⟨r, fun q => by rw [z] at q; cases q⟩
theorem Rep.b (r : Rep wd K H A v d) : RepB wd K H A v d := .inl r
theorem RepB.ext (r : RepB wd K H A v d) (e : Ext H H') : RepB wd K H' A v d := by
  rcases r with r | ⟨a, q, r⟩
  · exact .inl (r.ext e)
  · exact .inr ⟨a, q, r.to (fun o z => e a o z) fun b o z n => ⟨e b o z, n⟩⟩
theorem RepB.lst (r : RepB wd K H A v (.lst ds)) : ∃ a xs, v = .ref a ∧ H a = some (.lst xs) ∧ Reps wd K H A xs ds := by
  rcases r with r | ⟨a, q, r⟩
  · cases r with
    | lst e n r => exact ⟨_, _, rfl, e, r⟩
  · cases r with
    | lst e r => exact ⟨_, _, q, e, r⟩
theorem RepB.scr (r : RepB wd K H A v (.scr ds)) : ∃ a xs, v = .ref a ∧ SqL K H a xs ∧ Reps wd K H A xs ds := by
  rcases r with r | ⟨a, q, r⟩
  · cases r with
    | scr e n r => exact ⟨_, _, rfl, .inl e, r⟩
    | scrK e r => exact ⟨_, _, rfl, .inr e, r⟩
  · cases r
theorem RepB.dN {kds : List (D × D)} (r : RepB wd K H A v (.dN kds)) : ∃ a ep xs, v = .ref a ∧ H a = some (dctO wd a ep xs) ∧ Reps wd K H A (dRefs xs) (kds.map (·.1)) ∧ Reps wd K H A (dVals xs) (kds.map (·.2)) ∧ kds.map (fun kv => nkeyT kv.1) = xs.map (fun x => some x.1) := by
  rcases r with r | ⟨a, q, r⟩
  · cases r with
    | dN e n r1 r2 q => exact ⟨_, _, _, rfl, e, r1, r2, q⟩
  · cases r with
    | dN e r1 r2 q2 => exact ⟨_, _, _, q, e, r1, r2, q2⟩
theorem RepB.dK {kds : List (L2.Key × D)} (r : RepB wd K H A v (.dK kds)) : ∃ a kvs, v = .ref a ∧ H a = some (.dK kvs) ∧ kvs.map (·.1) = kds.map (·.1) ∧ Reps wd K H A (kvs.map (·.2)) (kds.map (·.2)) := by
  rcases r with r | ⟨a, q, r⟩
  · cases r with
    | dK e n q r => exact ⟨_, _, rfl, e, q, r⟩
  · cases r with
    | dK e q2 r => exact ⟨_, _, q, e, q2, r⟩
theorem RepB.tup (r : RepB wd K H A v (.tup ds)) : ∃ a xs, v = .ref a ∧ SqT K H a xs ∧ Reps wd K H A xs ds := by
  rcases r with r | ⟨a, q, r⟩
  · cases r with
    | tup e n r => exact ⟨_, _, rfl, SqT.of e, r⟩
    | tupK e r => exact ⟨_, _, rfl, .inr e, r⟩
  · cases r
theorem RepB.tupR (r : RepB wd K H A v (.tup ds)) : Rep wd K H A v (.tup ds) := by
  rcases r with r | ⟨a, q, r⟩
  · exact r
  · cases r
theorem RepB.int {i : Int} (r : RepB wd K H A v (.int i)) : v = .int i := by
  rcases r with r | ⟨a, q, r⟩ <;> cases r
  rfl
theorem RepB.bl {i : Bool} (r : RepB wd K H A v (.bl i)) : v = .bl i := by
  rcases r with r | ⟨a, q, r⟩ <;> cases r
  rfl
theorem RepB.str {i : Str} (r : RepB wd K H A v (.str i)) : v = .str i := by
  rcases r with r | ⟨a, q, r⟩ <;> cases r
  rfl
theorem RepB.non (r : RepB wd K H A v .non) : v = .non := by
  rcases r with r | ⟨a, q, r⟩ <;> cases r
  rfl

/-! ### data for == -/
theorem dpBoth : (∀ v d, Rep wd K H A v d → ∀ z, py d = some z → Dp K H v z) ∧ (∀ vs ds, Reps wd K H A vs ds → ∀ zs, pys ds = some zs → DpAll K H vs zs) := by
  have one : ∀ {z : PyData} {zs : Option (List PyData)} {f : List PyData → PyData}, zs.map f = some z → ∃ l, zs = some l ∧ f l = z := fun {z zs f} e => by
    cases zs with
    | none => cases e
    | some l => exact ⟨l, rfl, Option.some.inj e⟩
  have two : ∀ {d : D} {ds : List D} {zs : List PyData}, pys (d :: ds) = some zs → ∃ a b, py d = some a ∧ pys ds = some b ∧ zs = a :: b := fun {d ds zs} e => by
    unfold pys at e
    cases h1 : py d with
    | none => rw [h1] at e; cases e
    | some a =>
      cases h2 : pys ds with
      | none => rw [h1, h2] at e; cases e
      | some b => rw [h1, h2] at e; exact ⟨a, b, rfl, rfl, (Option.some.inj e).symm⟩
  constructor
  · intro v d h
    refine Rep.rec (motive_1 := fun v d _ => ∀ z, py d = some z → Dp K H v z) (motive_2 := fun vs ds _ => ∀ zs, pys ds = some zs → DpAll K H vs zs) ?_ ?_ ?_ ?_ ?_ ?_ ?_ ?_ ?_ ?_ ?_ ?_ ?_ ?_ h
    · intro z e; cases e; exact .non
    · intro b z e; cases e; exact .bl b
    · intro b z e; cases e; exact .int b
    · intro b z e; cases e; exact .str b
    · intro a xs ds r n _ ih z e
      obtain ⟨l, e1, rfl⟩ := one (show (pys ds).map PyData.tuple = some z from e)
      exact .tup (SqT.of r) (ih l e1)
    · intro a xs ds r _ ih z e
      obtain ⟨l, e1, rfl⟩ := one (show (pys ds).map PyData.tuple = some z from e)
      exact .tup (.inr r) (ih l e1)
    · intro a xs ds r n _ ih z e
      obtain ⟨l, e1, rfl⟩ := one (show (pys ds).map PyData.list = some z from e)
      exact .lst (SqL.of r) (ih l e1)
    · intro a xs ds r n _ ih z e; cases e
    · intro a xs ds r _ ih z e; cases e
    · intro a o c vs ds r q n _ ih z e; cases e
    · intro a kvs kds r n q _ ih z e; cases e
    · intro a ep xs kds r n _ _ q i1 i2 z e; cases e
    · intro zs e; cases e; exact .nil
    · intro v vs d ds _ _ h1 h2 zs e
      obtain ⟨a, b, e1, e2, rfl⟩ := two e
      exact .cons (h1 a e1) (h2 b e2)
  · intro v d h
    refine Reps.rec (motive_1 := fun v d _ => ∀ z, py d = some z → Dp K H v z) (motive_2 := fun vs ds _ => ∀ zs, pys ds = some zs → DpAll K H vs zs) ?_ ?_ ?_ ?_ ?_ ?_ ?_ ?_ ?_ ?_ ?_ ?_ ?_ ?_ h
    · intro z e; cases e; exact .non
    · intro b z e; cases e; exact .bl b
    · intro b z e; cases e; exact .int b
    · intro b z e; cases e; exact .str b
    · intro a xs ds r n _ ih z e
      obtain ⟨l, e1, rfl⟩ := one (show (pys ds).map PyData.tuple = some z from e)
      exact .tup (SqT.of r) (ih l e1)
    · intro a xs ds r _ ih z e
      obtain ⟨l, e1, rfl⟩ := one (show (pys ds).map PyData.tuple = some z from e)
      exact .tup (.inr r) (ih l e1)
    · intro a xs ds r n _ ih z e
      obtain ⟨l, e1, rfl⟩ := one (show (pys ds).map PyData.list = some z from e)
      exact .lst (SqL.of r) (ih l e1)
    · intro a xs ds r n _ ih z e; cases e
    · intro a xs ds r _ ih z e; cases e
    · intro a o c vs ds r q n _ ih z e; cases e
    · intro a kvs kds r n q _ ih z e; cases e
    · intro a ep xs kds r n _ _ q i1 i2 z e; cases e
    · intro zs e; cases e; exact .nil
    · intro v vs d ds _ _ h1 h2 zs e
      obtain ⟨a, b, e1, e2, rfl⟩ := two e
      exact .cons (h1 a e1) (h2 b e2)
theorem Reps.dp (r : Reps wd K H A vs ds) {zs : List PyData} (e : pys ds = some zs) : DpAll K H vs zs := dpBoth.2 vs ds r zs e
theorem RepB.dp (r : RepB wd K H A v d) {z : PyData} (e : py d = some z) : Dp K H v z := by
  rcases r with r | ⟨a, q, r⟩
  · exact dpBoth.1 v d r z e
  · subst q
    cases r with
    | lst e1 r =>
      rename_i xs ds
      cases h : pys ds with
      | none => simp [py, h] at e
      | some l =>
        simp [py, h] at e
        subst e
        exact .lst (SqL.of e1) (r.dp h)
    | dK e1 _ _ => cases e
    | dN e1 _ _ _ => cases e
end

/-! ### operators -/
theorem lineSz_eq : lineSz = sizeLine := by rw [sizeLine_eq]; rfl
def opOf : BOp → Operator
  | .add => .Add
  | .sub => .Sub
  | .mul => .Mult
  | .fdiv => .FloorDiv
  | .mod => .Mod
  | .pow => .Pow
  | .shl => .LShift
  | .shr => .RShift
  | .band => .BitAnd
  | .bor => .BitOr
def rBin (K : PySem.W.Frag) : BOp → R2
  | .add => fun x y H Q => rI0 (fun i j => .int (i + j)) x y H Q ∨ rCatA K x y H Q ∨ rCat x y H Q
  | .sub => rI0 fun i j => .int (i - j)
  | .mul => fun x y H Q => rI CMul (fun i j => .int (i * j)) x y H Q ∨ rRepT K x y H Q ∨ rRep x y H Q ∨ rTupMul1 K x y H Q
  | .fdiv => rI CDiv fun i j => .int (i / j)
  | .mod => rI (fun _ j => 0 < j) fun i j => .int (i % j)
  | .pow => rI CPow fun i j => .int (i ^ j.toNat)
  | .shl => rI CPow fun i j => .int (i * 2 ^ j.toNat)
  | .shr => rI (fun _ j => 0 ≤ j) fun i j => .int (i / 2 ^ j.toNat)
  | .band => rI0 fun i j => .int (Builtin.bitAnd i j)
  | .bor => rI0 fun i j => .int (Builtin.bitOr i j)
theorem op_bin {X : Cx} : ∀ o : BOp, OpR X (binaryOp (opOf o)) (rBin X.K o)
  | .add => op_add.or (op_catA.or op_cat)
  | .sub => op_sub
  | .mul => op_mul.or (op_repT.or (op_rep.or op_tupMul1))
  | .fdiv => op_fdiv
  | .mod => op_mod
  | .pow => op_pow
  | .shl => op_shl
  | .shr => op_shr
  | .band => op_and
  | .bor => op_or
theorem Reps.nilV {wd : World} {K : PySem.W.Frag} {H : Hp} {A : Av} {ds : List D} (h : Reps wd K H A [] ds) : ds = [] := by cases h; rfl
theorem bin_ok {wd : World} {K : PySem.W.Frag} {o : BOp} {H : Hp} {A : Av} {x y : V} {d e z : D} {Q : VK} (t : Trk H A) (hx : RepB wd K H A x d) (hy : RepB wd K H A y e) (h : binD o d e = .ok z)
    (q : ∀ v H', Ext H H' → New wd K H A v z H' → Q v H') : rBin K o x y H Q := by
  have qi : ∀ i : Int, z = .int i → Q (.int i) H := fun i e => q _ _ .refl (by rw [e]; exact .of (.int _) rfl)
  unfold binD at h
  split at h
  · cases h; rw [hx.int, hy.int]; exact .inl ⟨_, _, rfl, rfl, qi _ rfl⟩
  · split at h
    · rename_i hz
      cases h
      obtain ⟨a, xs, rfl, sx, rx⟩ := hx.tup
      obtain ⟨b, ys, rfl, sy, ry⟩ := hy.tup
      have lx := rx.length
      have ly := ry.length
      refine .inr (.inl ⟨a, b, xs, ys, rfl, rfl, sx, sy, by rw [← lineSz_eq]; omega, fun e => ?_, fun e1 e2 => ?_, fun e1 e2 p hp => ?_⟩)
      · subst e
        have e := Reps.nilV rx
        subst e
        exact q _ _ .refl (.of (by rw [List.nil_append]; exact hy.tupR) rfl)
      · subst e2
        have e := Reps.nilV ry
        subst e
        exact q _ _ .refl (.of (by rw [List.append_nil]; exact hx.tupR) rfl)
      · exact q _ _ (Ext.upd hp) (.tup t hp (rx.append ry))
    · cases h
  · split at h
    · rename_i hz
      cases h
      obtain ⟨a, xs, rfl, sx, rx⟩ := hx.lst
      obtain ⟨b, ys, rfl, sy, ry⟩ := hy.lst
      have lx := rx.length
      have ly := ry.length
      exact .inr (.inr ⟨a, b, xs, ys, rfl, rfl, sx, sy, by rw [← lineSz_eq]; omega, fun p hp => q _ _ (Ext.upd hp) (.lst t hp (rx.append ry))⟩)
    · cases h
  · cases h; rw [hx.int, hy.int]; exact ⟨_, _, rfl, rfl, qi _ rfl⟩
  · split at h
    · rename_i hz
      cases h; rw [hx.int, hy.int]; exact .inl ⟨_, _, rfl, rfl, hz, qi _ rfl⟩
    · cases h
  · split at h
    · rename_i hz
      cases h
      obtain ⟨a, xs, rfl, sx, rx⟩ := hx.tup
      rw [hy.int]
      have lx := rx.length
      obtain ⟨h1, h2, h3, h4⟩ := hz
      have hne : xs ≠ [] := fun e => h4 (by subst e; exact Reps.nilV rx)
      have three : ∀ k : Int, 0 ≤ k → k ≤ 1000 → 2 ≤ k ∨ k = 0 ∨ k = 1 := by omega
      rcases three _ h1 h2 with hk | hk | hk
      · exact .inr (.inl ⟨a, _, xs, rfl, rfl, sx, hne, hk, h2, by omega, fun p hp => q _ _ (Ext.upd hp) (.tup t hp (Reps.rep rx))⟩)
      · refine .inr (.inr (.inr ⟨a, _, xs, rfl, rfl, sx, hne, h1, by omega, fun e => ?_, fun e p hp => ?_⟩))
        · rw [hk] at e; cases e
        · subst hk
          exact q _ _ (Ext.upd hp) (.tup t hp .nil)
      · refine .inr (.inr (.inr ⟨a, _, xs, rfl, rfl, sx, hne, h1, by omega, fun e => ?_, fun e p hp => ?_⟩))
        · subst hk
          refine q _ _ .refl (.of ?_ rfl)
          have := hx.tupR
          simpa using this
        · rw [hk] at e; cases e
    · cases h
  · split at h
    · rename_i hz
      cases h
      obtain ⟨a, xs, rfl, sx, rx⟩ := hx.lst
      rw [hy.int]
      have lx := rx.length
      obtain ⟨h1, h2, h3⟩ := hz
      exact .inr (.inr (.inl ⟨a, _, xs, rfl, rfl, sx, h1, h2, by rw [← lineSz_eq, lx]; exact h3, fun p hp => q _ _ (Ext.upd hp) (.lst t hp (Reps.rep rx))⟩))
    · cases h
  · split at h
    · rename_i hz
      cases h; rw [hx.int, hy.int]; exact ⟨_, _, rfl, rfl, hz, qi _ rfl⟩
    · cases h
  · split at h
    · rename_i hz
      cases h; rw [hx.int, hy.int]; exact ⟨_, _, rfl, rfl, hz, qi _ rfl⟩
    · cases h
  · split at h
    · rename_i hz
      cases h; rw [hx.int, hy.int]; exact ⟨_, _, rfl, rfl, hz, qi _ rfl⟩
    · cases h
  · split at h
    · rename_i hz
      cases h; rw [hx.int, hy.int]; exact ⟨_, _, rfl, rfl, hz, qi _ rfl⟩
    · cases h
  · split at h
    · rename_i hz
      cases h; rw [hx.int, hy.int]; exact ⟨_, _, rfl, rfl, hz, qi _ rfl⟩
    · cases h
  · cases h; rw [hx.int, hy.int]; exact ⟨_, _, rfl, rfl, qi _ rfl⟩
  · cases h; rw [hx.int, hy.int]; exact ⟨_, _, rfl, rfl, qi _ rfl⟩
  · cases h
end Ev

set_option linter.all false
set_option autoImplicit false
set_option maxRecDepth 100000
/-! Dicts with keys that are tuples: the rules. -/
namespace Ev
open PySem PySem.Spec PyProof.Rows L2

section
variable {X : Cx} {pins : List (Addr × Obj)} {σ : L2.St} {H H' : Hp} {s : Shared} {A : Av}

/-! ### keys -/
theorem rv_nested (I : L2.Inv X pins σ H s) :
    (∀ v d, Rep X.w X.K H A v d → ∀ k u, nkey d = some k → RelV v u → NestedIs s.heap k u) ∧ (∀ vs ds, Reps X.w X.K H A vs ds → ∀ ks us, nkeys ds = some ks → Vals vs us → NestedAll s.heap ks us) := by
  have tupc : ∀ {a : Addr} {xs : List V} {ds : List D}, SqT X.K H a xs → (∀ ks us, nkeys ds = some ks → Vals xs us → NestedAll s.heap ks us) → ∀ k u, nkey (.tup ds) = some k → RelV (.ref a) u → NestedIs s.heap k u := by
    intro a xs ds q ih k u e r
    cases r
    obtain ⟨its, rv, p, _⟩ := I.tuple q
    cases hn : nkeys ds with
    | none => simp [nkey, hn] at e
    | some ks =>
      simp only [nkey, hn, Option.some.injEq] at e
      subst e
      obtain ⟨o, h1, h2, n, h3⟩ := p
      exact .tup h1 h2 h3 (by simpa using ih ks its hn rv)
  have recv := fun (v : V) (d : D) (h : Rep X.w X.K H A v d) => Rep.rec (motive_1 := fun v d _ => ∀ k u, nkey d = some k → RelV v u → NestedIs s.heap k u) (motive_2 := fun vs ds _ => ∀ ks us, nkeys ds = some ks → Vals vs us → NestedAll s.heap ks us)
    (by intro k u e r; cases e; cases r; exact .none)
    (by intro b k u e r; cases e; cases r; exact .bool rfl)
    (by intro i k u e r; cases e; obtain ⟨t, rfl⟩ := r; exact .int i t)
    (by intro x k u e r; cases e; obtain ⟨t, rfl⟩ := r; exact .text x t)
    (fun {a xs ds} r n _ ih => tupc (SqT.of r) ih)
    (fun {a xs ds} r _ ih => tupc (.inr r) ih)
    (by intro a xs ds r n _ ih k u e; cases e)
    (by intro a xs ds r n _ ih k u e; cases e)
    (by intro a xs ds r _ ih k u e; cases e)
    (by intro a o c vs ds r q n _ ih k u e; cases e)
    (by intro a kvs kds r n q _ ih k u e; cases e)
    (by intro a ep xs kds r n _ _ q i1 i2 k u e; cases e)
    (by intro ks us e r; cases e; cases r; exact .nil)
    (by
      intro v vs d ds _ _ h1 h2 ks us e r
      cases r with
      | cons r rr =>
        cases e1 : nkey d with
        | none => simp [nkeys, e1] at e
        | some k =>
          cases e2 : nkeys ds with
          | none => simp [nkeys, e1, e2] at e
          | some ks' =>
            simp only [nkeys, e1, e2, Option.some.injEq] at e
            subst e
            exact .cons (h1 _ _ e1 r) (h2 _ _ e2 rr)) h
  have all : ∀ (vs : List V) (ds : List D), Reps X.w X.K H A vs ds → ∀ ks us, nkeys ds = some ks → Vals vs us → NestedAll s.heap ks us := by
    intro vs
    induction vs with
    | nil => intro ds h ks us e r; cases h; cases e; cases r; exact .nil
    | cons v vs ih =>
      intro ds h ks us e r
      cases h with
      | @cons _ _ d ds r1 r2 =>
        cases r with
        | cons q1 q2 =>
          cases e1 : nkey d with
          | none => simp [nkeys, e1] at e
          | some k =>
            cases e2 : nkeys ds with
            | none => simp [nkeys, e1, e2] at e
            | some ks' =>
              simp only [nkeys, e1, e2, Option.some.injEq] at e
              subst e
              exact .cons (recv _ _ r1 _ _ e1 q1) (ih _ r2 _ _ e2 q2)
  exact ⟨fun v d h => recv v d h, all⟩
/-- a key that stands: a tuple at b -/
theorem key_nested (I : L2.Inv X pins σ H s) {v : V} {d : D} {k : NestedKey} (r : Rep X.w X.K H A v d) (e : nkeyT d = some k) : ∃ b, v = .ref b ∧ (nestedKind X.prog X.w).is s.heap k b := by
  have go : ∀ {ds : List D}, d = .tup ds → ∀ b, v = .ref b → (nestedKind X.prog X.w).is s.heap k b := by
    rintro ds rfl b rfl
    unfold nkeyT at e
    simp only at e
    cases hn : nkeys ds with
    | none => rw [hn] at e; cases e
    | some ks =>
      rw [hn] at e
      simp only at e
      split at e
      · rename_i hd
        cases e
        exact ⟨(rv_nested I).1 _ _ r _ _ (by simp [nkey, hn]) rfl, hd⟩
      · cases e
  cases r with
  | tup e1 n q => exact ⟨_, rfl, go rfl _ rfl⟩
  | tupK e1 q => exact ⟨_, rfl, go rfl _ rfl⟩
  | _ => cases e
theorem Paired.get2 {α β : Type} {F : α → β → Prop} : ∀ {l : List α} {m : List β} {y : β}, Paired F l m → y ∈ m → ∃ x ∈ l, F x y
  | _, _, _, .cons r t, h => by
    rcases List.mem_cons.mp h with rfl | h
    · exact ⟨_, List.mem_cons_self, r⟩
    · obtain ⟨x, h1, h2⟩ := Paired.get2 t h
      exact ⟨x, List.mem_cons_of_mem _ h1, h2⟩
theorem keys_nested (I : L2.Inv X pins σ H s) : ∀ {xs : List (NestedKey × Addr × V)} {kds : List D}, Reps X.w X.K H A (dRefs xs) kds → kds.map nkeyT = xs.map (fun x => some x.1) →
    ∀ x ∈ xs, (nestedKind X.prog X.w).is s.heap x.1 x.2.1
  | [], _, _, _, x, h => nomatch h
  | y :: ys, [], r, _, _, _ => by cases r
  | y :: ys, kd :: kds, r, e, x, h => by
    simp only [dRefs, List.map_cons, List.cons.injEq] at r e
    cases r with
    | cons r rr =>
      rcases List.mem_cons.mp h with rfl | h
      · obtain ⟨b, e1, q⟩ := key_nested I r e.1
        cases e1
        exact q
      · exact keys_nested I rr e.2 x h
theorem KR.keys {xs : List (NestedKey × Addr × V)} {ys : List (NestedKey × Addr × Value)} (r : Paired KR xs ys) : ys.map (·.1) = xs.map (·.1) := by
  induction r with
  | nil => rfl
  | cons r _ ih => rw [List.map_cons, List.map_cons, ih, r.1]
/-- a tracked dict as it lies -/
theorem dct_at (I : L2.Inv X pins σ H s) {a : Addr} {ep : Nat} {xs : List (NestedKey × Addr × V)} (h : H a = some (dctO X.w a ep xs)) (hk : ∀ x ∈ xs, (nestedKind X.prog X.w).is s.heap x.1 x.2.1) :
    xs.length ≤ sizeLine ∧ (a == sysModules) = false ∧ ∃ ys, Paired KR xs ys ∧ s.heap.DictOfH (nestedKind X.prog X.w) a ys := by
  obtain ⟨⟨z, hs, nd, ys, o, es, pr, ho, hx, hd, he⟩, _⟩ := (show ObjOk X.prog X.w H s.heap a (dctO X.w a ep xs) from I.hok a _ h)
  refine ⟨z, hs, ys, pr, o, es, ep, ho, hx, hd, he, fun y hy => ?_, ?_⟩
  · obtain ⟨x, h1, h2, h3, _⟩ := Paired.get2 pr hy
    rw [← h2, ← h3]
    exact hk x h1
  · rw [KR.keys pr]; exact nd
def atN (xs : List (NestedKey × Addr × V)) (k : NestedKey) : Option V := (xs.find? fun x => decide (x.1 = k)).map (·.2.2)
theorem KR.val {xs : List (NestedKey × Addr × V)} {ys : List (NestedKey × Addr × Value)} (r : Paired KR xs ys) (k : NestedKey) : RelO (atN xs k) ((atKey ys k).map (·.2)) := by
  induction r with
  | nil => exact True.intro
  | @cons x y xs ys hr _ ih =>
    unfold atN atKey at ih ⊢
    rw [List.find?_cons, List.find?_cons, ← hr.1]
    by_cases hk : x.1 = k
    · simp only [hk, decide_true, Option.map_some]
      exact hr.2.2
    · simp only [hk, decide_false]
      exact ih
theorem RelO.isSome_eq {o : Option V} {u : Option Value} (r : RelO o u) : o.isSome = u.isSome := by
  cases o <;> cases u <;> first | rfl | exact r.elim
def putX (xs : List (NestedKey × Addr × V)) (k : NestedKey) (b : Addr) (v : V) : List (NestedKey × Addr × V) :=
  if (atN xs k).isSome then xs.map fun x => if x.1 = k then (x.1, x.2.1, v) else x else xs ++ [(k, b, v)]
theorem KR.put {xs : List (NestedKey × Addr × V)} {ys : List (NestedKey × Addr × Value)} (r : Paired KR xs ys) (k : NestedKey) (b : Addr) {v : V} {u : Value} (rv : RelV v u) : Paired KR (putX xs k b v) (storedH ys k b u) := by
  have e : (atN xs k).isSome = (atKey ys k).isSome := by rw [RelO.isSome_eq (KR.val r k), Option.isSome_map]
  unfold putX storedH
  rw [e]
  have m1 : ∀ {xs : List (NestedKey × Addr × V)} {ys : List (NestedKey × Addr × Value)}, Paired KR xs ys → Paired KR (xs.map fun x => if x.1 = k then (x.1, x.2.1, v) else x) (ys.map (putAt k u)) := by
    intro xs ys r
    induction r with
    | nil => exact .nil
    | @cons x y xs ys hr _ ih =>
      rw [List.map_cons, List.map_cons]
      refine .cons ?_ ih
      unfold putAt
      rw [← hr.1]
      split
      · exact ⟨rfl, hr.2.1, rv⟩
      · exact hr
  have m2 : ∀ {xs : List (NestedKey × Addr × V)} {ys : List (NestedKey × Addr × Value)}, Paired KR xs ys → Paired KR (xs ++ [(k, b, v)]) (ys ++ [(k, b, u)]) := by
    intro xs ys r
    induction r with
    | nil => exact .cons ⟨rfl, rfl, rv⟩ .nil
    | cons hr _ ih => exact .cons hr ih
  split
  · exact m1 r
  · exact m2 r

/-! ### the rules -/
theorem dct_ok {a : Addr} {xs : List (NestedKey × Addr × V)} {ys : List (NestedKey × Addr × Value)} {h : Heap} (hz : xs.length ≤ sizeLine) (hs : (a == sysModules) = false) (pr : Paired KR xs ys) {P : Program} {w : World} (hd : h.DictOfH (nestedKind P w) a ys) :
    ∃ ep, ∀ H, ObjOk P w H h a (dctO w a ep xs) := by
  obtain ⟨o, es, ep, ho, hx, hdt, he, _, nd⟩ := hd
  refine ⟨ep, fun H => ⟨⟨hz, hs, by rw [← KR.keys pr]; exact nd, ys, o, es, pr, ho, hx, hdt, he⟩, ⟨o, ho⟩, ?_⟩⟩
  rintro h1 h2 ⟨z1, z2, z3, ys, o, es, q1, q2, q3⟩ k
  exact ⟨z1, z2, z3, ys, o, es, q1, k o q2, q3⟩
theorem dn_empty {P : Program} {w : World} {H : Hp} (h : Heap) (hb : sysModules < h.objs.size) : ObjOk P w H (h.push { cls := .type "dict", data := .dict #[] }) h.objs.size (dctO w h.objs.size 0 []) := by
  refine ⟨⟨Nat.zero_le _, beq_eq_false_iff_ne.mpr (Ne.symm (Nat.ne_of_lt hb)), List.nodup_nil, [], _, #[], .nil, Heap.get?_push_size _ rfl, ⟨rfl, rfl, rfl⟩, rfl, rfl⟩, ⟨_, Heap.get?_push_size _ rfl⟩, ?_⟩
  rintro h1 h2 ⟨z1, z2, z3, ys, o, es, q1, q2, q3⟩ k
  exact ⟨z1, z2, z3, ys, o, es, q1, k o q2, q3⟩
def tDNewN (wd : World) : TE := fun _ H Q => ∀ p, H p = none → Q (.ref p) (upd H p (dctO wd p 0 []))
theorem pe_dnewN {pos : Pos} : PE X (.Dict [] [] pos) (tDNewN X.w) := ⟨fun pins s σ H Q I h =>
  wpAny_Dict_empty ⟨.ref s.heap.objs.size, _, I.laid (a := s.heap.objs.size) (o := dctO X.w s.heap.objs.size 0 []) (t' := s.toks) (fun _ _ q => Heap.get?_push_of_some _ q) (Nat.le_refl _) (dn_empty s.heap I.big), rfl, h _ (I.hok.fresh (Nat.le_refl _))⟩⟩
/-- a dict and its keys -/
def DAt (wd : World) (K : PySem.W.Frag) (H : Hp) (a : Addr) (ep : Nat) (xs : List (NestedKey × Addr × V)) : Prop :=
  H a = some (dctO wd a ep xs) ∧ ∃ (A : Av) (kds : List D), Reps wd K H A (dRefs xs) kds ∧ kds.map nkeyT = xs.map (fun x => some x.1)
def KAt (wd : World) (K : PySem.W.Frag) (H : Hp) (y : V) (k : NestedKey) : Prop := ∃ (A : Av) (d : D), Rep wd K H A y d ∧ nkeyT d = some k
theorem d_roomN (hu : X.A.units + 64 < cLine) : (nestedKind X.prog X.w).room X.A.in1 := by
  show X.A.in1.units + 8 < cLine
  have : X.A.in1.units = X.A.units + 1 := rfl
  omega
def rDIn (wd : World) (K : PySem.W.Frag) : R2 := fun x y H Q => ∃ a ep xs k, y = .ref a ∧ DAt wd K H a ep xs ∧ KAt wd K H x k ∧ Q (.bl (atN xs k).isSome) H
def rDNotIn (wd : World) (K : PySem.W.Frag) : R2 := fun x y H Q => ∃ a ep xs k, y = .ref a ∧ DAt wd K H a ep xs ∧ KAt wd K H x k ∧ Q (.bl (!(atN xs k).isSome)) H
theorem op_DIn (hu : X.A.units + 64 < cLine) : OpR X (compareOp .In) (rDIn X.w X.K) := by
  intro pins s σ H x y v u Q I rx ry h
  obtain ⟨a, ep, xs, k, rfl, ⟨ha, A, kds, rk, ek⟩, ⟨B, d, rd, ed⟩, q⟩ := h
  cases ry
  obtain ⟨b, rfl, hb⟩ := key_nested I rd ed
  cases rx
  obtain ⟨z, hs, ys, pr, hd⟩ := dct_at I ha (keys_nested I rk ek)
  have e := RelO.isSome_eq (KR.val pr k)
  rw [Option.isSome_map] at e
  exact wpAny_in_heap (d_roomN hu) hb hs hd ⟨.bl _, H, I.tok _, by rw [← e]; rfl, q⟩
theorem op_DNotIn (hu : X.A.units + 64 < cLine) : OpR X (compareOp .NotIn) (rDNotIn X.w X.K) := by
  intro pins s σ H x y v u Q I rx ry h
  obtain ⟨a, ep, xs, k, rfl, ⟨ha, A, kds, rk, ek⟩, ⟨B, d, rd, ed⟩, q⟩ := h
  cases ry
  obtain ⟨b, rfl, hb⟩ := key_nested I rd ed
  cases rx
  obtain ⟨z, hs, ys, pr, hd⟩ := dct_at I ha (keys_nested I rk ek)
  have e := RelO.isSome_eq (KR.val pr k)
  rw [Option.isSome_map] at e
  exact wpAny_notIn_heap (d_roomN hu) hb hs hd ⟨.bl _, H, I.tok _, by rw [← e]; rfl, q⟩
def rDGet (wd : World) (K : PySem.W.Frag) : R2 := fun x y H Q => ∃ a ep xs k v, x = .ref a ∧ DAt wd K H a ep xs ∧ KAt wd K H y k ∧ atN xs k = some v ∧ Q v H
theorem ix_DGet (hu : X.A.units + 64 < cLine) {pins : List (Addr × Obj)} {s : Shared} {σ : L2.St} {H : Hp} {x y : V} {v u : Value} {Q : VK} (I : L2.Inv X pins σ H s) (rx : L2.RelV x v) (ry : L2.RelV y u) (h : rDGet X.w X.K x y H Q) :
    wpAny (model X.prog X.w) X.A (getItem v u) (EP X pins σ Q) X.xe s := by
  obtain ⟨a, ep, xs, k, r, rfl, ⟨ha, A, kds, rk, ek⟩, ⟨B, d, rd, ed⟩, e1, q⟩ := h
  cases rx
  obtain ⟨b, rfl, hb⟩ := key_nested I rd ed
  cases ry
  obtain ⟨z, hs, ys, pr, hd⟩ := dct_at I ha (keys_nested I rk ek)
  have e := KR.val pr k
  rw [e1] at e
  cases e2 : (atKey ys k).map (·.2) with
  | none => rw [e2] at e; exact e.elim
  | some w =>
    rw [e2] at e
    obtain ⟨p, hp, rfl⟩ := Option.map_eq_some_iff.mp e2
    exact wpAny_getItem_heap (d_roomN hu) hb hd hp ⟨r, H, I.tok _, e, q⟩
def rDSet (wd : World) (K : PySem.W.Frag) : TSet := fun o i v H Q => ∃ a ep xs k b, o = .ref a ∧ DAt wd K H a ep xs ∧ i = .ref b ∧ KAt wd K H i k ∧ xs.length < sizeLine ∧ ∀ ep', Q (upd H a (dctO wd a ep' (putX xs k b v)))
theorem set_D (hu : X.A.units + 64 < cLine) : PSet X (rDSet X.w X.K) := by
  intro pins s σ H o i v ov iv u Q I ro ri rv h
  obtain ⟨a, ep, xs, k, b, rfl, ⟨ha, A, kds, rk, ek⟩, rfl, ⟨B, d, rd, ed⟩, hz, q⟩ := h
  cases ro
  obtain ⟨b', e', hb⟩ := key_nested I rd ed
  cases e'
  cases ri
  obtain ⟨z, hs, ys, pr, hd⟩ := dct_at I ha (keys_nested I rk ek)
  have hz2 : (putX xs k b v).length ≤ sizeLine := by
    unfold putX; split
    · rw [List.length_map]; exact z
    · rw [List.length_append]; exact hz
  have hl := Paired.length pr
  refine wpAny_setItem_heap (d_roomN hu) hb hd (fun h' hd' sb => ?_) (by rw [← hl]; exact z)
  obtain ⟨ep', ok⟩ := dct_ok hz2 hs (KR.put pr k b rv) hd'
  refine ⟨_, I.write (x := a) (e := a) (h' := h') (o := dctO X.w a ep' (putX xs k b v)) (t' := s.toks + NestedKey.draws k) (by rw [ha]; exact True.intro) (.inl rfl) (fun b o hb e => (sb.2 b hb).trans e) ?_ (ok _), q ep'⟩
  obtain ⟨o, _, _, ho, _⟩ := hd'
  exact ⟨o, ho⟩
end
end Ev

set_option linter.all false
set_option autoImplicit false
set_option maxRecDepth 100000
/-! Dicts with keys that are tuples: methods, built-ins, loops. -/
namespace Ev
open PySem PySem.Spec PyProof.Rows L2

section
variable {X : Cx} {pins : List (Addr × Obj)} {σ : L2.St} {H H' : Hp} {s : Shared} {A : Av}
/-- a dict, of either sort -/
def tyDict (wd : World) (x : V) (H : Hp) : Prop := ∃ a, x = .ref a ∧ (IsD H a ∨ ∃ ep xs, H a = some (dctO wd a ep xs))
theorem ty_dict : TyOk X "dict" (tyDict X.w) := by
  intro pins σ H s x v I r ty
  obtain ⟨a, rfl, h⟩ := ty
  cases r
  rcases h with h | ⟨ep, xs, h⟩
  · obtain ⟨t1, t2, _⟩ := isD_at I h
    exact ⟨t1, t2⟩
  · obtain ⟨⟨_, _, _, ys, o, es, _, ho, hx, _⟩, _⟩ := (show ObjOk X.prog X.w H s.heap a (dctO X.w a ep xs) from I.hok a _ h)
    refine ⟨⟨o, ho, hx.1⟩, fun b e => ?_⟩
    cases e
    exact ⟨o, ho, hx.2.1⟩
/-- d.get(k), d.get(k, x) -/
def rGetM (wd : World) (K : PySem.W.Frag) : V → List V → Hp → VK → Prop := fun x ks H Q =>
  (∃ a y o, x = .ref a ∧ ks = [y] ∧ DGet H a y o ∧ Q (o.getD .non) H) ∨ (∃ a y z o, x = .ref a ∧ ks = [y, z] ∧ DGet H a y o ∧ Q (o.getD z) H) ∨
  (∃ a ep xs y k, x = .ref a ∧ ks = [y] ∧ DAt wd K H a ep xs ∧ KAt wd K H y k ∧ Q ((atN xs k).getD .non) H) ∨ (∃ a ep xs y z k, x = .ref a ∧ ks = [y, z] ∧ DAt wd K H a ep xs ∧ KAt wd K H y k ∧ Q ((atN xs k).getD z) H)
theorem RelO.getD {o : Option V} {u : Option Value} (r : RelO o u) {x : V} {y : Value} (q : RelV x y) : RelV (o.getD x) (u.getD y) := by
  cases o <;> cases u <;> first | exact q | exact r | exact r.elim
theorem mt_getM (hu : X.A.units + 64 < cLine) : MtR X "dict.get" (rGetM X.w X.K) := by
  intro pins s σ H x ks v us Q I rx rk h
  rcases h with ⟨a, y, o, rfl, rfl, g, q⟩ | ⟨a, y, z, o, rfl, rfl, g, q⟩ | ⟨a, ep, xs, y, k, rfl, rfl, ⟨ha, B, kds, r1, e1⟩, ⟨B', d, rd, ed⟩, q⟩ | ⟨a, ep, xs, y, z, k, rfl, rfl, ⟨ha, B, kds, r1, e1⟩, ⟨B', d, rd, ed⟩, q⟩
  · cases rx
    obtain ⟨u, rfl, ry⟩ := rk.one
    exact d_get1 (by omega) I g ry fun w' s3 I3 rw' => ⟨_, H, I3, rw', q⟩
  · cases rx
    obtain ⟨u, w, rfl, ry, rz⟩ := rk.two
    exact d_get2 (by omega) I g ry rz fun w' s3 I3 rw' => ⟨_, H, I3, rw', q⟩
  · cases rx
    obtain ⟨u, rfl, ry⟩ := rk.one
    obtain ⟨b, rfl, hb⟩ := key_nested I rd ed
    cases ry
    obtain ⟨zz, hs, ys, pr, hd⟩ := dct_at I ha (keys_nested I r1 e1)
    exact call_meetsIn PySem.F.slot_dict_get hd.typeIs PySem.F.entry_dict_get (PySem.F.args_dict_get_2 _ _) (meetsH_dict_get (nestedKind X.prog X.w) a b hs) ⟨d_roomN hu, k, ys, hb, hd, ⟨_, H, I.tok _, RelO.getD (KR.val pr k) (x := .non) (y := .none) rfl, q⟩⟩
  · cases rx
    obtain ⟨u, w, rfl, ry, rz⟩ := rk.two
    obtain ⟨b, rfl, hb⟩ := key_nested I rd ed
    cases ry
    obtain ⟨zz, hs, ys, pr, hd⟩ := dct_at I ha (keys_nested I r1 e1)
    exact call_meetsIn PySem.F.slot_dict_get hd.typeIs PySem.F.entry_dict_get (PySem.F.args_dict_get_3 _ _ _) (meetsH_dict_get_default (nestedKind X.prog X.w) a b hs w) ⟨d_roomN hu, k, ys, hb, hd, ⟨_, H, I.tok _, RelO.getD (KR.val pr k) rz, q⟩⟩
/-- len(d) -/
theorem call_lenN : CallR X (.builtin "len") (fun xs H Q => ∃ p ep ys, xs = [V.ref p] ∧ DAt X.w X.K H p ep ys ∧ Q (.int ((ys.length : Nat) : Int)) H) := by
  intro pins s σ H xs us Q I r h
  obtain ⟨p, ep, ys, rfl, ⟨hp, B, kds, r1, e1⟩, q⟩ := h
  obtain ⟨u, rfl, rx⟩ := vals1 r
  obtain rfl : u = .ref p := rx
  obtain ⟨z, hd, zs, rel, dd⟩ := dct_at I hp (keys_nested I r1 e1)
  have hl : ys.length = zs.length := Paired.length rel
  refine call_len_dictH hd dd (by rw [← hl]; rw [sizeLine_eq] at z; omega) ?_
  rw [← hl]
  exact ⟨.int ((ys.length : Nat) : Int), H, I.tok _, ⟨_, rfl⟩, q⟩
theorem KR.refs {xs : List (NestedKey × Addr × V)} {ys : List (NestedKey × Addr × Value)} (r : Paired KR xs ys) : (ys.map fun y => Value.ref y.2.1) = xs.map fun x => Value.ref x.2.1 := by
  induction r with
  | nil => rfl
  | cons r _ ih => rw [List.map_cons, List.map_cons, ih, r.2.1]
theorem vals_dRefs (xs : List (NestedKey × Addr × V)) : Vals (dRefs xs) (xs.map fun x => Value.ref x.2.1) := by
  induction xs with
  | nil => exact .nil
  | cons x xs ih => exact .cons rfl ih
/-- list(d) -/
theorem call_listN (hc : X.calm = true) : CallR X (.type "list") (fun xs H Q => ∃ d ep ys, xs = [V.ref d] ∧ H d = some (dctO X.w d ep ys) ∧ ∀ p, H p = none → Q (.ref p) (upd H p (.lst (dRefs ys)))) := by
  intro pins s σ H xs us Q I r h
  obtain ⟨d, ep, kvs, rfl, hd, q⟩ := h
  obtain ⟨u, rfl, rx⟩ := r.one
  cases rx
  obtain ⟨⟨z, hs, nd, ks, o, es, pr, ho, hx, hdt, he⟩, _⟩ := (show ObjOk X.prog X.w H s.heap d (dctO X.w d ep kvs) from I.hok d _ hd)
  have l1 : es.size = ks.length := by rw [← Array.length_toList, he, List.length_map]
  have l2 : kvs.length = ks.length := Paired.length pr
  refine PySem.W.kdl_call (kdl_raw hs hx hdt) (I.ok.hd hc) ho (by omega) fun h' tk acc' c' kp e it => ?_
  have ea : acc'.toList = kvs.map fun x => Value.ref x.2.1 := by
    rw [← KR.refs pr]
    have hl : acc'.toList.length = ks.length := by rw [Array.length_toList, it.1]; exact l1
    apply List.ext_getElem?
    intro j
    rw [List.getElem?_map]
    cases hj : acc'.toList[j]? with
    | none =>
      have h1 := List.getElem?_eq_none_iff.mp hj
      rw [List.getElem?_eq_none (by omega)]
      all_goals rfl
    | some v =>
      obtain ⟨en, hen, hv⟩ := it.2 j v (by rw [← Array.getElem?_toList]; exact hj)
      have qe := congrArg (fun l => l[j]?) he
      simp only [List.getElem?_map, Array.getElem?_toList, hen] at qe
      cases hb : ks[j]? with
      | none => rw [hb] at qe; cases qe
      | some b =>
        rw [hb] at qe
        have e2 := Option.some.inj qe
        rw [hv, e2]
        all_goals rfl
  have rv : Vals (dRefs kvs) acc'.toList := by rw [ea]; exact vals_dRefs kvs
  refine ⟨.ref s.heap.objs.size, _, I.laid (t' := tk) (o := .lst (dRefs kvs)) kp (Nat.le_refl _) ?_, rfl, q _ (I.hok.fresh (Nat.le_refl _))⟩
  exact ⟨by rw [List.length_map]; exact z, acc'.toList, c', rv, by rw [Array.toArray_toList]; exact e⟩
/-! ### for k in d -/
def Itn (wd : World) (a : Addr) (ep : Nat) (n : Nat) : It :=
  ⟨fun i H => i < n ∧ ∃ xs, H a = some (dctO wd a ep xs) ∧ xs.length = n, fun i H x H' => H' = H ∧ ∀ xs, H a = some (dctO wd a ep xs) → (dRefs xs)[i]? = some x, fun i H => n ≤ i ∧ ∃ xs, H a = some (dctO wd a ep xs) ∧ xs.length = n⟩
theorem dct_keys (I : L2.Inv X pins σ H s) {a : Addr} {ep : Nat} {ys : List (NestedKey × Addr × V)} (hy : H a = some (dctO X.w a ep ys)) {o : Obj} {es : Array DictEntry} {ep' : Nat} (ho : s.heap.get? a = some o) (hd : o.data = .dict es ep') :
    es.toList.map (·.key) = ys.map fun x => Value.ref x.2.1 := by
  obtain ⟨⟨z, hs, nd, ks, o2, es2, pr, ho2, hx, hdt, he⟩, _⟩ := (show ObjOk X.prog X.w H s.heap a (dctO X.w a ep ys) from I.hok a _ hy)
  rw [ho] at ho2; cases ho2
  rw [hd] at hdt; cases hdt
  rw [he, List.map_map, ← KR.refs pr]; rfl
theorem turn_dictN {P : Program} {w : World} {K : PySem.W.Frag} {tg : Expr} (a it : Addr) (ep n : Nat) : Turn P w K tg (Itn w a ep n) [it] it (fun i h => h.IsKeyIter it a i n ep) where
  mem := by simp
  obj := fun i h st b hb => by
    have e : b = it := by simpa using hb
    subst e
    obtain ⟨o, e, c, d⟩ := st
    exact ⟨o, e, fun v z => by rw [d] at z; cases z⟩
  keep := fun i h h' st k => by
    obtain ⟨o, e, c, d⟩ := st
    exact ⟨o, k it (by simp) o e, c, d⟩
  item := by
    intro X hP hw hK hc i pins s σ H E I hf st hg
    subst hP hw hK
    obtain ⟨hlt, xs, hq, hn⟩ := hg
    obtain ⟨⟨z, hs, nd, ks, o, es, pr, ho, hx, hdt, he⟩, _⟩ := (show ObjOk X.prog X.w H s.heap a (dctO X.w a ep xs) from I.hok a _ hq)
    have l1 : es.size = ks.length := by rw [← Array.length_toList, he, List.length_map]
    have l2 : xs.length = ks.length := Paired.length pr
    have l3 : es.size = n := by omega
    have hlt' : i < es.size := by omega
    have hk := fun (ys : List (NestedKey × Addr × V)) (hy : H a = some (dctO X.w a ep ys)) => congrArg (fun l => l[i]?) (dct_keys (ys := ys) I hy ho hdt)
    simp only [List.getElem?_map, Array.getElem?_toList, Array.getElem?_eq_getElem hlt', Option.map_some] at hk
    have hx1 : i < xs.length := by omega
    have ek : es[i].key = .ref xs[i].2.1 := by
      have := hk xs hq
      simpa [List.getElem?_eq_getElem hx1] using this
    obtain ⟨f0, f1, f2, f3, f4, f5⟩ := hf it (by simp)
    refine wpAny_pyNext_keys_item_raw (by rw [l3]; exact st) ⟨o, ho, hx, hdt⟩ hlt' fun h' st' sb => ?_
    have I1 : L2.Inv X pins σ H { s with heap := h' } := I.turned (t' := s.toks) (fun b o hb e => (sb.2 b hb).trans e) f0 f1 f3 f4 f5
    rw [l3] at st'
    obtain ⟨oi, e, c, d⟩ := id st'
    refine ⟨_, rfl, go_of (s := { s with heap := h' }) e c d (by decide) ⟨.ref xs[i].2.1, H, I1, by rw [ek]; rfl, ⟨rfl, fun ys hy => ?_⟩, st', fun b hb => (hf b hb).1⟩⟩
    have := hk ys hy
    rw [ek] at this
    rw [List.getElem?_map]
    cases hg : ys[i]? with
    | none => rw [hg] at this; cases this
    | some y => rw [hg] at this; simp at this; simp [this]
  done := by
    intro X hP hw hK hc i pins s σ H E I hf st hg
    subst hP hw hK
    obtain ⟨hge, xs, hq, hn⟩ := hg
    obtain ⟨⟨z, hs, nd, ks, o, es, pr, ho, hx, hdt, he⟩, _⟩ := (show ObjOk X.prog X.w H s.heap a (dctO X.w a ep xs) from I.hok a _ hq)
    have l1 : es.size = ks.length := by rw [← Array.length_toList, he, List.length_map]
    have l2 : xs.length = ks.length := Paired.length pr
    have l3 : es.size = n := by omega
    obtain ⟨f0, f1, f2, f3, f4, f5⟩ := hf it (by simp)
    exact wpAny_pyNext_keys_end_raw (I.ok.hd hc) (by rw [l3]; exact st) ⟨o, ho, hx, hdt⟩ (by omega) fun h' eb => ⟨rfl, I.turned (t' := s.toks) (fun b o hb e => eb b o hb e) f0 f1 f3 f4 f5⟩
  self := fun _ _ _ _ _ st h => wpAny_pyIter_keyiter st h
def iDictN (wd : World) (td : TE) : TI := fun σ H R => td σ H fun x H1 => ∃ a ep xs, x = .ref a ∧ H1 a = some (dctO wd a ep xs) ∧ R (Itn wd a ep xs.length) H1
theorem pi_dictN {tg l : Expr} {tl : TE} (hl : PE X l tl) : PI X tg l (iDictN X.w tl) := by
  refine ⟨fun pins s σ H R I h => ?_⟩
  refine thn (hl.run pins s σ H _ I h) fun v s1 ⟨x, H1, I1, r1, q1⟩ => ?_
  obtain ⟨a, ep, xs, e, hq, q⟩ := q1
  subst e
  cases r1
  obtain ⟨⟨z, hs, nd, ks, o, es, pr, ho, hx, hdt, he⟩, _⟩ := (show ObjOk X.prog X.w H1 s1.heap a (dctO X.w a ep xs) from I1.hok a _ hq)
  have l1 : es.size = ks.length := by rw [← Array.length_toList, he, List.length_map]
  have l2 : xs.length = ks.length := Paired.length pr
  have l3 : es.size = xs.length := by omega
  refine wpAny_pyIter_dict_raw hs ⟨o, ho, hx, hdt⟩ ?_
  rw [l3]
  refine ⟨s1.heap.objs.size, [s1.heap.objs.size], _, _, H1, rfl, I1.kept (t' := s1.toks) fun b o e => Heap.get?_push_of_some _ e, turn_dictN a _ ep xs.length, ⟨_, Heap.get?_push_size _ rfl, rfl, rfl⟩, fun b hb => ?_, q⟩
  have e : b = s1.heap.objs.size := by simpa using hb
  subst e
  exact I1.fpOk (Nat.le_refl _) (I1.hok.fresh (Nat.le_refl _))
/-! ### all together -/
def rIxx (wd : World) (K : PySem.W.Frag) : R2 := fun x y H Q => (rIx K x y H Q ∨ ∃ a v, x = .ref a ∧ DGet H a y (some v) ∧ Q v H) ∨ rDGet wd K x y H Q
theorem ix_dK (hu : X.A.units + 64 < cLine) : IxR X (fun x y H Q => ∃ a v, x = .ref a ∧ DGet H a y (some v) ∧ Q v H) := by
  intro value slice pins s σ H x y v u Q I rx ry h hs
  obtain ⟨a, w, rfl, g, q⟩ := h
  cases rx
  exact tail_any (dict_typeIs I g) slot_dict_getitem.lookup (d_getItem (by omega) I g ry fun w' s3 I3 rw' => ⟨w, H, I3, rw', q⟩) hs
theorem ix_DN (hu : X.A.units + 64 < cLine) : IxR X (rDGet X.w X.K) := by
  intro value slice pins s σ H x y v u Q I rx ry h hs
  obtain ⟨a, ep, xs, k, r, e1, ⟨ha, A, kds, rk, ek⟩, kd, e2, q⟩ := id h
  have hT : s.TypeIs v "dict" := by
    rw [e1] at rx
    cases rx
    obtain ⟨z, hs, ys, pr, hd⟩ := dct_at I ha (keys_nested I rk ek)
    exact hd.typeIs
  exact tail_any hT slot_dict_getitem.lookup (ix_DGet hu I rx ry h) hs
theorem ix_all (hu : X.A.units + 64 < cLine) : IxR X (rIxx X.w X.K) := (ix_seq.or (ix_dK hu)).or (ix_DN hu)
theorem op_inK (hu : X.A.units + 64 < cLine) : OpR X (compareOp .In) (fun x y H Q => ∃ a o, y = .ref a ∧ DGet H a x o ∧ Q (.bl o.isSome) H) := by
  intro pins s σ H x y v u Q I rx ry h
  obtain ⟨a, o, rfl, g, q⟩ := h
  cases ry
  exact d_in (by omega) I g rx fun s3 I3 => ⟨.bl _, H, I3, rfl, q⟩
theorem op_notInK (hu : X.A.units + 64 < cLine) : OpR X (compareOp .NotIn) (fun x y H Q => ∃ a o, y = .ref a ∧ DGet H a x o ∧ Q (.bl (!o.isSome)) H) := by
  intro pins s σ H x y v u Q I rx ry h
  obtain ⟨a, o, rfl, g, q⟩ := h
  cases ry
  exact d_notIn (by omega) I g rx fun s3 I3 => ⟨.bl _, H, I3, rfl, q⟩
def rSetA (wd : World) (K : PySem.W.Frag) : TSet := fun o i v H Q => rSetL o i v H Q ∨ (∃ a H', o = .ref a ∧ DPut H a i v H' ∧ Q H') ∨ rDSet wd K o i v H Q
theorem set_all (hu : X.A.units + 64 < cLine) : PSet X (rSetA X.w X.K) := by
  intro pins s σ H o i v ov iv u Q I ro ri rv h
  rcases h with h | ⟨a, H', rfl, g, q⟩ | h
  · exact set_list pins s σ H o i v ov iv u Q I ro ri rv h
  · cases ro
    exact d_setItem (by omega) I g ri rv fun s' I' => ⟨H', I', q⟩
  · exact set_D hu pins s σ H o i v ov iv u Q I ro ri rv h
end
end Ev

set_option linter.all false
set_option autoImplicit false
set_option maxRecDepth 100000
/-! Comparisons, places, parts, built-ins. -/
namespace Ev
open PySem PySem.Spec PyProof.Rows L2

section
variable {X : Cx}
def rInT (K : PySem.W.Frag) : R2 := fun x y H Q => ∃ d ds, Dp K H x d ∧ Dp K H y (.tuple ds) ∧ SeqAt.shaped d = true ∧ SeqAt.shaped (.list ds) = true ∧ Q (.bl (ds.any fun z => PyData.eqv z d)) H
def rNotInT (K : PySem.W.Frag) : R2 := fun x y H Q => ∃ d ds, Dp K H x d ∧ Dp K H y (.tuple ds) ∧ SeqAt.shaped d = true ∧ SeqAt.shaped (.list ds) = true ∧ Q (.bl (!ds.any fun z => PyData.eqv z d)) H
theorem op_inT (hu : X.A.units + 65 < cLine) : OpR X (compareOp .In) (rInT X.K) := by
  intro pins s σ H x y v u Q I rx ry h
  obtain ⟨d, ds, hd, he, sd, se, q⟩ := h
  obtain ⟨as, r1⟩ := Dp.reads I d x v hd rx
  obtain ⟨bs, r2⟩ := Dp.reads I (.tuple ds) y u he ry
  exact SeqAt.in_tuple_reads r2 r1 (SeqAt.canLay_of_shaped se) (SeqAt.canLay_of_shaped sd) (room_in_shaped sd hu) ⟨.bl _, H, I, rfl, q⟩
theorem op_notInT (hu : X.A.units + 65 < cLine) : OpR X (compareOp .NotIn) (rNotInT X.K) := by
  intro pins s σ H x y v u Q I rx ry h
  obtain ⟨d, ds, hd, he, sd, se, q⟩ := h
  obtain ⟨as, r1⟩ := Dp.reads I d x v hd rx
  obtain ⟨bs, r2⟩ := Dp.reads I (.tuple ds) y u he ry
  exact SeqAt.notIn_tuple_reads r2 r1 (SeqAt.canLay_of_shaped se) (SeqAt.canLay_of_shaped sd) (room_in_shaped sd hu) ⟨.bl _, H, I, rfl, q⟩
end

def cmOf : COp → CmpOp
  | .eq => .Eq
  | .ne => .NotEq
  | .lt => .Lt
  | .le => .LtE
  | .gt => .Gt
  | .ge => .GtE
  | .isin => .In
  | .notin => .NotIn
  | .is_ => .Is
  | .isnot => .IsNot
def rCmp (wd : World) (K : PySem.W.Frag) : COp → R2
  | .eq => rEqD K
  | .ne => rNeD K
  | .lt => rI0 fun i j => .bl (decide (i < j))
  | .le => rI0 fun i j => .bl (decide (i ≤ j))
  | .gt => rI0 fun i j => .bl (decide (j < i))
  | .ge => rI0 fun i j => .bl (decide (j ≤ i))
  | .isin => fun x y H Q => (rInD K x y H Q ∨ rInT K x y H Q) ∨ (∃ a o, y = .ref a ∧ DGet H a x o ∧ Q (.bl o.isSome) H) ∨ rDIn wd K x y H Q
  | .notin => fun x y H Q => (rNotInD K x y H Q ∨ rNotInT K x y H Q) ∨ (∃ a o, y = .ref a ∧ DGet H a x o ∧ Q (.bl (!o.isSome)) H) ∨ rDNotIn wd K x y H Q
  | .is_ => fun x y H Q => y = .non ∧ Q (.bl (decide (x = .non))) H
  | .isnot => fun x y H Q => y = .non ∧ Q (.bl (!decide (x = .non))) H
theorem op_cmp {X : Cx} (hu : X.A.units + 65 < cLine) : ∀ o : COp, OpR X (compareOp (cmOf o)) (rCmp X.w X.K o)
  | .eq => op_eqD (by omega)
  | .ne => op_neD (by omega)
  | .lt => op_lt
  | .le => op_le
  | .gt => op_gt
  | .ge => op_ge
  | .isin => ((op_inD hu).or (op_inT hu)).or ((op_inK (by omega)).or (op_DIn (by omega)))
  | .notin => ((op_notInD hu).or (op_notInT hu)).or ((op_notInK (by omega)).or (op_DNotIn (by omega)))
  | .is_ => op_isN
  | .isnot => op_notN
section
variable {wd : World} {K : PySem.W.Frag} {H : Hp} {A : Av} {x y : V} {d e : D} {b : Bool} {Q : VK}
theorem eq_ok {r : R2} (g : Bool → Bool) (hx : RepB wd K H A x d) (hy : RepB wd K H A y e) (h : eqD d e = .ok b) (q : Q (.bl (g b)) H) :
    ∃ a c, Dp K H x a ∧ Dp K H y c ∧ SeqAt.shaped a = true ∧ SeqAt.shaped c = true ∧ Q (.bl (g (PyData.eqv a c))) H := by
  unfold eqD at h
  split at h
  · rename_i a c e1 e2
    split at h
    · rename_i hs
      simp only [Bool.and_eq_true] at hs
      cases h
      exact ⟨a, c, hx.dp e1, hy.dp e2, hs.1, hs.2, q⟩
    · cases h
  · cases h
theorem in_okL {ds : List D} (g : Bool → Bool) (hx : RepB wd K H A x d) (hy : RepB wd K H A y (.lst ds)) (h : inD d ds = .ok b) (q : Q (.bl (g b)) H) :
    ∃ a c, Dp K H x a ∧ Dp K H y (.list c) ∧ SeqAt.shaped a = true ∧ SeqAt.shaped (.list c) = true ∧ Q (.bl (g (c.any fun z => PyData.eqv z a))) H := by
  unfold inD at h
  split at h
  · rename_i a c e1 e2
    split at h
    · rename_i hs
      simp only [Bool.and_eq_true] at hs
      cases h
      exact ⟨a, c, hx.dp e1, hy.dp (by simp [py, e2]), hs.1, hs.2, q⟩
    · cases h
  · cases h
theorem in_okT {ds : List D} (g : Bool → Bool) (hx : RepB wd K H A x d) (hy : RepB wd K H A y (.tup ds)) (h : inD d ds = .ok b) (q : Q (.bl (g b)) H) :
    ∃ a c, Dp K H x a ∧ Dp K H y (.tuple c) ∧ SeqAt.shaped a = true ∧ SeqAt.shaped (.list c) = true ∧ Q (.bl (g (c.any fun z => PyData.eqv z a))) H := by
  unfold inD at h
  split at h
  · rename_i a c e1 e2
    split at h
    · rename_i hs
      simp only [Bool.and_eq_true] at hs
      cases h
      exact ⟨a, c, hx.dp e1, hy.dp (by simp [py, e2]), hs.1, hs.2, q⟩
    · cases h
  · cases h
theorem RepB.ne_non (hx : RepB wd K H A x d) (h : x = .non) : d = .non := by
  subst h
  rcases hx with r | ⟨a, q, _⟩
  · cases r; rfl
  · cases q
theorem bind_ok {α β : Type} {m : R α} {f : α → R β} {z : β} (h : R.bind m f = .ok z) : ∃ a, m = .ok a ∧ f a = .ok z := by
  cases m with
  | ok a => exact ⟨a, rfl, h⟩
  | exc c fs => cases h
  | bad => cases h
/-! dicts, data against values -/
theorem getN_at : ∀ {xs : List (NestedKey × Addr × V)} {kds : List (D × D)} (k : NestedKey), Reps wd K H A (dVals xs) (kds.map (·.2)) → kds.map (fun kv => nkeyT kv.1) = xs.map (fun x => some x.1) →
    match getN kds k with
    | some d => ∃ v, atN xs k = some v ∧ Rep wd K H A v d
    | none => atN xs k = none
  | [], [], k, _, _ => rfl
  | [], _ :: _, _, _, e => by simp at e
  | _ :: _, [], _, _, e => by simp at e
  | x :: xs, kd :: kds, k, r, e => by
    simp only [List.map_cons, List.cons.injEq] at e
    simp only [dVals, List.map_cons] at r
    cases r with
    | cons r rr =>
      have ih := getN_at (xs := xs) (kds := kds) k rr e.2
      unfold getN atN at ih ⊢
      rw [List.find?_cons, List.find?_cons, e.1]
      by_cases hk : x.1 = k
      · simp only [hk, decide_true, Option.map_some]
        exact ⟨_, rfl, r⟩
      · have : ¬ (some x.1 = some k) := fun z => hk (Option.some.inj z)
        simp only [this, hk, decide_false]
        exact ih
theorem getK_at : ∀ {kvs : List (L2.Key × V)} {kds : List (L2.Key × D)} (k : L2.Key), kvs.map (·.1) = kds.map (·.1) → Reps wd K H A (kvs.map (·.2)) (kds.map (·.2)) →
    match getK kds k with
    | some d => ∃ v, valV kvs k = some v ∧ Rep wd K H A v d
    | none => valV kvs k = none
  | [], [], k, _, _ => rfl
  | [], _ :: _, _, e, _ => by simp at e
  | _ :: _, [], _, e, _ => by simp at e
  | x :: xs, kd :: kds, k, e, r => by
    simp only [List.map_cons, List.cons.injEq] at e
    simp only [List.map_cons] at r
    cases r with
    | cons r rr =>
      have ih := getK_at (kvs := xs) (kds := kds) k e.2 rr
      unfold getK valV at ih ⊢
      rw [List.find?_cons, List.find?_cons, ← e.1]
      by_cases hk : x.1 = k
      · simp only [hk, decide_true, Option.map_some]
        exact ⟨_, rfl, r⟩
      · simp only [hk, decide_false]
        exact ih
theorem key_V {k : L2.Key} (h : keyOf d = some k) (hx : RepB wd K H A x d) : x = kV k := by
  cases d with
  | int i => cases h; exact hx.int
  | str z => cases h; exact hx.str
  | _ => cases h
theorem dget_exc {d k : D} {c : Cl} {fs : List D} (h : dget d k = .exc c fs) : False := by
  unfold dget at h
  cases d <;> simp only at h <;> first | (cases h; done) | (split at h <;> cases h)
theorem R.bind_exc {α β : Type} {m : R α} {f : α → β} {c : Cl} {fs : List D} (h : R.bind m (fun a => .ok (f a)) = .exc c fs) : m = .exc c fs := by
  cases m <;> first | (cases h; done) | (cases h; rfl)
theorem R.bind_exc2 {α β : Type} {m : R α} {f : α → R β} {c : Cl} {fs : List D} (hf : ∀ a, f a ≠ .exc c fs) (h : R.bind m f = .exc c fs) : m = .exc c fs := by
  cases m with
  | ok a => exact absurd h (hf a)
  | exc c' fs' => cases h; rfl
  | bad => cases h
/-- a look into a dict -/
theorem dget_ok {B : Av} {r : Option D} (hx : RepB wd K H A x d) (hy : Rep wd K H B y e) (h : dget d e = .ok r) :
    (∃ a, x = .ref a ∧ ((∃ o, DGet H a y o ∧ o.isSome = r.isSome ∧ (∀ z, r = some z → ∃ v, o = some v ∧ Rep wd K H A v z) ∧ (r = none → o = none)) ∨
      (∃ ep xs k, DAt wd K H a ep xs ∧ KAt wd K H y k ∧ (atN xs k).isSome = r.isSome ∧ (∀ z, r = some z → ∃ v, atN xs k = some v ∧ Rep wd K H A v z) ∧ (r = none → atN xs k = none)))) := by
  unfold dget at h
  cases d with
  | dN kvs =>
    obtain ⟨a, ep, xs, rfl, e1, r1, r2, q⟩ := hx.dN
    simp only at h
    split at h
    · rename_i k hk
      cases h
      have := getN_at k r2 q
      have hD : DAt wd K H a ep xs := ⟨e1, A, _, r1, by rw [List.map_map]; exact q⟩
      refine ⟨a, rfl, .inr ⟨ep, xs, k, hD, ⟨B, e, hy, hk⟩, ?_⟩⟩
      cases hg : getN kvs k with
      | none => rw [hg] at this; exact ⟨by rw [this]; rfl, (fun z w => nomatch w), fun _ => this⟩
      | some z =>
        rw [hg] at this
        obtain ⟨v, q1, q2⟩ := this
        exact ⟨by rw [q1]; rfl, (fun z' w => by cases w; exact ⟨v, q1, q2⟩), fun w => nomatch w⟩
    · cases h
  | dK kvs =>
    obtain ⟨a, kv2, rfl, e1, q, r2⟩ := hx.dK
    simp only at h
    split at h
    · rename_i k hk
      cases h
      have hy2 := key_V hk (.inl hy)
      have := getK_at k q r2
      refine ⟨a, rfl, .inl ⟨valV kv2 k, by rw [hy2]; exact .k e1, ?_⟩⟩
      cases hg : getK kvs k with
      | none => rw [hg] at this; exact ⟨by rw [this]; rfl, (fun z w => nomatch w), fun _ => this⟩
      | some z =>
        rw [hg] at this
        obtain ⟨v, q1, q2⟩ := this
        exact ⟨by rw [q1]; rfl, (fun z' w => by cases w; exact ⟨v, q1, q2⟩), fun w => nomatch w⟩
    · cases h
  | _ => cases h
theorem Rep.of_key {k : L2.Key} (hy : RepB wd K H A y e) (h : keyOf e = some k) : Rep wd K H A y e := by
  rcases hy with hy | ⟨a, _, q⟩
  · exact hy
  · cases q <;> cases h
theorem Rep.of_keyT {k : NestedKey} (hy : RepB wd K H A y e) (h : nkeyT e = some k) : Rep wd K H A y e := by
  rcases hy with hy | ⟨a, _, q⟩
  · exact hy
  · cases q <;> cases h
theorem Rep.of_dget {r : Option D} (hy : RepB wd K H A y e) (h : dget d e = .ok r) : Rep wd K H A y e := by
  unfold dget at h
  cases d with
  | dN kvs =>
    simp only at h
    split at h
    · exact Rep.of_keyT hy ‹_›
    · cases h
  | dK kvs =>
    simp only at h
    split at h
    · exact Rep.of_key hy ‹_›
    · cases h
  | _ => cases h
theorem cmp_ok {o : COp} (hx : RepB wd K H A x d) (hy : RepB wd K H A y e) (h : cmpD o d e = .ok b) (q : Q (.bl b) H) : rCmp wd K o x y H Q := by
  unfold cmpD at h
  split at h
  · exact eq_ok (r := rEqD K) id hx hy h q
  · obtain ⟨c, e1, e2⟩ := bind_ok h
    cases e2
    exact eq_ok (r := rEqD K) Bool.not hx hy e1 q
  · cases h; rw [hx.int, hy.int]; exact ⟨_, _, rfl, rfl, q⟩
  · cases h; rw [hx.int, hy.int]; exact ⟨_, _, rfl, rfl, q⟩
  · cases h; rw [hx.int, hy.int]; exact ⟨_, _, rfl, rfl, q⟩
  · cases h; rw [hx.int, hy.int]; exact ⟨_, _, rfl, rfl, q⟩
  · unfold hasD at h
    split at h
    · exact .inl (.inl (in_okL id hx hy h q))
    · exact .inl (.inr (in_okT id hx hy h q))
    all_goals first
      | (obtain ⟨r, e1, e2⟩ := bind_ok h
         cases e2
         obtain ⟨a, rfl, ⟨o, g1, g2, _⟩ | ⟨ep, xs, k, g1, g2, g3, _⟩⟩ := dget_ok hy (Rep.of_dget hx e1) e1
         · exact .inr (.inl ⟨a, o, rfl, g1, by rw [g2]; exact q⟩)
         · exact .inr (.inr ⟨a, ep, xs, k, rfl, g1, g2, by rw [g3]; exact q⟩))
      | cases h
  · obtain ⟨c, e1, e2⟩ := bind_ok h
    cases e2
    unfold hasD at e1
    split at e1
    · exact .inl (.inl (in_okL Bool.not hx hy e1 q))
    · exact .inl (.inr (in_okT Bool.not hx hy e1 q))
    all_goals first
      | (obtain ⟨r, e3, e2⟩ := bind_ok e1
         cases e2
         obtain ⟨a, rfl, ⟨o, g1, g2, _⟩ | ⟨ep, xs, k, g1, g2, g3, _⟩⟩ := dget_ok hy (Rep.of_dget hx e3) e3
         · exact .inr (.inl ⟨a, o, rfl, g1, by rw [g2]; exact q⟩)
         · exact .inr (.inr ⟨a, ep, xs, k, rfl, g1, g2, by rw [g3]; exact q⟩))
      | cases e1
  all_goals first
    | (cases h
       refine ⟨hy.non, ?_⟩
       first
         | (rw [hx.non]; exact q)
         | (have n : ¬ x = .non := fun z => by have w := hx.ne_non z; cases w
            simp only [n, decide_false, Bool.not_false]; exact q))
    | cases h
end

/-! ### a[i] -/
theorem idx_ok {wd : World} {K : PySem.W.Frag} {H : Hp} {A B : Av} {x y : V} {d e z : D} {Q : VK} (hx : RepB wd K H A x d) (hy : RepB wd K H B y e) (h : idxD d e = .ok z)
    (q : ∀ v, Rep wd K H A v z → Q v H) : rIxx wd K x y H Q := by
  have go : ∀ {ds : List D} {xs : List V} {i : Int}, Reps wd K H A xs ds → ofO (atI ds i) = .ok z → ∃ v, atI xs i = some v ∧ Rep wd K H A v z := fun {ds xs i} r h => by
    unfold atI at h ⊢
    rw [r.length]
    cases e1 : ixN ds.length i with
    | none => rw [e1] at h; cases h
    | some j =>
      rw [e1] at h
      simp only [Option.bind_some] at h ⊢
      cases e2 : ds[j]? with
      | none => rw [e2] at h; cases h
      | some w =>
        rw [e2] at h
        cases h
        exact r.get e2
  unfold idxD at h
  split at h
  · obtain ⟨a, xs, rfl, sx, rx⟩ := hx.tup
    obtain ⟨v, e1, r⟩ := go rx h
    rw [hy.int]
    exact .inl (.inl (.inr (.inl ⟨a, xs, _, v, rfl, rfl, sx, e1, q v r⟩)))
  · obtain ⟨a, xs, rfl, sx, rx⟩ := hx.lst
    obtain ⟨v, e1, r⟩ := go rx h
    rw [hy.int]
    exact .inl (.inl (.inl ⟨a, xs, _, v, rfl, rfl, SqL.of sx, e1, q v r⟩))
  · obtain ⟨a, xs, rfl, sx, rx⟩ := hx.scr
    obtain ⟨v, e1, r⟩ := go rx h
    rw [hy.int]
    exact .inl (.inl (.inl ⟨a, xs, _, v, rfl, rfl, sx, e1, q v r⟩))
  all_goals first
    | (obtain ⟨r, e1, e2⟩ := bind_ok h
       cases r with
       | none => cases e2
       | some z' =>
         cases e2
         obtain ⟨a, rfl, ⟨o, g1, _, g2, _⟩ | ⟨ep, xs, k, g1, g2, _, g3, _⟩⟩ := dget_ok hx (Rep.of_dget hy e1) e1
         · obtain ⟨v, rfl, rv⟩ := g2 _ rfl
           exact .inl (.inr ⟨a, v, rfl, g1, q v rv⟩)
         · obtain ⟨v, e3, rv⟩ := g3 _ rfl
           exact .inr ⟨a, ep, xs, k, v, rfl, g1, g2, e3, q v rv⟩)
    | cases h

/-! ### a[lo:hi] -/
def rSlc (K : PySem.W.Frag) : V → Option Int → Option Int → Hp → VK → Prop := fun x lo hi H Q => rSlA K x lo hi H Q ∨ rSlL K x lo hi H Q
theorem sl_slc {X : Cx} : SlR X (rSlc X.K) := SlR.or sl_tupA sl_list
theorem slc_ok {wd : World} {K : PySem.W.Frag} {H : Hp} {A : Av} {x : V} {d z : D} {lo hi : Option Int} {Q : VK} (t : Trk H A) (hx : RepB wd K H A x d) (h : slcD d lo hi = .ok z)
    (q : ∀ v H', Ext H H' → New wd K H A v z H' → Q v H') : rSlc K x lo hi H Q := by
  have cutR : ∀ {ds : List D} {xs : List V}, Reps wd K H A xs ds → Reps wd K H A (cutV xs lo hi) (cut ds lo hi) := fun {ds xs} r => by
    unfold cutV cut
    rw [r.length]
    exact (r.drop _).take _
  unfold slcD at h
  split at h
  · cases h
    obtain ⟨a, xs, rfl, sx, rx⟩ := hx.tup
    refine .inl ⟨a, xs, rfl, sx, fun e => ?_, fun _ p hp => q _ _ (Ext.upd hp) (.tup t hp (cutR rx))⟩
    refine q _ _ .refl (.of ?_ rfl)
    rename_i ds
    have e3 : cut ds lo hi = ds := by
      unfold cut
      rw [rx.length] at e
      rw [e.1, e.2, List.drop_zero, Nat.sub_zero, List.take_length]
    rw [e3]
    exact hx.tupR
  · cases h
    obtain ⟨a, xs, rfl, sx, rx⟩ := hx.lst
    exact .inr ⟨a, xs, rfl, SqL.of sx, fun p hp => q _ _ (Ext.upd hp) (.lst t hp (cutR rx))⟩
  · cases h
end Ev

set_option linter.all false
set_option autoImplicit false
set_option maxRecDepth 100000
set_option maxHeartbeats 4000000
/-! sorted([()]). -/
namespace PySem.W
open PySem PySem.Spec PySem.Calls PyProof.Rows SeqAt
section
variable {prog : Program} {w : World} {A : Around} {E : Value → Shared → Prop} {s : Shared}
theorem SortsAt.unit {vs : List Value} (e : EachIs (fun v d => ∃ as, Reads s.heap v d as) vs [.tuple []]) (hu : A.units + 5 < cLine) : SortsAt prog w A s (dataKind s.heap [.tuple []]) vs := by
  have hal : AllAlike [PyData.tuple []] := fun d hd d' hd' => by
    rw [List.mem_singleton] at hd hd'
    subst hd; subst hd'; rfl
  refine ⟨fun v hv => ?_, tuples' false, ?_, fun h2 => ?_⟩
  · obtain ⟨d, hd, as, r⟩ := e.left v hv
    exact ⟨_, dataKind_some hal hd r⟩
  · intro E x y a b Q ha hb hq
    obtain ⟨d, as, hd, ra, rfl⟩ := dataKind_inv ha
    obtain ⟨d', as', hd', rb, rfl⟩ := dataKind_inv hb
    rw [List.mem_singleton] at hd hd'
    subst hd; subst hd'
    have hq' : Q (dataLt (.tuple []) (.tuple [])) s := hq
    rw [dataLt_tuple] at hq'
    cases ra with
    | @tuple l o xs n _ _ h1 h2 h3 h4 =>
      cases rb with
      | @tuple l' o' xs' n' _ _ k1 k2 k3 k4 =>
        have n1 : xs.size = 0 := by simpa using SeqAt.ReadsAll.length _ _ _ h4
        have n2 : xs'.size = 0 := by simpa using SeqAt.ReadsAll.length _ _ _ k4
        have hr : A.units + min (PyData.depthAll []) (PyData.depthAll []) < cLine := by
          have : PyData.depthAll [] = 0 := rfl
          omega
        exact kat_lt h1 h3 k1 k3 (katLex_alike [] [] 0 _ _ _ _ h4 k4 rfl hr (fun hb _ x r t ex => by cases ex) (by rw [n1, n2]; rfl) hq')
  · have := e.length
    simp at this
    exact absurd h2 (by omega)
theorem sorted_unit {β : Type} {R : Value → β → Prop} {enc : β → PyData} {vs : List Value} {bs : List β} {l : Addr} {Q : Value → Shared → Prop} (hl : s.heap.IsList l vs.toArray) (e : EachIs R vs bs) (er : EachIs (fun v b => ∃ as, Reads s.heap v (enc b) as) vs bs) (hb : bs.map enc = [.tuple []]) (hu : A.units + 20 < cLine)
    (h : ∀ out, out.length = bs.length → EachIs R out (bs.mergeSort (dataLe false enc)) → Q (.ref (s.heap.objs.size + 1)) { s with heap := sortedAll s.heap vs (List.toArray out) }) :
    wpAny (model prog w) A (call (.builtin "sorted") [.ref l]) Q E s := by
  have hal : AllAlike (bs.map enc) := fun d hd d' hd' => by
    rw [hb, List.mem_singleton] at hd hd'
    subst hd; subst hd'; rfl
  have hL : bs.length = 1 := by
    have := congrArg List.length hb
    simpa using this
  have er' : EachIs (fun v b => ∃ as, Reads (sortingHeap (copyHeap s.heap vs) (s.heap.objs.size + 1) vs) v (enc b) as) vs bs := er.mono fun _ _ ⟨as, r⟩ => ⟨as, PyProof.Rows.Reads.keeps (fun _ _ => sorting_copy_old) r⟩
  have em := each_map (R := fun v d => ∃ as, Reads (sortingHeap (copyHeap s.heap vs) (s.heap.objs.size + 1) vs) v d as) enc er'
  rw [hb] at em
  have sa := SortsAt.unit (prog := prog) (w := w) (A := A.in1.in1) (s := { s with heap := sortingHeap (copyHeap s.heap vs) (s.heap.objs.size + 1) vs }) em (by
    have h1 : A.in1.in1.units = A.units + 2 := rfl
    omega)
  rw [← hb] at sa
  exact sorted_vals hl sa (by rw [e.length, hL]; decide) (h _ (by rw [sortVals_length false rfl]; exact e.length) (sortVals_data false e er' hal))
end
end PySem.W

set_option linter.all false
set_option autoImplicit false
set_option maxRecDepth 100000
/-! Built-in functions and classes that are called. -/
namespace Ev
open PySem PySem.Spec PyProof.Rows L2

/-! ### sorted -/
theorem pys_map {ds : List D} {zs : List PyData} (h : pys ds = some zs) : zs = ds.map pyD := by
  induction ds generalizing zs with
  | nil => cases h; rfl
  | cons d ds ih =>
    unfold pys at h
    cases h1 : py d with
    | none => rw [h1] at h; cases h
    | some a =>
      cases h2 : pys ds with
      | none => rw [h1, h2] at h; cases h
      | some b =>
        rw [h1, h2] at h
        cases h
        rw [List.map_cons, ← ih h2]
        simp [pyD, h1]
theorem pys_mem {ds : List D} {zs : List PyData} (h : pys ds = some zs) : ∀ d ∈ ds, py d = some (pyD d) := by
  induction ds generalizing zs with
  | nil => intro d hd; cases hd
  | cons e ds ih =>
    unfold pys at h
    cases h1 : py e with
    | none => rw [h1] at h; cases h
    | some a =>
      cases h2 : pys ds with
      | none => rw [h1, h2] at h; cases h
      | some b =>
        intro d hd
        rcases List.mem_cons.mp hd with rfl | hd
        · simp [pyD, h1]
        · exact ih h2 d hd
def rSortD (wd : World) (K : PySem.W.Frag) : List V → Hp → VK → Prop := fun vs H Q => ∃ (a : Addr) (xs : List V) (ds : List D) (zs : List PyData) (A : Av), vs = [V.ref a] ∧ SqL K H a xs ∧ Reps wd K H A xs ds ∧ pys ds = some zs ∧ sortOk zs = true ∧ ds.length ≤ lineSz ∧
  ∀ (p : Addr) (ys : List V), H p = none → Reps wd K H A ys (sortD ds) → Q (.ref p) (upd H p (.lst ys))
section
variable {X : Cx}
theorem each_of {wd : World} {K : PySem.W.Frag} {H : Hp} {A : Av} : ∀ {xs : List V} {ds : List D} {us : List Value}, Reps wd K H A xs ds → Vals xs us → PySem.W.EachIs (fun (u : Value) (d : D) => ∃ x, RelV x u ∧ Rep wd K H A x d) us ds
  | _, _, _, .nil, .nil => .nil
  | _, _, _, .cons r t, .cons v w => .cons ⟨_, v, r⟩ (each_of t w)
theorem of_each {wd : World} {K : PySem.W.Frag} {H : Hp} {A : Av} : ∀ {us : List Value} {ds : List D}, PySem.W.EachIs (fun (u : Value) (d : D) => ∃ x, RelV x u ∧ Rep wd K H A x d) us ds → ∃ xs, Vals xs us ∧ Reps wd K H A xs ds
  | _, _, .nil => ⟨[], .nil, .nil⟩
  | _, _, .cons ⟨x, v, r⟩ t => by
    obtain ⟨xs, w, q⟩ := of_each t
    exact ⟨x :: xs, .cons v w, .cons r q⟩
theorem call_sortD (hu : X.A.units + 80 < cLine) : CallR X (.builtin "sorted") (rSortD X.w X.K) := by
  intro pins s σ H vs us Q I r h
  obtain ⟨a, xs, ds, zs, A, rfl, hs, rd, e, ok, hl, q⟩ := h
  obtain ⟨its, rv, hp, hlen⟩ := I.list hs
  obtain ⟨u, rfl, ru⟩ := vals1 r
  cases ru
  simp only [sortOk, Bool.and_eq_true, List.all_eq_true, Bool.or_eq_true] at ok
  obtain ⟨⟨ok1, ok2⟩, ok3⟩ := ok
  have ez := pys_map e
  have E := each_of rd rv
  have er : PySem.W.EachIs (fun v b => ∃ as, Reads s.heap v (pyD b) as) its ds := by
    refine (PySem.W.each_mem E).mono fun v b h => ?_
    obtain ⟨⟨x, rx, rp⟩, hb⟩ := h
    exact Dp.reads I (pyD b) x v (RepB.dp (.inl rp) (pys_mem e b hb)) rx
  have hal : PySem.W.AllAlike (ds.map pyD) := by
    intro d hd d' hd'
    rw [← ez] at hd hd'
    exact ok1 d hd d' hd'
  have fin : ∀ out : List Value, out.length = ds.length → PySem.W.EachIs (fun (u : Value) (d : D) => ∃ x, RelV x u ∧ Rep X.w X.K H A x d) out (ds.mergeSort (PySem.W.dataLe false pyD)) → EP X pins σ Q (.ref (s.heap.objs.size + 1)) { s with heap := sortedAll s.heap its (List.toArray out) } := fun out ho ho2 => by
    obtain ⟨ys, rys, rps⟩ := of_each ho2
    obtain ⟨ep, he'⟩ := PyProof.Rows.sortedAll_at s.heap its out.toArray
    have hln : ys.length ≤ sizeLine := by rw [rys.length, ho, ← lineSz_eq]; exact hl
    exact ⟨.ref _, upd H (s.heap.objs.size + 1) (.lst ys), I.laid (t' := s.toks) (fun _ _ => PyProof.Rows.sortedAll_old) (Nat.le_succ _) ⟨hln, out, ep, rys, he'⟩, rfl, q _ ys (I.hok.fresh (Nat.le_succ _)) rps⟩
  rcases ok2 with ok2 | ok2
  · have hk : PySem.W.Sortable (ds.map pyD) := by
      rw [← ez]
      rcases ok2 with h | h
      · refine .inl fun d hd => ?_
        have := h d hd
        unfold neTup at this
        split at this
        · exact ⟨_, _, rfl⟩
        · cases this
      · refine .inr fun d hd => ?_
        have := h d hd
        unfold noTup at this
        split at this
        · cases this
        · cases this
        · rename_i n1 n2
          exact ⟨n1, fun xs z => n2 xs z⟩
    refine PySem.W.sorted_data hp.isList E er hal hk (by rw [← lineSz_eq]; exact hl) (fun b hb => ?_) fin
    have := ok3 (pyD b) (by rw [ez]; exact List.mem_map.mpr ⟨b, hb, rfl⟩)
    have h64 := SeqAt.depth_of_shaped this
    omega
  · have hb : ds.map pyD = [.tuple []] := by
      rw [← ez]
      unfold isUnit at ok2
      split at ok2
      · rfl
      · cases ok2
    exact PySem.W.sorted_unit hp.isList E er hb (by omega) fin
end

/-! ### the table of built-ins -/
def biName : Bi → Str
  | .len => "len"
  | .tuple => "tuple"
  | .list => "list"
  | .int => "int"
  | .max => "max"
  | .min => "min"
  | .sum => "sum"
  | .sorted => "sorted"
def biVal : Bi → Value
  | .len => .builtin "len"
  | .tuple => .type "tuple"
  | .list => .type "list"
  | .int => .type "int"
  | .max => .builtin "max"
  | .min => .builtin "min"
  | .sum => .builtin "sum"
  | .sorted => .builtin "sorted"
theorem bi_boot : ∀ b : Bi, bootBuiltins (biName b) = some (biVal b)
  | .len => PySem.boot_len
  | .tuple => PyProof.Rows.boot_tuple
  | .list => PyProof.Rows.boot_list
  | .int => PyProof.Rows.boot_int
  | .max => PyProof.Rows.boot_max
  | .min => by decide +kernel
  | .sum => PyProof.Rows.boot_sum
  | .sorted => PyProof.Rows.boot_sorted
def rBi (wd : World) (K : PySem.W.Frag) : Bi → List V → Hp → VK → Prop
  | .len => fun xs H Q => (∃ x n, xs = [x] ∧ LenV K x H n ∧ Q (.int n) H) ∨ ∃ p ep ys, xs = [V.ref p] ∧ DAt wd K H p ep ys ∧ Q (.int ((ys.length : Nat) : Int)) H
  | .tuple => fun xs H Q => ∃ p ys, xs = [.ref p] ∧ ((SqL K H p ys ∧ ∀ l, H l = none → Q (.ref l) (upd H l (.tup ys))) ∨ (SqT K H p ys ∧ Q (.ref p) H))
  | .list => fun xs H Q => (∃ p ys, xs = [.ref p] ∧ (SqL K H p ys ∨ SqT K H p ys) ∧ ∀ l, H l = none → Q (.ref l) (upd H l (.lst ys))) ∨
    (∃ (a : Addr) (kvs : List (L2.Key × V)), xs = [.ref a] ∧ Rd H a (.dK kvs) ∧ ∀ p, H p = none → Q (.ref p) (upd H p (.lst (kvs.map fun kv => kV kv.1)))) ∨
    (∃ d ep ys, xs = [V.ref d] ∧ H d = some (dctO wd d ep ys) ∧ ∀ p, H p = none → Q (.ref p) (upd H p (.lst (dRefs ys))))
  | .int => fun xs H Q => (∃ i, xs = [.int i] ∧ Q (.int i) H) ∨ ∃ k, xs = [.bl k] ∧ Q (.int (if k then 1 else 0)) H
  | .max => fun xs H Q => (∃ i j, xs = [.int i, .int j] ∧ Q (.int (if j > i then j else i)) H) ∨ rMax K xs H Q
  | .min => fun xs H Q => (∃ i j, xs = [.int i, .int j] ∧ Q (.int (if j < i then j else i)) H) ∨ rMin K xs H Q
  | .sum => rSum K
  | .sorted => rSortD wd K
theorem CallR.or {X : Cx} {f : Value} {r r' : List V → Hp → VK → Prop} (h : CallR X f r) (h' : CallR X f r') : CallR X f (fun xs H Q => r xs H Q ∨ r' xs H Q) := by
  intro pins s σ H xs us Q I rx q
  rcases q with q | q
  · exact h pins s σ H xs us Q I rx q
  · exact h' pins s σ H xs us Q I rx q
theorem call_bi {X : Cx} (hc : X.calm = true) (hu : X.A.units + 80 < cLine) : ∀ b : Bi, CallR X (biVal b) (rBi X.w X.K b)
  | .len => CallR.or call_len call_lenN
  | .tuple => call_tuple_of
  | .list => CallR.or call_list_of (CallR.or (call_listD hc) (call_listN hc))
  | .int => call_int1
  | .max => CallR.or (call_max2 hc) (cr_max hc)
  | .min => CallR.or (call_min2 hc) (cr_min hc)
  | .sum => cr_sum hc
  | .sorted => call_sortD hu

section
variable {wd : World} {K : PySem.W.Frag} {H : Hp} {A : Av} {xs : List V} {ds : List D} {b : Bi} {z : D} {Q : VK}
theorem intsOf_map : ∀ {ds : List D} {is : List Int}, intsOf ds = some is → ds = is.map .int
  | [], _, h => by cases h; rfl
  | d :: ds, is, h => by
    cases d with
    | int i =>
      unfold intsOf at h
      cases h1 : intsOf ds with
      | none => rw [h1] at h; cases h
      | some js =>
        rw [h1] at h
        cases h
        rw [List.map_cons, intsOf_map h1]
    | _ => cases h
theorem Reps.ints : ∀ {xs : List V} {is : List Int}, Reps wd K H A xs (is.map .int) → xs = is.map V.int
  | _, [], .nil => rfl
  | _, i :: is, .cons r t => by
    cases r
    rw [List.map_cons, Reps.ints t]
theorem maxI_ge : ∀ (l : List Int) (m : Int), m ≤ maxI m l ∧ (∀ y ∈ l, y ≤ maxI m l) ∧ (maxI m l = m ∨ maxI m l ∈ l)
  | [], m => ⟨Int.le_refl _, fun y h => (by cases h), .inl rfl⟩
  | x :: l, m => by
    unfold maxI
    by_cases hc : x > m
    · obtain ⟨h1, h2, h3⟩ := maxI_ge l x
      rw [if_pos hc]
      refine ⟨by omega, fun y hy => ?_, ?_⟩
      · rcases List.mem_cons.mp hy with rfl | hy
        · exact h1
        · exact h2 y hy
      · rcases h3 with h3 | h3
        · rw [h3]; exact .inr List.mem_cons_self
        · exact .inr (List.mem_cons_of_mem _ h3)
    · obtain ⟨h1, h2, h3⟩ := maxI_ge l m
      rw [if_neg hc]
      refine ⟨h1, fun y hy => ?_, ?_⟩
      · rcases List.mem_cons.mp hy with rfl | hy
        · omega
        · exact h2 y hy
      · rcases h3 with h3 | h3
        · exact .inl h3
        · exact .inr (List.mem_cons_of_mem _ h3)
theorem minI_le : ∀ (l : List Int) (m : Int), minI m l ≤ m ∧ (∀ y ∈ l, minI m l ≤ y) ∧ (minI m l = m ∨ minI m l ∈ l)
  | [], m => ⟨Int.le_refl _, fun y h => (by cases h), .inl rfl⟩
  | x :: l, m => by
    unfold minI
    by_cases hc : x < m
    · obtain ⟨h1, h2, h3⟩ := minI_le l x
      rw [if_pos hc]
      refine ⟨by omega, fun y hy => ?_, ?_⟩
      · rcases List.mem_cons.mp hy with rfl | hy
        · exact h1
        · exact h2 y hy
      · rcases h3 with h3 | h3
        · rw [h3]; exact .inr List.mem_cons_self
        · exact .inr (List.mem_cons_of_mem _ h3)
    · obtain ⟨h1, h2, h3⟩ := minI_le l m
      rw [if_neg hc]
      refine ⟨h1, fun y hy => ?_, ?_⟩
      · rcases List.mem_cons.mp hy with rfl | hy
        · omega
        · exact h2 y hy
      · rcases h3 with h3 | h3
        · exact .inl h3
        · exact .inr (List.mem_cons_of_mem _ h3)
/-- values, or roots of own names -/
def RepBs (wd : World) (K : PySem.W.Frag) (H : Hp) (A : Av) : List V → List D → Prop := Paired (RepB wd K H A)
theorem RepBs.one {d : D} (h : RepBs wd K H A xs [d]) : ∃ x, xs = [x] ∧ RepB wd K H A x d := by
  cases h with
  | cons r t => cases t; exact ⟨_, rfl, r⟩
theorem RepBs.two {d e : D} (h : RepBs wd K H A xs [d, e]) : ∃ x y, xs = [x, y] ∧ RepB wd K H A x d ∧ RepB wd K H A y e := by
  cases h with
  | cons r t =>
    obtain ⟨y, rfl, q⟩ := RepBs.one t
    exact ⟨_, y, rfl, r, q⟩
theorem bi_ok (t : Trk H A) (hx : RepBs wd K H A xs ds) (h : biD b ds = .ok z) (q : ∀ v H', Ext H H' → New wd K H A v z H' → Q v H') : rBi wd K b xs H Q := by
  have qi : ∀ i : Int, z = .int i → Q (.int i) H := fun i e => q _ _ .refl (by rw [e]; exact .of (.int _) rfl)
  unfold biD at h
  split at h
  · cases h
    obtain ⟨x, rfl, r⟩ := hx.one
    obtain ⟨a, ys, rfl, s, ry⟩ := r.tup
    exact .inl ⟨_, ys.length, rfl, .inr ⟨ys, s, rfl⟩, by rw [ry.length]; exact qi _ rfl⟩
  · cases h
    obtain ⟨x, rfl, r⟩ := hx.one
    obtain ⟨a, ys, rfl, s, ry⟩ := r.lst
    exact .inl ⟨_, ys.length, rfl, .inl ⟨ys, SqL.of s, rfl⟩, by rw [ry.length]; exact qi _ rfl⟩
  · cases h
    obtain ⟨x, rfl, r⟩ := hx.one
    obtain ⟨a, ys, rfl, s, ry⟩ := r.scr
    exact .inl ⟨_, ys.length, rfl, .inl ⟨ys, s, rfl⟩, by rw [ry.length]; exact qi _ rfl⟩
  · cases h
    obtain ⟨x, rfl, r⟩ := hx.one
    obtain ⟨a, ep, ys, rfl, e1, r1, r2, q2⟩ := r.dN
    have hl := congrArg List.length q2
    simp only [List.length_map] at hl
    exact .inr ⟨a, ep, ys, rfl, ⟨e1, A, _, r1, by rw [List.map_map]; exact q2⟩, by rw [← hl]; exact qi _ rfl⟩
  · split at h
    · rename_i hz
      cases h
      obtain ⟨x, rfl, r⟩ := hx.one
      rw [r.str]
      exact .inl ⟨_, _, rfl, ⟨by rw [← lineSz_eq]; exact hz, rfl⟩, qi _ rfl⟩
    · cases h
  · cases h
    obtain ⟨x, rfl, r⟩ := hx.one
    obtain ⟨a, ys, rfl, s, ry⟩ := r.tup
    exact ⟨a, ys, rfl, .inr ⟨s, q _ _ .refl (.of r.tupR rfl)⟩⟩
  · cases h
    obtain ⟨x, rfl, r⟩ := hx.one
    obtain ⟨a, ys, rfl, s, ry⟩ := r.lst
    exact ⟨a, ys, rfl, .inl ⟨SqL.of s, fun l hl => q _ _ (Ext.upd hl) (.tup t hl ry)⟩⟩
  · cases h
    obtain ⟨x, rfl, r⟩ := hx.one
    obtain ⟨a, ys, rfl, s, ry⟩ := r.scr
    exact ⟨a, ys, rfl, .inl ⟨s, fun l hl => q _ _ (Ext.upd hl) (.tup t hl ry)⟩⟩
  · cases h
    obtain ⟨x, rfl, r⟩ := hx.one
    obtain ⟨a, ys, rfl, s, ry⟩ := r.tup
    exact .inl ⟨a, ys, rfl, .inr s, fun l hl => q _ _ (Ext.upd hl) (.lst t hl ry)⟩
  · cases h
    obtain ⟨x, rfl, r⟩ := hx.one
    obtain ⟨a, ys, rfl, s, ry⟩ := r.lst
    exact .inl ⟨a, ys, rfl, .inl (SqL.of s), fun l hl => q _ _ (Ext.upd hl) (.lst t hl ry)⟩
  · cases h
    obtain ⟨x, rfl, r⟩ := hx.one
    obtain ⟨a, ys, rfl, s, ry⟩ := r.scr
    exact .inl ⟨a, ys, rfl, .inl s, fun l hl => q _ _ (Ext.upd hl) (.lst t hl ry)⟩
  · cases h
    obtain ⟨x, rfl, r⟩ := hx.one
    obtain ⟨a, ep, ys, rfl, e1, r1, r2, q2⟩ := r.dN
    exact .inr (.inr ⟨a, ep, ys, rfl, e1, fun l hl => q _ _ (Ext.upd hl) (.lst t hl r1)⟩)
  · cases h
    obtain ⟨x, rfl, r⟩ := hx.one
    obtain ⟨a, kv2, rfl, e1, q2, r2⟩ := r.dK
    rename_i kvs
    have hk : ∀ {kv2 : List (L2.Key × V)} {kvs : List (L2.Key × D)}, kv2.map (·.1) = kvs.map (·.1) → Reps wd K H A (kv2.map fun kv => kV kv.1) (kvs.map fun kv => dOfKey kv.1) := by
      intro kv2
      induction kv2 with
      | nil => intro kvs e; cases kvs with
        | nil => exact .nil
        | cons => cases e
      | cons x xs ih => intro kvs e; cases kvs with
        | nil => cases e
        | cons y ys =>
          simp only [List.map_cons, List.cons.injEq] at e
          refine .cons ?_ (ih e.2)
          show Rep wd K H A (kV x.1) (dOfKey y.1)
          rw [← e.1]
          cases x.1 with
          | inl i => exact .int i
          | inr z => exact .str z
    exact .inr (.inl ⟨a, kv2, rfl, .inl e1, fun l hl => q _ _ (Ext.upd hl) (.lst t hl (hk q2))⟩)
  · cases h
    obtain ⟨x, rfl, r⟩ := hx.one
    rw [r.int]
    exact .inl ⟨_, rfl, qi _ rfl⟩
  · cases h
    obtain ⟨x, rfl, r⟩ := hx.one
    rw [r.bl]
    exact .inr ⟨_, rfl, qi _ rfl⟩
  · cases h
    obtain ⟨x, y, rfl, r, r2⟩ := hx.two
    rw [r.int, r2.int]
    exact .inl ⟨_, _, rfl, qi _ rfl⟩
  · cases h
    obtain ⟨x, y, rfl, r, r2⟩ := hx.two
    rw [r.int, r2.int]
    exact .inl ⟨_, _, rfl, qi _ rfl⟩
  · split at h
    · rename_i is e
      cases h
      obtain ⟨x, rfl, r⟩ := hx.one
      rw [intsOf_map e] at r
      obtain ⟨a, ys, rfl, s, ry⟩ := r.lst
      rw [ry.ints] at s
      exact ⟨a, is, rfl, SqL.of s, qi _ rfl⟩
    · cases h
  · split at h
    · rename_i i is e
      cases h
      obtain ⟨x, rfl, r⟩ := hx.one
      rw [intsOf_map e] at r
      obtain ⟨a, ys, rfl, s, ry⟩ := r.lst
      rw [ry.ints] at s
      refine .inr ⟨a, i :: is, rfl, SqL.of s, Nat.succ_pos _, fun m hm hy => ?_⟩
      obtain ⟨h1, h2, h3⟩ := maxI_ge is i
      have e1 : m = maxI i is := by
        have a1 : m ≤ maxI i is := by
          rcases List.mem_cons.mp hm with rfl | hm
          · exact h1
          · exact h2 m hm
        have a2 : maxI i is ≤ m := by
          rcases h3 with h3 | h3
          · rw [h3]; exact hy _ List.mem_cons_self
          · exact hy _ (List.mem_cons_of_mem _ h3)
        omega
      rw [e1]
      exact qi _ rfl
    · cases h
  · split at h
    · rename_i i is e
      cases h
      obtain ⟨x, rfl, r⟩ := hx.one
      rw [intsOf_map e] at r
      obtain ⟨a, ys, rfl, s, ry⟩ := r.lst
      rw [ry.ints] at s
      refine .inr ⟨a, i :: is, rfl, SqL.of s, Nat.succ_pos _, fun m hm hy => ?_⟩
      obtain ⟨h1, h2, h3⟩ := minI_le is i
      have e1 : m = minI i is := by
        have a1 : minI i is ≤ m := by
          rcases List.mem_cons.mp hm with rfl | hm
          · exact h1
          · exact h2 m hm
        have a2 : m ≤ minI i is := by
          rcases h3 with h3 | h3
          · rw [h3]; exact hy _ List.mem_cons_self
          · exact hy _ (List.mem_cons_of_mem _ h3)
        omega
      rw [e1]
      exact qi _ rfl
    · cases h
  · split at h
    · rename_i zs e
      split at h
      · rename_i ok
        simp only [Bool.and_eq_true, decide_eq_true_eq] at ok
        cases h
        obtain ⟨x, rfl, r⟩ := hx.one
        obtain ⟨a, ys, rfl, s, ry⟩ := r.lst
        exact ⟨a, ys, _, zs, A, rfl, SqL.of s, ry, e, ok.1, ok.2, fun p ws hp rw' => q _ _ (Ext.upd hp) (.lst t hp rw')⟩
      · cases h
    · cases h
  · cases h
end
end Ev

set_option linter.all false
set_option autoImplicit false
set_option maxRecDepth 100000
set_option maxHeartbeats 2000000
/-! Texts against the small language; what a state says of an environment. -/
namespace Ev
open PySem PySem.Spec PyProof.Rows L2

abbrev Sta := L2.St
structure Nm where
  fn : Nat → Option Str
  glob : Nat → Option Str
  sz : Bool := false
  mkr : Nat → Option Str := fun _ => none

/-! ### the look at a text -/
def szB (scope : Scope) (body : List Stmt) : Bool := (match body with
  | [.Return (some (.Tuple [.Call (.Name x _) [.Name y _] [] _, .Name z _] _ _)) _] => decide (x = "len") && decide (y = "quorum") && decide (z = "quorum")
  | _ => false) && (match scope.names.lookup ("quorum" : Str) with
  | some .local => true
  | _ => false) && (match scope.names.lookup ("len" : Str) with
  | some .globalImplicit => true
  | _ => false) && C8.scC ["quorum"] ["quorum"] scope
def visB (sc : Scope) (x : Str) : Bool := match sc.names.lookup x with
  | some .local => true
  | some .cell => true
  | some .free => true
  | _ => false
def glB (sc : Scope) (x : Str) : Bool := match sc.names.lookup x with
  | some .globalImplicit => true
  | _ => false
def plainX : Expr → Bool
  | .Starred _ _ => false
  | .Slice _ _ _ _ => false
  | .Set _ _ _ => false
  | _ => true
def asAtt : Expr → Option (Expr × Str)
  | .Attribute e x _ => some (e, x)
  | _ => none
/-- what may stand ahead of a call of an instance -/
def callee : Expr → Bool
  | .Name _ _ => true
  | .Subscript _ _ _ => true
  | _ => false
def asName : Expr → Option Str
  | .Name x _ => some x
  | _ => none
def asConst : Expr → Option Const
  | .Constant c _ _ => some c
  | _ => none
def asBin : Expr → Option (Expr × Operator × Expr)
  | .BinOp a o b _ => some (a, o, b)
  | _ => none
def asUn : Expr → Option (UnaryOp × Expr)
  | .UnaryOp o a _ => some (o, a)
  | _ => none
def asBool : Expr → Option (BoolOp × List Expr × Pos)
  | .BoolOp o es p => some (o, es, p)
  | _ => none
def asCmp : Expr → Option (Expr × List CmpOp × List Expr)
  | .Compare a o es _ => some (a, o, es)
  | _ => none
def asIf : Expr → Option (Expr × Expr × Expr)
  | .IfExp c a b _ => some (c, a, b)
  | _ => none
def asTup : Expr → Option (List Expr)
  | .Tuple es _ _ => some es
  | _ => none
def asLst : Expr → Option (List Expr)
  | .List es _ => some es
  | _ => none
def asSub : Expr → Option (Expr × Expr)
  | .Subscript a i _ => some (a, i)
  | _ => none
def asSlc : Expr → Option (Option Expr × Option Expr)
  | .Slice lo hi none _ => some (lo, hi)
  | _ => none
def asCall : Expr → Option (Expr × List Expr)
  | .Call f es [] _ => some (f, es)
  | _ => none
def asComp : Expr → Option (Expr × List Comprehension × Scope)
  | .ListComp e gs sc _ => some (e, gs, sc)
  | _ => none
def asDict0 : Expr → Bool
  | .Dict [] [] _ => true
  | _ => false
def asDict1 : Expr → Option (Expr × Expr)
  | .Dict [some k] [v] _ => some (k, v)
  | _ => none
/-- f(e, key=g) -/
def asSortK : Expr → Option (Str × Expr × Str)
  | .Call (.Name f _) [e] [⟨some k, .Name g _, _⟩] _ => if k = "key" then some (f, e, g) else none
  | _ => none
def noCall : Expr → Bool
  | .Call _ _ _ _ => false
  | _ => true
/-- o.name(es): the parts, on one line -/
def asMeth : Expr → Option (Expr × Str × List Expr)
  | .Call (.Attribute o name apos) es [] cpos => if (apos.endLine == cpos.line) && noCall o then some (o, name, es) else none
  | _ => none
section
variable {ex : Expr}
theorem asSortK_some {f g : Str} {e : Expr} (h : asSortK ex = some (f, e, g)) : ∃ p p2 p3 p4, ex = .Call (.Name f p) [e] [⟨some "key", .Name g p2, p3⟩] p4 := by
  unfold asSortK at h
  split at h
  · split at h
    · rename_i hk
      cases h; subst hk; exact ⟨_, _, _, _, rfl⟩
    · cases h
  · cases h
theorem asDict0_some (h : asDict0 ex = true) : ∃ p, ex = .Dict [] [] p := by
  unfold asDict0 at h
  split at h
  · exact ⟨_, rfl⟩
  · cases h
theorem asDict1_some {k v : Expr} (h : asDict1 ex = some (k, v)) : ∃ p, ex = .Dict [some k] [v] p := by
  unfold asDict1 at h
  split at h
  · cases h; exact ⟨_, rfl⟩
  · cases h
theorem asMeth_some {o : Expr} {name : Str} {es : List Expr} (h : asMeth ex = some (o, name, es)) : ∃ apos cpos, ex = .Call (.Attribute o name apos) es [] cpos ∧ (apos.endLine == cpos.line) = true ∧ noCall o = true := by
  unfold asMeth at h
  split at h
  · split at h
    · rename_i hh
      simp only [Bool.and_eq_true] at hh
      cases h; exact ⟨_, _, rfl, hh.1, hh.2⟩
    · cases h
  · cases h
theorem attrBase {o : Expr} {name : Str} {env : PySem.Env} (h : noCall o = true) : attributeBase o name env (eval o env) = eval o env := by
  cases o <;> first | rfl | cases h
theorem asAtt_some {e : Expr} {x : Str} (h : asAtt ex = some (e, x)) : ∃ p, ex = .Attribute e x p := by cases ex <;> simp [asAtt] at h; obtain ⟨rfl, rfl⟩ := h; exact ⟨_, rfl⟩
theorem asName_some {x : Str} (h : asName ex = some x) : ∃ p, ex = .Name x p := by cases ex <;> simp [asName] at h; subst h; exact ⟨_, rfl⟩
theorem asConst_some {c : Const} (h : asConst ex = some c) : ∃ k p, ex = .Constant c k p := by cases ex <;> simp [asConst] at h; subst h; exact ⟨_, _, rfl⟩
theorem asBin_some {a b : Expr} {o : Operator} (h : asBin ex = some (a, o, b)) : ∃ p, ex = .BinOp a o b p := by cases ex <;> simp [asBin] at h; obtain ⟨rfl, rfl, rfl⟩ := h; exact ⟨_, rfl⟩
theorem asUn_some {a : Expr} {o : UnaryOp} (h : asUn ex = some (o, a)) : ∃ p, ex = .UnaryOp o a p := by cases ex <;> simp [asUn] at h; obtain ⟨rfl, rfl⟩ := h; exact ⟨_, rfl⟩
theorem asBool_some {o : BoolOp} {es : List Expr} {p : Pos} (h : asBool ex = some (o, es, p)) : ex = .BoolOp o es p := by cases ex <;> simp [asBool] at h; obtain ⟨rfl, rfl, rfl⟩ := h; rfl
theorem asCmp_some {a : Expr} {o : List CmpOp} {es : List Expr} (h : asCmp ex = some (a, o, es)) : ∃ p, ex = .Compare a o es p := by cases ex <;> simp [asCmp] at h; obtain ⟨rfl, rfl, rfl⟩ := h; exact ⟨_, rfl⟩
theorem asIf_some {c a b : Expr} (h : asIf ex = some (c, a, b)) : ∃ p, ex = .IfExp c a b p := by cases ex <;> simp [asIf] at h; obtain ⟨rfl, rfl, rfl⟩ := h; exact ⟨_, rfl⟩
theorem asTup_some {es : List Expr} (h : asTup ex = some es) : ∃ k p, ex = .Tuple es k p := by cases ex <;> simp [asTup] at h; subst h; exact ⟨_, _, rfl⟩
theorem asLst_some {es : List Expr} (h : asLst ex = some es) : ∃ p, ex = .List es p := by cases ex <;> simp [asLst] at h; subst h; exact ⟨_, rfl⟩
theorem asSub_some {a i : Expr} (h : asSub ex = some (a, i)) : ∃ p, ex = .Subscript a i p := by cases ex <;> simp [asSub] at h; obtain ⟨rfl, rfl⟩ := h; exact ⟨_, rfl⟩
theorem asSlc_some {lo hi : Option Expr} (h : asSlc ex = some (lo, hi)) : ∃ p, ex = .Slice lo hi none p := by
  cases ex with
  | Slice l u st p =>
    cases st with
    | none => simp [asSlc] at h; obtain ⟨rfl, rfl⟩ := h; exact ⟨_, rfl⟩
    | some z => simp [asSlc] at h
  | _ => simp [asSlc] at h
theorem asCall_some {f : Expr} {es : List Expr} (h : asCall ex = some (f, es)) : ∃ p, ex = .Call f es [] p := by
  cases ex with
  | Call g as ks p =>
    cases ks with
    | nil => simp [asCall] at h; obtain ⟨rfl, rfl⟩ := h; exact ⟨_, rfl⟩
    | cons z r => simp [asCall] at h
  | _ => simp [asCall] at h
theorem asComp_some {e : Expr} {gs : List Comprehension} {sc : Scope} (h : asComp ex = some (e, gs, sc)) : ∃ p, ex = .ListComp e gs sc p := by cases ex <;> simp [asComp] at h; obtain ⟨rfl, rfl, rfl⟩ := h; exact ⟨_, rfl⟩
theorem plainIx (h : plainX ex = true) : PlainIx ex := by
  cases ex <;> first | (intro o i; rfl) | cases h
theorem plainStar {es : List Expr} {env : PySem.Env} (h : plainX ex = true) : starEach (ex :: es) env = (false, eval ex env) :: starEach es env := by
  cases ex <;> first | rfl | cases h
theorem plainFold {env : PySem.Env} {x : Value} (h : plainX ex = true) : foldedSetIterable ex env x = pure x := by
  cases ex <;> first | rfl | cases h
theorem plainMark {op : CmpOp} (h : plainX ex = true) : behindInMarks op ex = false := by
  cases ex <;> first | rfl | cases h
theorem vis_of {sc : Scope} {x : Str} (h : visB sc x = true) : Vis sc x := by
  unfold visB at h
  split at h
  · exact .inl ‹_›
  · exact .inr (.inl ‹_›)
  · exact .inr (.inr ‹_›)
  · cases h
theorem gl_of {X : Cx} {sc : Scope} {x : Str} (e : X.env.scope = sc) (h : glB sc x = true) : Gl X x := by
  unfold glB at h
  split at h
  · show X.env.scope.names.lookup x = _
    rw [e]
    assumption
  · cases h
end
def typeName : Ty → Option Str
  | .int => some "int"
  | .bool => some "bool"
  | .tuple => some "tuple"
  | .str => some "str"
  | .list => some "list"
  | .cls _ => none
def nodebug (x : Str) : Bool := !(x == ("__debug__" : Str)) && !(x == ("__classdict__" : Str))
/-- the name x of slot i may be stored in a block -/
def locB (scope sc : Scope) (x : Str) : Bool := match (relS scope sc).names.lookup x with
  | some .local => true
  | some .cell => (match scope.names.lookup x with
    | some .cell => true
    | _ => false)
  | _ => false
mutual
def chkE (G : Nm) (N : List Str) : E → Scope → Expr → Bool
  | .var i, sc, ex => (match asName ex with
    | some x => decide (N[i]? = some x) && visB sc x && nodebug x
    | _ => false)
  | .non, _, ex => (match asConst ex with
    | some .none => true
    | _ => false)
  | .bl b, _, ex => (match asConst ex with
    | some (.bool c) => b == c
    | _ => false)
  | .int i, _, ex => (match asConst ex with
    | some (.int c) => decide (i = c)
    | _ => false)
  | .str i, _, ex => (match asConst ex with
    | some (.str c) => decide (i = c)
    | _ => false)
  | .glob g, sc, ex => (match asName ex with
    | some x => decide (G.glob g = some x) && glB sc x && nodebug x
    | _ => false)
  | .bin o a b, sc, ex => (match asBin ex with
    | some (x, p, y) => decide (p = opOf o) && chkE G N a sc x && chkE G N b sc y
    | _ => false)
  | .neg a, sc, ex => (match asUn ex with
    | some (.USub, x) => chkE G N a sc x
    | _ => false)
  | .not a, sc, ex => (match asUn ex with
    | some (.Not, x) => chkE G N a sc x
    | _ => false)
  | .and a b, sc, ex => (match asBool ex with
    | some (.And, x :: y :: r, p) => chkE G N a sc x && (match r with
      | [] => chkE G N b sc y
      | _ => chkE G N b sc (.BoolOp .And (y :: r) p))
    | _ => false)
  | .or a b, sc, ex => (match asBool ex with
    | some (.Or, x :: y :: r, p) => chkE G N a sc x && (match r with
      | [] => chkE G N b sc y
      | _ => chkE G N b sc (.BoolOp .Or (y :: r) p))
    | _ => false)
  | .cmp o a b, sc, ex => (match asCmp ex with
    | some (x, [p], [y]) => decide (p = cmOf o) && plainX y && chkE G N a sc x && chkE G N b sc y
    | _ => false)
  | .chain o o' a b c, sc, ex => (match asCmp ex with
    | some (x, [p, p'], [y, z]) => decide (p = cmOf o) && decide (p' = cmOf o') && plainX z && chkE G N a sc x && chkE G N b sc y && chkE G N c sc z
    | _ => false)
  | .ife c a b, sc, ex => (match asIf ex with
    | some (z, x, y) => chkE G N c sc z && chkE G N a sc x && chkE G N b sc y
    | _ => false)
  | .tup es, sc, ex => (match asTup ex with
    | some xs => decide (xs.length ≤ 1000) && chkEs G N es sc xs
    | _ => false)
  | .lst es, sc, ex => (match asLst ex with
    | some xs => decide (xs.length ≤ 1000) && chkEs G N es sc xs
    | _ => false)
  | .idx a i, sc, ex => (match asSub ex with
    | some (x, y) => plainX y && chkE G N a sc x && chkE G N i sc y
    | _ => false)
  | .slc a lo hi, sc, ex => (match asSub ex with
    | some (x, y) => (match asSlc y with
      | some (l, h) => chkE G N a sc x && chkO G N lo sc l && chkO G N hi sc h
      | _ => false)
    | _ => false)
  | .call f es, sc, ex => (match asCall ex with
    | some (g, xs) => (match asName g with
      | some x => decide (G.fn f = some x) && glB sc x && nodebug x && !xs.isEmpty && chkEs G N es sc xs
      | _ => false)
    | _ => false)
  | .bi b es, sc, ex => (match asCall ex with
    | some (g, xs) => (match asName g with
      | some x => decide (x = biName b) && glB sc x && !xs.isEmpty && chkEs G N es sc xs
      | _ => false)
    | _ => false)
  | .isi a t, sc, ex => (match asCall ex with
    | some (g, [y, z]) => (match asName g, asName z with
      | some x, some c => decide (x = "isinstance") && glB sc x && glB sc c && decide (typeName t = some c) && plainX y && chkE G N a sc y
      | _, _ => false)
    | _ => false)
  | .comp elt x src cond, sc, ex => (match asComp ex with
    | some (e, [⟨tg, it, ifs, asy⟩], scope) => (match asName tg with
      | some n => decide (asy = 0) && blkC N sc scope [(n, x)] && decide (N[x]? = some n) && locB scope sc n && chkS G N src sc it && chkE G N elt (relS scope sc) e && (match cond, ifs with
        | none, [] => true
        | some c, [i] => chkE G N c (relS scope sc) i
        | _, _ => false)
      | _ => false)
    | _ => false)
  | .sorts e, sc, ex => (match asSortK ex with
    | some (f, y, g) => decide (f = "sorted") && glB sc f && decide (g = "size_order") && glB sc g && G.sz && plainX y && chkE G N e sc y
    | _ => false)
  | .dnew _, _, ex => asDict0 ex
  | .ddisp _ k v, sc, ex => (match asDict1 ex with
    | some (x, y) => chkE G N k sc x && chkE G N v sc y
    | _ => false)
  | .get d k, sc, ex => (match asMeth ex with
    | some (o, name, [y]) => decide (name = "get") && chkE G N d sc o && plainX y && chkE G N k sc y
    | _ => false)
  | .getd d k e, sc, ex => (match asMeth ex with
    | some (o, name, [y, z]) => decide (name = "get") && chkE G N d sc o && plainX y && chkE G N k sc y && plainX z && chkE G N e sc z
    | _ => false)
  | .isc a k, sc, ex => (match asCall ex with
    | some (g, [y, z]) => (match asName g, asName z with
      | some x, some c => decide (x = "isinstance") && glB sc x && glB sc c && nodebug c && decide (k.name = c) && plainX y && chkE G N a sc y
      | _, _ => false)
    | _ => false)
  | .att a x, sc, ex => (match asAtt ex with
    | some (y, z) => decide (z = x) && noCall y && chkE G N a sc y
    | _ => false)
  | .slf x, sc, ex => (match asAtt ex with
    | some (y, z) => decide (z = x) && noCall y && (match asName y with
      | some w => decide (N[0]? = some w) && visB sc w && nodebug w
      | _ => false)
    | _ => false)
  | .new f es, sc, ex => (match asCall ex with
    | some (g, xs) => (match asName g with
      | some x => decide (G.mkr f = some x) && glB sc x && nodebug x && !xs.isEmpty && chkEs G N es sc xs
      | _ => false)
    | _ => false)
  | .cal m a es, sc, ex => (match asCall ex with
    | some (g, xs) => decide (m = "__call__") && callee g && chkE G N a sc g && !xs.isEmpty && chkEs G N es sc xs
    | _ => false)
  | .eqo ne a b, sc, ex => (match asCmp ex with
    | some (x, [p], [y]) => decide (p = .Eq) && plainX y && chkE G N a sc x && chkE G N b sc y
    | _ => false)
  | _, _, _ => false
def chkEs (G : Nm) (N : List Str) : List E → Scope → List Expr → Bool
  | [], _, [] => true
  | e :: es, sc, x :: xs => plainX x && chkE G N e sc x && chkEs G N es sc xs
  | _, _, _ => false
def chkO (G : Nm) (N : List Str) : Option E → Scope → Option Expr → Bool
  | none, _, none => true
  | some e, sc, some x => chkE G N e sc x
  | _, _, _ => false
def chkS (G : Nm) (N : List Str) : Src → Scope → Expr → Bool
  | .rng es, sc, ex => (match asCall ex with
    | some (g, xs) => (match asName g with
      | some x => decide (x = "range") && glB sc x && decide (1 ≤ xs.length ∧ xs.length ≤ 3) && chkEs G N es sc xs
      | _ => false)
    | _ => false)
  | .seq e, sc, ex => plainX ex && chkE G N e sc ex
end

/-! ### a state and an environment -/
/-- what may not be spoken of; the instance that is being made -/
structure Zs where
  z : Av
  self : Option Addr := none
instance : CoeFun Zs (fun _ => Addr → Prop) := ⟨Zs.z⟩
abbrev Zs.add (Z : Zs) (p : Addr) : Zs := ⟨fun b => Z b ∨ b = p, Z.self⟩
def AvO (Z : Zs) (O : Own) (ex : List Nat) : Av := fun b => Z b ∨ ∃ i, i ∉ ex ∧ O i = some b
/-- an instance that is being made: its object and the fields so far -/
def SlfAt (wd : World) (K : PySem.W.Frag) (Z : Zs) (O : Own) (H : Hp) (c : Cl) (fs : List D) (a : Addr) : Prop :=
  Z a ∧ ∃ dx vs, H a = some (.ins (He.ga K c.name) dx (c.flds.zip vs)) ∧ vs.length = fs.length ∧ vs.length ≤ c.flds.length ∧ Reps wd K H (AvO Z O []) vs fs
structure Rl (wd : World) (K : PySem.W.Frag) (Z : Zs) (O : Own) (σ : Sta) (H : Hp) (ρ : Env) : Prop where
  len : σ.length = ρ.length
  val : ∀ (i : Nat) (d : D), ρ[i]? = some (.val d) → ∃ v, σ[i]? = some (some v) ∧ Rep wd K H (AvO Z O []) v d
  own : ∀ (i : Nat) (d : D), ρ[i]? = some (.own d) → ∃ a, O i = some a ∧ σ[i]? = some (some (.ref a)) ∧ Root wd K H (AvO Z O []) a d
  dom : ∀ i a, O i = some a → ∃ d, ρ[i]? = some (.own d)
  inj : ∀ i j a, O i = some a → O j = some a → i = j
  nz : ∀ i a, O i = some a → ¬ Z a
  zt : Trk H Z.z
  slf : ∀ (i : Nat) (c : Cl) (fs : List D), ρ[i]? = some (.slf c fs) → ∃ a, (i = 0 ∧ Z.self = some a) ∧ σ[i]? = some (some (.ref a)) ∧ SlfAt wd K Z O H c fs a
section
variable {wd : World} {K : PySem.W.Frag} {Z : Zs} {O : Own} {σ : Sta} {H H' : Hp} {ρ : Env}
theorem Rl.ext (r : Rl wd K Z O σ H ρ) (e : Ext H H') : Rl wd K Z O σ H' ρ where
  len := r.len
  val := fun i d h => by
    obtain ⟨v, h1, h2⟩ := r.val i d h
    exact ⟨v, h1, h2.ext e⟩
  own := fun i d h => by
    obtain ⟨a, h1, h2, h3⟩ := r.own i d h
    exact ⟨a, h1, h2, h3.to (fun o z => e a o z) fun b o z n => ⟨e b o z, n⟩⟩
  dom := r.dom
  inj := r.inj
  nz := r.nz
  zt := r.zt.ext e
  slf := fun i c fs h => by
    obtain ⟨a, h1, h2, h3, dx, vs, h4, h5, h6, h7⟩ := r.slf i c fs h
    exact ⟨a, h1, h2, h3, dx, vs, e _ _ h4, h5, h6, h7.ext e⟩
theorem AvO.mono {ex ex' : List Nat} (h : ∀ i ∈ ex, i ∈ ex') : ∀ b, AvO Z O ex' b → AvO Z O ex b := fun b z => by
  rcases z with z | ⟨i, n, e⟩
  · exact .inl z
  · exact .inr ⟨i, fun q => n (h i q), e⟩
theorem AvO.all {ex : List Nat} : ∀ b, AvO Z O ex b → AvO Z O [] b := AvO.mono fun _ h => nomatch h
theorem Rl.trk (r : Rl wd K Z O σ H ρ) (ex : List Nat) : Trk H (AvO Z O ex) := fun b z => by
  rcases z with z | ⟨i, _, e⟩
  · exact r.zt b z
  · obtain ⟨d, h⟩ := r.dom i b e
    obtain ⟨a, h1, _, h3⟩ := r.own i d h
    rw [e] at h1; cases h1
    exact h3.some
/-- where none of the names owns, nothing is lifted -/
theorem Rl.noOwn (r : Rl wd K Z O σ H ρ) {ex : List Nat} (h : anyOwn ex ρ = false) : ∀ b, AvO Z O [] b → AvO Z O ex b := fun b z => by
  rcases z with z | ⟨i, _, e⟩
  · exact .inl z
  · refine .inr ⟨i, fun hi => ?_, e⟩
    obtain ⟨d, q⟩ := r.dom i b e
    have : anyOwn ex ρ = true := by
      unfold anyOwn
      rw [List.any_eq_true]
      exact ⟨i, hi, by rw [q]⟩
    rw [h] at this
    cases this
end
def WpR {α : Type} (m : R α) (q : α → Prop) (x : Cl → List D → Prop) : Prop := match m with
  | .ok a => q a
  | .exc c fs => x c fs
  | .bad => False
theorem WpR.bind {α β : Type} {m : R α} {k : α → R β} {q : β → Prop} {x : Cl → List D → Prop} (h : WpR (m >>= k) q x) : WpR m (fun a => WpR (k a) q x) x := by
  cases m <;> exact h
theorem WpR.mono {α : Type} {m : R α} {q q' : α → Prop} {x x' : Cl → List D → Prop} (h : WpR m q x) (hq : ∀ a, m = .ok a → q a → q' a) (hx : ∀ c fs, x c fs → x' c fs) : WpR m q' x' := by
  cases m with
  | ok a => exact hq a rfl h
  | exc c fs => exact hx c fs h
  | bad => exact h
/-- an exception as it lies -/
def Exr (wd : World) (K : PySem.W.Frag) (A : Av) (c : Cl) (fs : List D) (cls : Value) (dd : Option Addr) (H : Hp) : Prop := False
end Ev

set_option linter.all false
set_option autoImplicit false
set_option maxRecDepth 100000
set_option maxHeartbeats 4000000
/-! Expressions: what the evaluator tells is what the model does. -/
namespace Ev
open PySem PySem.Spec PyProof.Rows L2

section
variable (T : Tab)
def npOf (f : Nat) : Nat := match T.fn f with
  | some fn => fn.np
  | none => 0
def frOf (f : Nat) : Bool := match T.fn f with
  | some fn => fn.fr
  | none => false
def spF (n f : Nat) (wd : World) (K : PySem.W.Frag) : Sp := fun vs H Q E => vs.length = npOf T f ∧ ∃ (ds : List D) (A : Av), Trk H A ∧ Reps wd K H A vs ds ∧
  WpR (ev T n f ds) (fun d => ∀ v H', Ext H H' → Rep wd K H' A v d → (frOf T f = true → ∃ p, v = .ref p ∧ H p = none ∧ Root wd K H' (fun b => A b ∨ b = p) p d) → Q v H')
    (fun c fs => ∀ cls dd H', Ext H H' → Exr wd K A c fs cls dd H' → E cls dd H')
variable (G : Nm)
def Fns (n : Nat) (P : Program) (wd : World) (K : PySem.W.Frag) (mg : Str → Option Value) (base : Heap) : Prop :=
  ∀ f x, G.fn f = some x → ∃ (a : Addr) (fd : FuncData) (ps : List Str), mg x = some (.ref a) ∧ PySem.W.keepIn K (.ref a) = true ∧ Binds K fd ps [] ∧ FnOk P wd K mg base (L2.CX P wd) (4 * n) a fd ps (spF T n f wd K)
def bltNames : List Str := ["len", "tuple", "list", "int", "max", "min", "sum", "sorted", "range", "isinstance", "bool", "str"]
/-- what is known of a class of the module -/
structure ClsOk (K : PySem.W.Frag) (mg : Str → Option Value) (c : Cl) : Prop where
  cl : L2.Cls K (He.ga K c.name)
  na : ∀ x ∈ c.flds, NoAttr K (He.ga K c.name) x
  ca : PySem.W.findIn K (.ref (He.ga K c.name)) "__class__" = some (some (.builtin "object.__class__"))
  cn : PySem.W.specialIn K (.builtin "object.__class__") "__get__" = some (some (.builtin "getset_descriptor.__get__"))
  ct : PySem.W.takesIn K (.builtin "object.__class__") = some true
  cm : PySem.W.mroIn K (He.ga K c.name) (.type "object") = some true
  gl : mg c.name = some (.ref (He.ga K c.name))
  pl : ∀ t ∈ ["NoneType", "bool", "int", "str", "tuple", "list"], PySem.W.kitOne K (.type t) (.ref (He.ga K c.name)) = some false
structure MetOk (P : Program) (wd : World) (K : PySem.W.Frag) (mg : Str → Option Value) (base : Heap) (c : Cl) (m : Str) (n f : Nat) : Prop where
  ex : ∃ (a : Addr) (fd : FuncData) (ps : List Str), PySem.W.findIn K (.ref (He.ga K c.name)) m = some (some (.ref a)) ∧ PySem.W.isFn K (.ref a) = true ∧ PySem.W.keepIn K (.ref a) = true ∧ PySem.W.fnIn K a = true ∧ Binds K fd ps [] ∧
    FnOk P wd K mg base (L2.CX P wd) (4 * n) a fd ps (spF T n f wd K)
/-- a new instance: what its __init__ does -/
def spI (n f : Nat) (wd : World) (K : PySem.W.Frag) : Sp := fun vs H Q _ => ∃ (x dx : Addr) (ws : List V) (c : Cl) (fn : Fn) (ds : List D) (A : Av), vs = .ref x :: ws ∧ T.fn f = some fn ∧ fn.ini = some c ∧ ws.length = fn.np ∧
  H x = some (.ins (He.ga K c.name) dx []) ∧ Trk H A ∧ ¬ A x ∧ Reps wd K H (fun b => A b ∨ b = x) ws ds ∧
  WpR (ev T n f ds) (fun d => ∀ H', (∀ b o, H b = some o → b ≠ x → H' b = some o) → Rep wd K H' A (.ref x) d → Q .non H') (fun _ _ => True)
structure MkOk (P : Program) (wd : World) (K : PySem.W.Frag) (mg : Str → Option Value) (base : Heap) (x : Str) (n f : Nat) : Prop where
  ex : ∃ (c : Cl) (fn : Fn) (a : Addr) (fd : FuncData) (ps : List Str), T.fn f = some fn ∧ fn.ini = some c ∧ c.name = x ∧ mg x = some (.ref (He.ga K x)) ∧ Mk K (He.ga K x) a ∧ Binds K fd ps [] ∧
    FnOk P wd K mg base (L2.CX P wd) (4 * n) a fd ps (spI T n f wd K)
/-- the classes -/
structure Cs (n : Nat) (P : Program) (wd : World) (K : PySem.W.Frag) (mg : Str → Option Value) (base : Heap) : Prop where
  cls : ∀ c ∈ T.cls, ClsOk K mg c
  met : ∀ c ∈ T.cls, ∀ m f, T.meth c.name m = some f → MetOk T P wd K mg base c m n f
  mks : ∀ f x, G.mkr f = some x → MkOk T P wd K mg base x n f
  neq : ∀ c ∈ T.cls, ∀ k ∈ T.cls, PySem.W.notFirst K (He.ga K c.name) (.ref (He.ga K k.name)) = true
  kit : ∀ c ∈ T.cls, ∀ k ∈ T.cls, PySem.W.kitOne K (.ref (He.ga K c.name)) (.ref (He.ga K k.name)) = some (decide (c = k))
structure Gd (N : List Str) (n : Nat) (sc : Scope) (X : Cx) : Prop where
  N : X.N = N
  nd : X.N.Nodup
  sc : X.env.scope = sc
  calm : X.calm = true
  room : Room (4 * n + 3) X.A
  fns : Fns T G n X.prog X.w X.K X.mg X.base
  blt : ∀ x ∈ bltNames, X.mg x = none
  szo : G.sz = true → ∃ (f : Addr) (fd : FuncData) (nm qual : Str) (params : Arguments) (body : List Stmt) (scope : Scope), X.mg "size_order" = some (.ref f) ∧ FunD X.K nm qual params body scope [] [] f fd ∧ Binds X.K fd ["quorum"] [] ∧ szB scope body = true
  globs : ∀ g x d, G.glob g = some x → T.glob g = some d → ∃ v u, X.mg x = some u ∧ RelV v u ∧ ∀ H A, Rep X.w X.K H A v d
  cs : Cs T G n X.prog X.w X.K X.mg X.base

def wpX (wd : World) (K : PySem.W.Frag) (A : Av) (W : WX) (σ : Sta) (H : Hp) : Cl → List D → Prop := fun c fs => ∀ cls dd H', Ext H H' → Exr wd K A c fs cls dd H' → W cls dd σ H'
variable (n : Nat) (wd : World) (K : PySem.W.Frag) (W : WX)
def Post (e : E) (Z : Zs) (O : Own) (H : Hp) (v : V) (H' : Hp) (d : D) : Prop := Ext H H' ∧ Rep wd K H' (AvO Z O (lks e)) v d ∧
  (fresh T e = true → isRoot d = true → ∃ p, v = .ref p ∧ H p = none ∧ Root wd K H' (fun b => AvO Z O (lks e) b ∨ b = p) p d)
def tE (e : E) : TE := fun σ H Q => ∃ ρ Z O, Rl wd K Z O σ H ρ ∧ WpR (evE T (ev T n) ρ e) (fun d => ∀ v H', Post T wd K e Z O H v H' d → Q v H') (wpX wd K Z W σ H)
def tB (e : E) : TE := fun σ H Q => ∃ ρ Z O, Rl wd K Z O σ H ρ ∧ WpR (evE T (ev T n) ρ e) (fun d => ∀ v H', Ext H H' → RepB wd K H' (AvO Z O (lkb e)) v d → Q v H') (wpX wd K Z W σ H)
def tT (e : E) : TT := fun σ H Q => ∃ ρ Z O, Rl wd K Z O σ H ρ ∧ WpR (evE T (ev T n) ρ e >>= truth) (fun b => ∀ H', Ext H H' → Q b H') (wpX wd K Z W σ H)
def tEs (es : List E) : TA := fun σ H Q => ∃ ρ Z O, Rl wd K Z O σ H ρ ∧ WpR (evEs T (ev T n) ρ es) (fun ds => ∀ vs H', Ext H H' → Reps wd K H' (AvO Z O (lksL es)) vs ds → Q vs H') (wpX wd K Z W σ H)
def tBs (es : List E) : TA := fun σ H Q => ∃ ρ Z O, Rl wd K Z O σ H ρ ∧ WpR (evEs T (ev T n) ρ es) (fun ds => ∀ vs H', Ext H H' → RepBs wd K H' (AvO Z O (lkbL es)) vs ds → Q vs H') (wpX wd K Z W σ H)
def tO (e : Option E) : TO := fun σ H Q => ∃ ρ Z O, Rl wd K Z O σ H ρ ∧ WpR (evO T (ev T n) ρ e) (fun i => ∀ H', Ext H H' → Q i H') (wpX wd K Z W σ H)
/-- an iterator that goes over ds, as long as all that stands in H0 but at B stands -/
def Goes (H0 : Hp) (A B : Av) (J : It) (ds : List D) : Prop := ∀ H, (∀ b o, H0 b = some o → ¬ B b → H b = some o) →
  (∀ i, i < ds.length → J.go i H) ∧ (∀ i, ds.length ≤ i → J.stop i H) ∧ ∀ i x H', i < ds.length → J.yld i H x H' → H' = H ∧ ∃ d, ds[i]? = some d ∧ Rep wd K H0 A x d
def tS (src : Src) : TI := fun σ H R => ∃ ρ Z O, Rl wd K Z O σ H ρ ∧ WpR (evSrc T (ev T n) ρ src) (fun ds => ∀ J H', Ext H H' →
    (∀ B : Av, (∀ b, B b → AvO Z O (lkr src) b) → (∀ y b, srcVar src = some y → O y = some b → ¬ B b) → Goes wd K H' (AvO Z O (lkr src)) B J ds) → R J H') (wpX wd K Z W σ H)
end

section
variable {T : Tab} {G : Nm} {N : List Str} {n : Nat} {wd : World} {K : PySem.W.Frag} {W : WX} {X : Cx} {sc : Scope} {Z : Zs} {O : Own} {σ : Sta} {H H1 H2 H' : Hp} {ρ : Env}
theorem wpX.ext {A : Av} {c : Cl} {fs : List D} (h : wpX wd K A W σ H c fs) (e : Ext H H1) : wpX wd K A W σ H1 c fs := fun cls dd H' q x => h cls dd H' (e.trans q) x
theorem RepB.sub {A B : Av} {v : V} {d : D} (h : RepB wd K H A v d) (e : ∀ b, B b → A b) : RepB wd K H B v d := by
  rcases h with r | ⟨a, q, r⟩
  · exact .inl (r.sub e)
  · exact .inr ⟨a, q, r.to (fun o z => z) fun b o z n => ⟨z, fun y => n (e b y)⟩⟩
theorem PE_imp {ex : Expr} {t t' : TE} (h : PE X ex t) (k : ∀ σ H Q, t' σ H Q → t σ H Q) : PE X ex t' := ⟨fun pins s σ H Q I q => h.run pins s σ H Q I (k σ H Q q)⟩
theorem PT_imp {ex : Expr} {t t' : TT} (h : PT X ex t) (k : ∀ σ H Q, t' σ H Q → t σ H Q) : PT X ex t' := ⟨fun pins s σ H Q I q => h.run pins s σ H Q I (k σ H Q q)⟩
theorem PW_imp {ex : Expr} {t t' : TT} (h : PW X ex t) (k : ∀ σ H Q, t' σ H Q → t σ H Q) : PW X ex t' := ⟨fun wh pins s σ H Q I q => h.run wh pins s σ H Q I (k σ H Q q)⟩
theorem PA_imp {es : List Expr} {t t' : TA} (h : PA X es t) (k : ∀ σ H Q, t' σ H Q → t σ H Q) : PA X es t' := ⟨fun pos pins s σ H Q I q => h.run pos pins s σ H Q I (k σ H Q q)⟩
theorem PO_imp {ex : Option Expr} {t t' : TO} (h : PO X ex t) (k : ∀ σ H Q, t' σ H Q → t σ H Q) : PO X ex t' := ⟨fun pins s σ H Q I q => h.run pins s σ H Q I (k σ H Q q)⟩

structure Snd (T : Tab) (n : Nat) (W : WX) (X : Cx) (e : E) (ex : Expr) : Prop where
  v : PE X ex (tE T n X.w X.K W e)
  b : PE X ex (tB T n X.w X.K W e)
  t : PT X ex (tT T n X.w X.K W e)
  w : ∀ op es p, ex = .BoolOp op es p → PW X ex (tT T n X.w X.K W e)
def plainT : Expr → Bool
  | .UnaryOp .Not _ _ => false
  | .BoolOp _ _ _ => false
  | .IfExp _ _ _ _ => false
  | .Compare _ _ _ _ => false
  | _ => true
theorem plainT_eq {ex : Expr} {env : PySem.Env} (h : plainT ex = true) (whole : Sem Value) : isTrue ex env whole = (do let v ← whole; standAt ex.pos; holding [v] (truthy v)) := by
  cases ex with
  | UnaryOp op a p => cases op <;> first | rfl | cases h
  | _ => first | rfl | cases h
theorem truth_ok {A : Av} {v : V} {d : D} {b : Bool} (r : RepB wd K H A v d) (h : truth d = .ok b) : ∃ k, TruV K v H k ∧ k = b := by
  unfold truth at h
  split at h
  · cases h; rw [r.non]; exact ⟨_, rfl, rfl⟩
  · cases h; rw [r.bl]; exact ⟨_, rfl, rfl⟩
  · cases h; rw [r.int]; exact ⟨_, rfl, rfl⟩
  · cases h
    obtain ⟨a, xs, rfl, s, rx⟩ := r.tup
    refine ⟨_, .inr (.inl ⟨xs, s, rfl⟩), ?_⟩
    cases rx <;> rfl
  · cases h
    obtain ⟨a, xs, rfl, s, rx⟩ := r.lst
    refine ⟨_, .inl ⟨xs, SqL.of s, rfl⟩, ?_⟩
    cases rx <;> rfl
  · cases h
theorem Snd.test {e : E} {ex : Expr} (b : PE X ex (tB T n X.w X.K W e)) (p : plainT ex = true) : PT X ex (tT T n X.w X.K W e) := by
  refine PT_imp (pt_truth b (plainT_eq p)) fun σ H Q h => ?_
  obtain ⟨ρ, Z, O, rl, h⟩ := h
  refine ⟨ρ, Z, O, rl, WpR.mono (WpR.bind h) (fun d _ hd v H' e r => ?_) fun c fs z => z⟩
  cases ht : truth d with
  | ok b =>
    rw [ht] at hd
    obtain ⟨k, h1, rfl⟩ := truth_ok r ht
    exact ⟨k, h1, hd H' e⟩
  | exc c fs => unfold truth at ht; split at ht <;> cases ht
  | bad => rw [ht] at hd; exact hd.elim
theorem Snd.borrow {e : E} {ex : Expr} (v : PE X ex (tE T n X.w X.K W e)) (hl : lkb e = lks e) : PE X ex (tB T n X.w X.K W e) :=
  PE_imp v fun σ H Q ⟨ρ, Z, O, rl, h⟩ => ⟨ρ, Z, O, rl, WpR.mono h (fun d _ hd v H' p => hd v H' p.1 (by rw [hl]; exact .inl p.2.1)) fun c fs z => z⟩
theorem Snd.of {e : E} {ex : Expr} (v : PE X ex (tE T n X.w X.K W e)) (hl : lkb e = lks e) (p : plainT ex = true) : Snd T n W X e ex :=
  ⟨v, Snd.borrow v hl, Snd.test (Snd.borrow v hl) p, fun op es q z => by subst z; cases p⟩
theorem Post.of {e : E} {v : V} {d : D} (he : Ext H H1) (h : New wd K H1 (AvO Z O (lks e)) v d H2) (e2 : Ext H1 H2) : Post T wd K e Z O H v H2 d :=
  ⟨he.trans e2, h.1, fun _ z => by
    obtain ⟨p, q1, q2, q3⟩ := h.2 z
    exact ⟨p, q1, he.none q2, q3⟩⟩
theorem Gd.un (g : Gd T G N n sc X) : X.A.units + 200 < cLine := by have := g.room.un; omega
end
end Ev

set_option linter.all false
set_option autoImplicit false
set_option maxRecDepth 100000
set_option maxHeartbeats 8000000
/-! The theorem about expressions. -/
namespace Ev
open PySem PySem.Spec PyProof.Rows L2

section
variable {T : Tab} {G : Nm} {N : List Str} {n : Nat} {wd : World} {K : PySem.W.Frag} {W : WX} {X : Cx} {sc : Scope} {Z : Zs} {O : Own} {σ : Sta} {H H1 H2 H' : Hp} {ρ : Env} {ex : Expr}

theorem lkb_var (i : Nat) : lkb (.var i) = [] := by simp only [lkb]
theorem lks_var (i : Nat) : lks (.var i) = [i] := by simp only [lks]
theorem lkb_eq {e : E} (h : ∀ i, e ≠ .var i) : lkb e = lks e := by
  cases e <;> first | exact absurd rfl (h _) | simp only [lkb]
/-! ### leaves -/
theorem s_var {i : Nat} (h : chkE G N (.var i) sc ex = true) (g : Gd T G N n sc X) : Snd T n W X (.var i) ex := by
  simp only [chkE] at h
  cases e1 : asName ex with
  | none => rw [e1] at h; cases h
  | some x =>
    rw [e1] at h
    simp only [Bool.and_eq_true, decide_eq_true_eq, nodebug, Bool.not_eq_true'] at h
    obtain ⟨⟨h1, h2⟩, h3, h4⟩ := h
    obtain ⟨p, rfl⟩ := asName_some e1
    have base : PE X (.Name x p) (tVar i) := pe_var (by rw [g.N]; exact h1) (by have := vis_of h2; rw [← g.sc] at this; exact this) h3 h4
    have vb : PE X (.Name x p) (tB T n X.w X.K W (.var i)) := PE_imp base fun σ H Q hh => by
      obtain ⟨ρ, Z, O, rl, hh⟩ := hh
      simp only [evE] at hh
      cases e2 : ρ[i]? with
      | none => rw [e2] at hh; exact hh.elim
      | some sl =>
        rw [e2] at hh
        cases sl with
        | no => exact hh.elim
        | slf c fs => exact hh.elim
        | val d =>
          obtain ⟨v, q1, q2⟩ := rl.val i d e2
          exact ⟨v, q1, hh v H .refl (.inl (by rw [lkb_var]; exact q2))⟩
        | own d =>
          obtain ⟨a, q0, q1, q2⟩ := rl.own i d e2
          exact ⟨_, q1, hh _ H .refl (.inr ⟨a, rfl, by rw [lkb_var]; exact q2⟩)⟩
    refine ⟨PE_imp base fun σ H Q hh => ?_, vb, Snd.test vb rfl, fun op es q z => by cases z⟩
    obtain ⟨ρ, Z, O, rl, hh⟩ := hh
    simp only [evE] at hh
    cases e2 : ρ[i]? with
    | none => rw [e2] at hh; exact hh.elim
    | some sl =>
      rw [e2] at hh
      cases sl with
      | no => exact hh.elim
      | slf c fs => exact hh.elim
      | val d =>
        obtain ⟨v, q1, q2⟩ := rl.val i d e2
        exact ⟨v, q1, hh v H ⟨.refl, q2.sub AvO.all, fun z => by cases z⟩⟩
      | own d =>
        obtain ⟨a, q0, q1, q2⟩ := rl.own i d e2
        refine ⟨_, q1, hh _ H ⟨.refl, q2.rep (fun z => ?_) AvO.all, fun z => by cases z⟩⟩
        rcases z with z | ⟨j, hj, z⟩
        · exact rl.nz i a q0 z
        · exact hj (by rw [rl.inj j i a z q0, lks_var]; exact List.mem_singleton.mpr rfl)
/-- a value that stands at once -/
theorem s_const {e : E} {d : D} {v : V} (hv : PE X ex (tC v)) (he : ∀ ρ : Env, evE T (ev T n) ρ e = .ok d) (r : ∀ H A, Rep X.w X.K H A v d) (hr : isRoot d = false) (hl : lkb e = lks e) (p : plainT ex = true) : Snd T n W X e ex := by
  refine Snd.of (PE_imp hv fun σ H Q hh => ?_) hl p
  obtain ⟨ρ, Z, O, rl, hh⟩ := hh
  rw [he] at hh
  exact hh v H ⟨.refl, r _ _, fun _ z => by rw [hr] at z; cases z⟩
theorem s_non (h : chkE G N .non sc ex = true) : Snd T n W X .non ex := by
  simp only [chkE] at h
  cases e1 : asConst ex with
  | none => rw [e1] at h; cases h
  | some c =>
    rw [e1] at h
    cases c <;> try cases h
    obtain ⟨k, p, rfl⟩ := asConst_some e1
    exact s_const pe_non (fun ρ => rfl) (fun _ _ => .non) rfl (lkb_eq fun _ z => nomatch z) rfl
theorem s_bl {b : Bool} (h : chkE G N (.bl b) sc ex = true) : Snd T n W X (.bl b) ex := by
  simp only [chkE] at h
  cases e1 : asConst ex with
  | none => rw [e1] at h; cases h
  | some c =>
    rw [e1] at h
    cases c <;> try cases h
    rename_i c
    have : b = c := by simpa using h
    subst this
    obtain ⟨k, p, rfl⟩ := asConst_some e1
    exact s_const pe_bl (fun ρ => rfl) (fun _ _ => .bl b) rfl (lkb_eq fun _ z => nomatch z) rfl
theorem s_int {b : Int} (h : chkE G N (.int b) sc ex = true) : Snd T n W X (.int b) ex := by
  simp only [chkE] at h
  cases e1 : asConst ex with
  | none => rw [e1] at h; cases h
  | some c =>
    rw [e1] at h
    cases c <;> try cases h
    rename_i c
    have : b = c := by simpa using h
    subst this
    obtain ⟨k, p, rfl⟩ := asConst_some e1
    exact s_const pe_int (fun ρ => rfl) (fun _ _ => .int b) rfl (lkb_eq fun _ z => nomatch z) rfl
theorem s_str {b : Str} (h : chkE G N (.str b) sc ex = true) : Snd T n W X (.str b) ex := by
  simp only [chkE] at h
  cases e1 : asConst ex with
  | none => rw [e1] at h; cases h
  | some c =>
    rw [e1] at h
    cases c <;> try cases h
    rename_i c
    have : b = c := by simpa using h
    subst this
    obtain ⟨k, p, rfl⟩ := asConst_some e1
    exact s_const pe_str (fun ρ => rfl) (fun _ _ => .str b) rfl (lkb_eq fun _ z => nomatch z) rfl
theorem s_glob {k : Nat} (h : chkE G N (.glob k) sc ex = true) (g : Gd T G N n sc X) : Snd T n W X (.glob k) ex := by
  simp only [chkE] at h
  cases e1 : asName ex with
  | none => rw [e1] at h; cases h
  | some x =>
    rw [e1] at h
    simp only [Bool.and_eq_true, decide_eq_true_eq, nodebug, Bool.not_eq_true'] at h
    obtain ⟨⟨h1, h2⟩, h3, h4⟩ := h
    obtain ⟨p, rfl⟩ := asName_some e1
    cases e2 : T.glob k with
    | none => 
      refine Snd.of ⟨fun pins s σ H Q I hh => ?_⟩ (lkb_eq fun _ z => nomatch z) rfl
      obtain ⟨ρ, Z, O, rl, hh⟩ := hh
      simp only [evE, e2, ofO_none] at hh
      exact hh.elim
    | some d =>
      obtain ⟨v, u, q1, q2, q3⟩ := g.globs k x d h1 e2
      have hr : isRoot d = false := by
        have q := q3 (fun _ => none) (fun _ => False)
        cases q with
        | lst e _ _ => exact absurd e (by simp)
        | dK e _ _ _ => exact absurd e (by simp)
        | dN e _ _ _ _ => exact absurd e (by simp)
        | _ => rfl
      exact s_const (pe_glob (gl_of g.sc h2) q1 q2 h3) (fun ρ => by simp only [evE, e2, ofO_some]) q3 hr (lkb_eq fun _ z => nomatch z) rfl

/-! ### operations -/
theorem s_bin {o : BOp} {a b : E} {x y : Expr} {p : Pos} (ha : Snd T n W X a x) (hb : Snd T n W X b y) : Snd T n W X (.bin o a b) (.BinOp x (opOf o) y p) := by
  refine Snd.of (PE_imp (pe_op (op_bin o) ha.b hb.b) fun σ H Q hh => ?_) (lkb_eq fun _ z => nomatch z) rfl
  obtain ⟨ρ, Z, O, rl, hh⟩ := hh
  refine ⟨ρ, Z, O, rl, WpR.mono (WpR.bind hh) (fun d _ hd v H1 e1 r1 => ⟨ρ, Z, O, rl.ext e1, WpR.mono (WpR.bind hd) (fun d' _ hd' v' H2 e2 r2 => ?_) fun c fs z => z.ext e1⟩) fun c fs z => z⟩
  have t : Trk H2 (AvO Z O (lks (.bin o a b))) := (rl.ext (e1.trans e2)).trk _
  cases ez : binD o d d' with
  | ok z =>
    rw [ez] at hd'
    exact bin_ok t ((r1.ext e2).sub (AvO.mono fun i hi => by simp only [lks]; exact List.mem_append_left _ hi)) (r2.sub (AvO.mono fun i hi => by simp only [lks]; exact List.mem_append_right _ hi)) ez fun w H3 e3 hn => hd' w H3 (Post.of (e1.trans e2) hn e3)
  | exc c fs => unfold binD at ez; split at ez <;> first | cases ez | (split at ez <;> cases ez)
  | bad => rw [ez] at hd'; exact hd'.elim
theorem s_neg {a : E} {x : Expr} {p : Pos} (ha : Snd T n W X a x) : Snd T n W X (.neg a) (.UnaryOp .USub x p) := by
  refine Snd.of (PE_imp (pe_un un_neg ha.b) fun σ H Q hh => ?_) (lkb_eq fun _ z => nomatch z) rfl
  obtain ⟨ρ, Z, O, rl, hh⟩ := hh
  refine ⟨ρ, Z, O, rl, WpR.mono (WpR.bind hh) (fun d _ hd v H1 e1 r1 => ?_) fun c fs z => z⟩
  cases d with
  | int i => rw [r1.int]; exact ⟨_, rfl, hd _ H1 ⟨e1, .int _, fun _ z => by cases z⟩⟩
  | _ => exact hd.elim
theorem truth_exc {d : D} {c : Cl} {fs : List D} (h : truth d = .exc c fs) : False := by
  unfold truth at h; split at h <;> cases h
theorem s_not {a : E} {x : Expr} {p : Pos} (ha : Snd T n W X a x) : Snd T n W X (.not a) (.UnaryOp .Not x p) := by
  have v : PE X (.UnaryOp .Not x p) (tE T n X.w X.K W (.not a)) := PE_imp (pe_notT ha.b) fun σ H Q hh => by
    obtain ⟨ρ, Z, O, rl, hh⟩ := hh
    refine ⟨ρ, Z, O, rl, WpR.mono (WpR.bind hh) (fun d _ hd v H1 e1 r1 => ?_) fun c fs z => z⟩
    cases ht : truth d with
    | ok b =>
      rw [ht] at hd
      obtain ⟨k, h1, rfl⟩ := truth_ok r1 ht
      exact ⟨k, h1, hd _ H1 ⟨e1, .bl _, fun _ z => by cases z⟩⟩
    | exc c fs => exact (truth_exc ht).elim
    | bad => rw [ht] at hd; exact hd.elim
  refine ⟨v, Snd.borrow v (lkb_eq fun _ z => nomatch z), PT_imp (pt_not ha.t) fun σ H Q hh => ?_, fun op es q z => by cases z⟩
  obtain ⟨ρ, Z, O, rl, hh⟩ := hh
  refine ⟨ρ, Z, O, rl, ?_⟩
  simp only [evE] at hh
  cases e1 : evE T (ev T n) ρ a with
  | ok d =>
    rw [e1] at hh
    simp only [ok_bind] at hh ⊢
    cases ht : truth d with
    | ok b => rw [ht] at hh; exact hh
    | exc c fs => exact (truth_exc ht).elim
    | bad => rw [ht] at hh; exact hh.elim
  | exc c fs => rw [e1] at hh; exact hh
  | bad => rw [e1] at hh; exact hh.elim
theorem s_cmp {o : COp} {a b : E} {x y : Expr} {p : Pos} (g : Gd T G N n sc X) (hy : plainX y = true) (ha : Snd T n W X a x) (hb : Snd T n W X b y) : Snd T n W X (.cmp o a b) (.Compare x [cmOf o] [y] p) := by
  have hu : X.A.units + 65 < cLine := by have := g.un; omega
  have core : ∀ {σ : Sta} {H : Hp} {Q : VK} {ρ : Env} {Z : Zs} {O : Own}, Rl X.w X.K Z O σ H ρ → WpR (evE T (ev T n) ρ a >>= fun d => evE T (ev T n) ρ b >>= fun d' => cmpD o d d') (fun c => ∀ H', Ext H H' → Q (.bl c) H') (wpX X.w X.K Z W σ H) →
      tOp (rCmp X.w X.K o) (tB T n X.w X.K W a) (tB T n X.w X.K W b) σ H Q := fun {σ H Q ρ Z O} rl hh => by
    refine ⟨ρ, Z, O, rl, WpR.mono (WpR.bind hh) (fun d _ hd v H1 e1 r1 => ⟨ρ, Z, O, rl.ext e1, WpR.mono (WpR.bind hd) (fun d' _ hd' v' H2 e2 r2 => ?_) fun c fs z => z.ext e1⟩) fun c fs z => z⟩
    cases ez : cmpD o d d' with
    | ok z =>
      rw [ez] at hd'
      exact cmp_ok (A := fun _ => False) ((r1.ext e2).sub fun _ z => z.elim) (r2.sub fun _ z => z.elim) ez (hd' H2 (e1.trans e2))
    | exc c fs => 
      have : ∀ d e c fs, eqD d e ≠ R.exc c fs := fun d e c fs z => by unfold eqD at z; split at z <;> first | cases z | (split at z <;> cases z)
      have i2 : ∀ d e c fs, inD d e ≠ R.exc c fs := fun d e c fs z => by unfold inD at z; split at z <;> first | cases z | (split at z <;> cases z)
      have i3 : ∀ d e c fs, hasD d e ≠ R.exc c fs := fun d e c fs z => by unfold hasD at z; split at z <;> first | exact i2 _ _ _ _ z | exact dget_exc (R.bind_exc z) | cases z
      have b2 : ∀ (m : R Bool) (f : Bool → Bool) c fs, R.bind m (fun b => .ok (f b)) = R.exc c fs → m = R.exc c fs := fun m f c fs z => by cases m <;> first | exact z | cases z
      unfold cmpD at ez
      split at ez <;> first | exact absurd ez (this _ _ _ _) | exact absurd (b2 _ _ _ _ ez) (this _ _ _ _) | exact absurd ez (i3 _ _ _ _) | exact absurd (b2 _ _ _ _ ez) (i3 _ _ _ _) | cases ez
    | bad => rw [ez] at hd'; exact hd'.elim
  have v : PE X (.Compare x [cmOf o] [y] p) (tE T n X.w X.K W (.cmp o a b)) := PE_imp (pe_cmpR (op_cmp hu o) ha.b hb.b (plainMark hy)) fun σ H Q hh => by
    obtain ⟨ρ, Z, O, rl, hh⟩ := hh
    refine core rl ?_
    simp only [evE] at hh
    cases e1 : evE T (ev T n) ρ a with
    | ok d =>
      rw [e1] at hh
      simp only [ok_bind] at hh ⊢
      cases e2 : evE T (ev T n) ρ b with
      | ok d' =>
        rw [e2] at hh
        simp only [ok_bind] at hh ⊢
        cases e3 : cmpD o d d' with
        | ok c => rw [e3] at hh; exact fun H' e => hh (.bl c) H' ⟨e, .bl _, fun _ z => by cases z⟩
        | exc c fs => rw [e3] at hh; exact hh
        | bad => rw [e3] at hh; exact hh
      | exc c fs => rw [e2] at hh; exact hh
      | bad => rw [e2] at hh; exact hh
    | exc c fs => rw [e1] at hh; exact hh
    | bad => rw [e1] at hh; exact hh
  refine ⟨v, Snd.borrow v (lkb_eq fun _ z => nomatch z), PT_imp (pt_cmpR (op_cmp hu o) ha.b hb.b (plainMark hy)) fun σ H Q hh => ?_, fun op es q z => by cases z⟩
  obtain ⟨ρ, Z, O, rl, hh⟩ := hh
  refine core rl ?_
  simp only [evE] at hh
  cases e1 : evE T (ev T n) ρ a with
  | ok d =>
    rw [e1] at hh
    simp only [ok_bind] at hh ⊢
    cases e2 : evE T (ev T n) ρ b with
    | ok d' =>
      rw [e2] at hh
      simp only [ok_bind] at hh ⊢
      cases e3 : cmpD o d d' with
      | ok c => rw [e3] at hh; exact fun H' e => ⟨c, rfl, hh H' e⟩
      | exc c fs => rw [e3] at hh; exact hh
      | bad => rw [e3] at hh; exact hh
    | exc c fs => rw [e2] at hh; exact hh
    | bad => rw [e2] at hh; exact hh
  | exc c fs => rw [e1] at hh; exact hh
  | bad => rw [e1] at hh; exact hh
end
end Ev

set_option linter.all false
set_option autoImplicit false
set_option maxRecDepth 100000
set_option maxHeartbeats 8000000
/-! .. and, or, chains, choices, displays, places, calls. -/
namespace Ev
open PySem PySem.Spec PyProof.Rows L2

section
variable {T : Tab} {G : Nm} {N : List Str} {n : Nat} {wd : World} {K : PySem.W.Frag} {W : WX} {X : Cx} {sc : Scope} {Z : Zs} {O : Own} {σ : Sta} {H H1 H2 H' : Hp} {ρ : Env} {ex : Expr}
theorem cmpD_exc {o : COp} {d e : D} {c : Cl} {fs : List D} (ez : cmpD o d e = .exc c fs) : False := by
  have this : ∀ d e c fs, eqD d e ≠ R.exc c fs := fun d e c fs z => by unfold eqD at z; split at z <;> first | cases z | (split at z <;> cases z)
  have i2 : ∀ d e c fs, inD d e ≠ R.exc c fs := fun d e c fs z => by unfold inD at z; split at z <;> first | cases z | (split at z <;> cases z)
  have i3 : ∀ d e c fs, hasD d e ≠ R.exc c fs := fun d e c fs z => by unfold hasD at z; split at z <;> first | exact i2 _ _ _ _ z | exact dget_exc (R.bind_exc z) | cases z
  have b2 : ∀ (m : R Bool) (f : Bool → Bool) c fs, R.bind m (fun b => .ok (f b)) = R.exc c fs → m = R.exc c fs := fun m f c fs z => by cases m <;> first | exact z | cases z
  unfold cmpD at ez
  split at ez <;> first | exact absurd ez (this _ _ _ _) | exact absurd (b2 _ _ _ _ ez) (this _ _ _ _) | exact absurd ez (i3 _ _ _ _) | exact absurd (b2 _ _ _ _ ez) (i3 _ _ _ _) | cases ez
theorem Post.sub {e e' : E} {v : V} {d : D} (p : Post T wd K e Z O H v H' d) (hs : ∀ i ∈ lks e, i ∈ lks e') (hf : fresh T e' = true → fresh T e = true) : Post T wd K e' Z O H v H' d :=
  ⟨p.1, p.2.1.sub (AvO.mono hs), fun f r => by
    obtain ⟨q, q1, q2, q3⟩ := p.2.2 (hf f) r
    exact ⟨q, q1, q2, q3.to (fun o z => z) fun b o z nb => ⟨z, fun y => nb (y.imp (AvO.mono hs b) id)⟩⟩⟩
theorem Post.pre {e : E} {v : V} {d : D} (x : Ext H H1) (p : Post T wd K e Z O H1 v H' d) : Post T wd K e Z O H v H' d :=
  ⟨x.trans p.1, p.2.1, fun f r => by
    obtain ⟨q, q1, q2, q3⟩ := p.2.2 f r
    exact ⟨q, q1, x.none q2, q3⟩⟩

/-! ### and, or -/
theorem s_and {a b : E} {x y : Expr} {r : List Expr} {p : Pos} (ha : Snd T n W X a x) (hb : (r = [] → Snd T n W X b y) ∧ (r ≠ [] → Snd T n W X b (.BoolOp .And (y :: r) p))) : Snd T n W X (.and a b) (.BoolOp .And (x :: y :: r) p) := by
  have hv : PE X (.BoolOp .And (y :: r) p) (tE T n X.w X.K W b) := by
    cases r with
    | nil => exact pe_one (hb.1 rfl).v
    | cons z r => exact (hb.2 (by simp)).v
  have hw : PW X (.BoolOp .And (y :: r) p) (tT T n X.w X.K W b) := by
    cases r with
    | nil => exact pw_and1 (hb.1 rfl).t
    | cons z r => exact (hb.2 (by simp)).w _ _ _ rfl
  have v : PE X (.BoolOp .And (x :: y :: r) p) (tE T n X.w X.K W (.and a b)) := PE_imp (pe_and ha.v hv) fun σ H Q hh => by
    obtain ⟨ρ, Z, O, rl, hh⟩ := hh
    refine ⟨ρ, Z, O, rl, WpR.mono (WpR.bind hh) (fun d _ hd v H1 p1 => ?_) fun c fs z => z⟩
    cases d with
    | bl k =>
      have e1 := (Rep.b p1.2.1).bl
      cases k with
      | true =>
        refine ⟨true, e1, ?_⟩
        rw [if_pos rfl]
        exact ⟨ρ, Z, O, rl.ext p1.1, WpR.mono hd (fun d _ hd v' H2 p2 => hd v' H2 (Post.pre p1.1 (p2.sub (fun i hi => by simp only [lks]; exact List.mem_append_right _ hi) fun z => by cases z))) fun c fs z => z.ext p1.1⟩
      | false =>
        refine ⟨false, e1, ?_⟩
        rw [if_neg (by decide)]
        exact hd _ H1 ⟨p1.1, .bl _, fun _ z => by cases z⟩
    | _ => exact hd.elim
  have w : PW X (.BoolOp .And (x :: y :: r) p) (tT T n X.w X.K W (.and a b)) := PW_imp (pw_and ha.t hw) fun σ H Q hh => by
    obtain ⟨ρ, Z, O, rl, hh⟩ := hh
    refine ⟨ρ, Z, O, rl, ?_⟩
    simp only [evE] at hh
    cases e1 : evE T (ev T n) ρ a with
    | ok d =>
      rw [e1] at hh
      simp only [ok_bind] at hh ⊢
      cases d with
      | bl k =>
        cases k with
        | true =>
          refine fun H1 x1 => ?_
          rw [if_pos rfl]
          exact ⟨ρ, Z, O, rl.ext x1, WpR.mono hh (fun k _ q H' e => q H' (x1.trans e)) fun c fs z => z.ext x1⟩
        | false =>
          refine fun H1 x1 => ?_
          rw [if_neg (by decide)]
          exact hh H1 x1
      | _ => exact hh.elim
    | exc c fs => rw [e1] at hh; exact hh
    | bad => rw [e1] at hh; exact hh.elim
  exact ⟨v, Snd.borrow v (lkb_eq fun _ z => nomatch z), w.pt, fun op es q z => by cases z; exact w⟩
theorem s_or {a b : E} {x y : Expr} {r : List Expr} {p : Pos} (ha : Snd T n W X a x) (hb : (r = [] → Snd T n W X b y) ∧ (r ≠ [] → Snd T n W X b (.BoolOp .Or (y :: r) p))) : Snd T n W X (.or a b) (.BoolOp .Or (x :: y :: r) p) := by
  have hv : PE X (.BoolOp .Or (y :: r) p) (tE T n X.w X.K W b) := by
    cases r with
    | nil => exact pe_one (hb.1 rfl).v
    | cons z r => exact (hb.2 (by simp)).v
  have hw : PW X (.BoolOp .Or (y :: r) p) (tT T n X.w X.K W b) := by
    cases r with
    | nil => exact pw_or1 (hb.1 rfl).t
    | cons z r => exact (hb.2 (by simp)).w _ _ _ rfl
  have v : PE X (.BoolOp .Or (x :: y :: r) p) (tE T n X.w X.K W (.or a b)) := PE_imp (pe_or ha.v hv) fun σ H Q hh => by
    obtain ⟨ρ, Z, O, rl, hh⟩ := hh
    refine ⟨ρ, Z, O, rl, WpR.mono (WpR.bind hh) (fun d _ hd v H1 p1 => ?_) fun c fs z => z⟩
    cases d with
    | bl k =>
      have e1 := (Rep.b p1.2.1).bl
      cases k with
      | true =>
        refine ⟨true, e1, ?_⟩
        rw [if_pos rfl]
        exact hd _ H1 ⟨p1.1, .bl _, fun _ z => by cases z⟩
      | false =>
        refine ⟨false, e1, ?_⟩
        rw [if_neg (by decide)]
        exact ⟨ρ, Z, O, rl.ext p1.1, WpR.mono hd (fun d _ hd v' H2 p2 => hd v' H2 (Post.pre p1.1 (p2.sub (fun i hi => by simp only [lks]; exact List.mem_append_right _ hi) fun z => by cases z))) fun c fs z => z.ext p1.1⟩
    | _ => exact hd.elim
  have w : PW X (.BoolOp .Or (x :: y :: r) p) (tT T n X.w X.K W (.or a b)) := PW_imp (pw_or ha.t hw) fun σ H Q hh => by
    obtain ⟨ρ, Z, O, rl, hh⟩ := hh
    refine ⟨ρ, Z, O, rl, ?_⟩
    simp only [evE] at hh
    cases e1 : evE T (ev T n) ρ a with
    | ok d =>
      rw [e1] at hh
      simp only [ok_bind] at hh ⊢
      cases d with
      | bl k =>
        cases k with
        | true =>
          refine fun H1 x1 => ?_
          rw [if_pos rfl]
          exact hh H1 x1
        | false =>
          refine fun H1 x1 => ?_
          rw [if_neg (by decide)]
          exact ⟨ρ, Z, O, rl.ext x1, WpR.mono hh (fun k _ q H' e => q H' (x1.trans e)) fun c fs z => z.ext x1⟩
      | _ => exact hh.elim
    | exc c fs => rw [e1] at hh; exact hh
    | bad => rw [e1] at hh; exact hh.elim
  exact ⟨v, Snd.borrow v (lkb_eq fun _ z => nomatch z), w.pt, fun op es q z => by cases z; exact w⟩

/-! ### a < b < c -/
theorem s_chain {o o' : COp} {a b c : E} {x y z : Expr} {p : Pos} (g : Gd T G N n sc X) (hz : plainX z = true) (ha : Snd T n W X a x) (hb : Snd T n W X b y) (hc : Snd T n W X c z) : Snd T n W X (.chain o o' a b c) (.Compare x [cmOf o, cmOf o'] [y, z] p) := by
  have hu : X.A.units + 65 < cLine := by have := g.un; omega
  have hm : lastMarks [cmOf o, cmOf o'] [y, z] = false := plainMark hz
  have core : ∀ {σ : Sta} {H : Hp} {Q : VK} {ρ : Env} {Z : Zs} {O : Own}, Rl X.w X.K Z O σ H ρ → WpR (evE T (ev T n) ρ (.chain o o' a b c)) (fun d => ∀ H', Ext H H' → ∀ k, d = .bl k → Q (.bl k) H') (wpX X.w X.K Z W σ H) →
      tChain (rCmp X.w X.K o) (rCmp X.w X.K o') (tB T n X.w X.K W a) (tB T n X.w X.K W b) (tB T n X.w X.K W c) σ H Q := fun {σ H Q ρ Z O} rl hh => by
    simp only [evE] at hh
    refine ⟨ρ, Z, O, rl, WpR.mono (WpR.bind hh) (fun d _ hd v H1 e1 r1 => ⟨ρ, Z, O, rl.ext e1, WpR.mono (WpR.bind hd) (fun d' _ hd' v' H2 e2 r2 => ?_) fun c fs z => z.ext e1⟩) fun c fs z => z⟩
    cases ez : cmpD o d d' with
    | ok k =>
      rw [ez] at hd'
      refine cmp_ok (A := fun _ => False) ((r1.ext e2).sub fun _ z => z.elim) (r2.sub fun _ z => z.elim) ez ⟨k, rfl, ?_⟩
      cases k with
      | true =>
        rw [if_pos rfl]
        refine ⟨ρ, Z, O, rl.ext (e1.trans e2), WpR.mono (WpR.bind hd') (fun d3 _ hd3 v3 H3 e3 r3 => ?_) fun c fs z => z.ext (e1.trans e2)⟩
        cases ez3 : cmpD o' d' d3 with
        | ok k' =>
          rw [ez3] at hd3
          exact cmp_ok (A := fun _ => False) ((r2.ext e3).sub fun _ z => z.elim) (r3.sub fun _ z => z.elim) ez3 (hd3 H3 ((e1.trans e2).trans e3) k' rfl)
        | exc c fs => exact (cmpD_exc ez3).elim
        | bad => rw [ez3] at hd3; exact hd3.elim
      | false =>
        rw [if_neg (by decide)]
        exact hd' H2 (e1.trans e2) false rfl
    | exc c fs => exact (cmpD_exc ez).elim
    | bad => rw [ez] at hd'; exact hd'.elim
  have isb : ∀ {ρ : Env} {d : D}, evE T (ev T n) ρ (.chain o o' a b c) = .ok d → ∃ k, d = .bl k := fun {ρ d} e => by
    simp only [evE] at e
    obtain ⟨d1, _, e⟩ := bind_ok e
    obtain ⟨d2, _, e⟩ := bind_ok e
    obtain ⟨k, _, e⟩ := bind_ok e
    cases k with
    | true =>
      obtain ⟨d3, _, e⟩ := bind_ok e
      obtain ⟨k, _, e⟩ := bind_ok e
      cases e
      exact ⟨_, rfl⟩
    | false => cases e; exact ⟨_, rfl⟩
  have v : PE X (.Compare x [cmOf o, cmOf o'] [y, z] p) (tE T n X.w X.K W (.chain o o' a b c)) := PE_imp (pe_chain (op_cmp hu o) (op_cmp hu o') ha.b hb.b hc.b hm) fun σ H Q hh => by
    obtain ⟨ρ, Z, O, rl, hh⟩ := hh
    refine core rl (WpR.mono hh (fun d _ hd H' e k hk => ?_) fun c fs z => z)
    subst hk
    exact hd _ H' ⟨e, .bl _, fun _ z => by cases z⟩
  refine ⟨v, Snd.borrow v (lkb_eq fun _ z => nomatch z), PT_imp (pt_chain (op_cmp hu o) (op_cmp hu o') ha.b hb.b hc.b hm) fun σ H Q hh => ?_, fun op es q z => by cases z⟩
  obtain ⟨ρ, Z, O, rl, hh⟩ := hh
  refine core rl ?_
  cases e1 : evE T (ev T n) ρ (.chain o o' a b c) with
  | ok d =>
    obtain ⟨k, rfl⟩ := isb e1
    rw [e1] at hh
    intro H' e k' hk
    cases hk
    exact ⟨k, rfl, hh H' e⟩
  | exc c fs => rw [e1] at hh; exact hh
  | bad => rw [e1] at hh; exact hh.elim

/-! ### a if c else b -/
theorem pt_ife {c a b : Expr} {p : Pos} {tc ta tb : TT} (hc : PT X c tc) (ha : PT X a ta) (hb : PT X b tb) : PT X (.IfExp c a b p) (fun σ H Q => tc σ H fun k H1 => if k = true then ta σ H1 Q else tb σ H1 Q) := by
  refine ⟨fun pins s σ H Q I h => isTrue_IfExp (thn (hc.run pins s σ H _ I h) fun k s1 ⟨H1, I1, q⟩ => ?_)⟩
  cases k with
  | true => exact ha.run pins s1 σ H1 Q I1 q
  | false => exact hb.run pins s1 σ H1 Q I1 q
theorem s_ife {c a b : E} {z x y : Expr} {p : Pos} (hc : Snd T n W X c z) (ha : Snd T n W X a x) (hb : Snd T n W X b y) : Snd T n W X (.ife c a b) (.IfExp z x y p) := by
  have split : ∀ {α : Type} {m : R D} {f g : R α} {q : α → Prop} {xx : Cl → List D → Prop}, WpR (m >>= fun x => truth x >>= fun k => match k with | true => f | false => g) q xx → WpR (m >>= truth) (fun k => if k = true then WpR f q xx else WpR g q xx) xx := fun {α m f g q xx} h => by
    cases m with
    | ok d =>
      simp only [ok_bind] at h ⊢
      cases ht : truth d with
      | ok k => rw [ht] at h; cases k <;> exact h
      | exc c fs => exact (truth_exc ht).elim
      | bad => rw [ht] at h; exact h
    | exc c fs => exact h
    | bad => exact h
  have v : PE X (.IfExp z x y p) (tE T n X.w X.K W (.ife c a b)) := PE_imp (pe_ifExp hc.t ha.v hb.v) fun σ H Q hh => by
    obtain ⟨ρ, Z, O, rl, hh⟩ := hh
    simp only [evE] at hh
    refine ⟨ρ, Z, O, rl, WpR.mono (split hh) (fun k _ hk H1 x1 => ?_) fun c fs z => z⟩
    cases k with
    | true =>
      rw [if_pos rfl] at hk ⊢
      exact ⟨ρ, Z, O, rl.ext x1, WpR.mono hk (fun d _ hd v H' p1 => hd v H' (Post.pre x1 (p1.sub (fun i hi => by simp only [lks]; exact List.mem_append_left _ hi) fun z => by simp only [fresh, Bool.and_eq_true] at z; exact z.1))) fun c fs z => z.ext x1⟩
    | false =>
      rw [if_neg (by decide)] at hk ⊢
      exact ⟨ρ, Z, O, rl.ext x1, WpR.mono hk (fun d _ hd v H' p1 => hd v H' (Post.pre x1 (p1.sub (fun i hi => by simp only [lks]; exact List.mem_append_right _ hi) fun z => by simp only [fresh, Bool.and_eq_true] at z; exact z.2))) fun c fs z => z.ext x1⟩
  refine ⟨v, Snd.borrow v (lkb_eq fun _ z => nomatch z), PT_imp (pt_ife hc.t ha.t hb.t) fun σ H Q hh => ?_, fun op es q z => by cases z⟩
  obtain ⟨ρ, Z, O, rl, hh⟩ := hh
  have hh2 : WpR (evE T (ev T n) ρ c >>= fun x => truth x >>= fun k => match k with | true => (evE T (ev T n) ρ a >>= truth) | false => (evE T (ev T n) ρ b >>= truth)) (fun b => ∀ H', Ext H H' → Q b H') (wpX X.w X.K Z W σ H) := by
    simp only [evE] at hh
    cases e1 : evE T (ev T n) ρ c with
    | ok d =>
      rw [e1] at hh
      simp only [ok_bind] at hh ⊢
      cases ht : truth d with
      | ok k => rw [ht] at hh; cases k <;> exact hh
      | exc c fs => exact (truth_exc ht).elim
      | bad => rw [ht] at hh; exact hh
    | exc c fs => rw [e1] at hh; exact hh
    | bad => rw [e1] at hh; exact hh
  refine ⟨ρ, Z, O, rl, WpR.mono (split hh2) (fun k _ hk H1 x1 => ?_) fun c fs z => z⟩
  cases k with
  | true =>
    rw [if_pos rfl] at hk ⊢
    exact ⟨ρ, Z, O, rl.ext x1, WpR.mono hk (fun d _ hd H' e => hd H' (x1.trans e)) fun c fs z => z.ext x1⟩
  | false =>
    rw [if_neg (by decide)] at hk ⊢
    exact ⟨ρ, Z, O, rl.ext x1, WpR.mono hk (fun d _ hd H' e => hd H' (x1.trans e)) fun c fs z => z.ext x1⟩

/-! ### displays, places, parts -/
theorem s_tup {es : List E} {xs : List Expr} {k : Nat} {p : Pos} (hl : xs.length ≤ 1000) (he : es.length = xs.length) (h : PA X xs (tEs T n X.w X.K W es)) : Snd T n W X (.tup es) (.Tuple xs k p) := by
  refine Snd.of (PE_imp (pe_tup h) fun σ H Q hh => ?_) (lkb_eq fun _ z => nomatch z) rfl
  obtain ⟨ρ, Z, O, rl, hh⟩ := hh
  refine ⟨ρ, Z, O, rl, WpR.mono (WpR.bind hh) (fun ds hds hd vs H1 e1 r1 => ⟨?_, fun q hq => ?_⟩) fun c fs z => z⟩
  · rw [r1.length, evEs_len hds, he, sizeLine_eq]
    omega
  · have hn := New.tup ((rl.ext e1).trk (lksL es)) hq r1
    exact hd _ _ (Post.of e1 (by simp only [lks]; exact hn) (Ext.upd hq))
where
  evEs_len {T : Tab} {cf : Nat → List D → R D} {ρ : Env} : ∀ {es : List E} {ds : List D}, evEs T cf ρ es = .ok ds → ds.length = es.length
    | [], ds, h => by simp only [evEs] at h; cases h; rfl
    | e :: es, ds, h => by
      simp only [evEs] at h
      obtain ⟨d, _, h⟩ := bind_ok h
      obtain ⟨r, h1, h⟩ := bind_ok h
      cases h
      rw [List.length_cons, List.length_cons, evEs_len h1]
theorem s_lst {es : List E} {xs : List Expr} {p : Pos} (hl : xs.length ≤ 1000) (he : es.length = xs.length) (h : PA X xs (tEs T n X.w X.K W es)) : Snd T n W X (.lst es) (.List xs p) := by
  refine Snd.of (PE_imp (pe_lst h) fun σ H Q hh => ?_) (lkb_eq fun _ z => nomatch z) rfl
  obtain ⟨ρ, Z, O, rl, hh⟩ := hh
  refine ⟨ρ, Z, O, rl, WpR.mono (WpR.bind hh) (fun ds hds hd vs H1 e1 r1 => ⟨?_, fun q hq => ?_⟩) fun c fs z => z⟩
  · rw [r1.length, s_tup.evEs_len hds, he, sizeLine_eq]
    omega
  · have hn := New.lst ((rl.ext e1).trk (lksL es)) hq r1
    exact hd _ _ (Post.of e1 (by simp only [lks]; exact hn) (Ext.upd hq))
theorem idxD_exc {d e : D} {c : Cl} {fs : List D} (h : idxD d e = .exc c fs) : False := by
  have : ∀ (o : Option D), ofO o ≠ R.exc c fs := fun o z => by cases o <;> cases z
  unfold idxD at h
  split at h <;> first | exact this _ h | exact dget_exc (R.bind_exc2 this h) | cases h
theorem s_idx {a i : E} {x y : Expr} {p : Pos} (g : Gd T G N n sc X) (hy : plainX y = true) (ha : Snd T n W X a x) (hi : Snd T n W X i y) : Snd T n W X (.idx a i) (.Subscript x y p) := by
  refine Snd.of (PE_imp (pe_ix (ix_all (by have := g.un; omega)) ha.b hi.b (plainIx hy)) fun σ H Q hh => ?_) (lkb_eq fun _ z => nomatch z) rfl
  obtain ⟨ρ, Z, O, rl, hh⟩ := hh
  refine ⟨ρ, Z, O, rl, WpR.mono (WpR.bind hh) (fun d _ hd v H1 e1 r1 => ⟨ρ, Z, O, rl.ext e1, WpR.mono (WpR.bind hd) (fun d' _ hd' v' H2 e2 r2 => ?_) fun c fs z => z.ext e1⟩) fun c fs z => z⟩
  cases ez : idxD d d' with
  | ok z =>
    rw [ez] at hd'
    exact idx_ok (A := AvO Z O (lkb a)) (r1.ext e2) r2 ez fun w hw => hd' w H2 ⟨e1.trans e2, by simp only [lks]; exact hw, fun f => by cases f⟩
  | exc c fs => exact (idxD_exc ez).elim
  | bad => rw [ez] at hd'; exact hd'.elim
theorem s_slc {a : E} {lo hi : Option E} {x : Expr} {l h : Option Expr} {p p2 : Pos} (ha : Snd T n W X a x) (hl : PO X l (tO T n X.w X.K W lo)) (hh : PO X h (tO T n X.w X.K W hi)) : Snd T n W X (.slc a lo hi) (.Subscript x (.Slice l h none p2) p) := by
  refine Snd.of (PE_imp (pe_slice sl_slc ha.b hl hh) fun σ H Q hh => ?_) (lkb_eq fun _ z => nomatch z) rfl
  obtain ⟨ρ, Z, O, rl, hh⟩ := hh
  refine ⟨ρ, Z, O, rl, WpR.mono (WpR.bind hh) (fun d _ hd v H1 e1 r1 => ⟨ρ, Z, O, rl.ext e1, WpR.mono (WpR.bind hd) (fun i _ hd' H2 e2 => ⟨ρ, Z, O, rl.ext (e1.trans e2), WpR.mono (WpR.bind hd') (fun j _ hd3 H3 e3 => ?_) fun c fs z => z.ext (e1.trans e2)⟩) fun c fs z => z.ext e1⟩) fun c fs z => z⟩
  cases ez : slcD d i j with
  | ok z =>
    rw [ez] at hd3
    refine slc_ok ((rl.ext ((e1.trans e2).trans e3)).trk (lkb a)) ((r1.ext e2).ext e3) ez fun w H4 e4 hn => hd3 w H4 (Post.of ((e1.trans e2).trans e3) (by simp only [lks]; exact hn) e4)
  | exc c fs => unfold slcD at ez; split at ez <;> cases ez
  | bad => rw [ez] at hd3; exact hd3.elim

/-! ### calls -/
theorem s_call {f : Nat} {es : List E} {xs : List Expr} {x : Str} {p p2 : Pos} (g : Gd T G N n sc X) (tk : Takes X W) (h1 : G.fn f = some x) (h2 : glB sc x = true) (h3 : (x == ("__debug__" : Str)) = false) (h4 : xs ≠ []) (h5 : ∀ e ∈ xs, plainX e = true) (h : PA X xs (tEs T n X.w X.K W es)) :
    Snd T n W X (.call f es) (.Call (.Name x p2) xs [] p) := by
  obtain ⟨a, fd, ps, q1, q2, q3, q4⟩ := g.fns f x h1
  have hr : Room (4 * n) X.A := g.room.mono (by omega)
  cases xs with
  | nil => exact absurd rfl h4
  | cons e xs =>
    have hpl : ∀ (l : List Expr), (∀ e ∈ l, plainX e = true) → (backTo p (starEach l X.env)).any (·.1) = false := by
      intro l hl
      induction l with
      | nil => rfl
      | cons z l ih =>
        rw [plainStar (hl z List.mem_cons_self)]
        exact ih fun e he => hl e (List.mem_cons_of_mem _ he)
    refine Snd.of (PE_imp (pe_callS q4 hr (gl_of g.sc h2) q1 q2 q3 (fun σ => passAt tk σ) h h3 (plainStar (h5 e List.mem_cons_self)) (hpl xs fun e he => h5 e (List.mem_cons_of_mem _ he))) fun σ H Q hh => ?_) (lkb_eq fun _ z => nomatch z) rfl
    obtain ⟨ρ, Z, O, rl, hh⟩ := hh
    refine ⟨ρ, Z, O, rl, WpR.mono (WpR.bind hh) (fun ds hds hd vs H1 e1 r1 => ?_) fun c fs z => z⟩
    have hne : ev T n f ds ≠ .bad := fun z => by rw [z] at hd; exact hd
    refine ⟨?_, ds, AvO Z O (lksL es), (rl.ext e1).trk _, r1, WpR.mono hd (fun d _ hd v H2 e2 r2 fr => hd v H2 ⟨e1.trans e2, by simp only [lks]; exact r2, fun f1 f2 => ?_⟩) fun c fs z cls dd H' e x => z cls dd H' (e1.trans e) ?_⟩
    · rw [r1.length]
      cases n with
      | zero => exact absurd rfl hne
      | succ m =>
        unfold ev at hne
        unfold npOf
        cases e3 : T.fn f with
        | none => rw [e3] at hne; exact absurd rfl hne
        | some fn =>
          rw [e3] at hne
          by_cases hl : ds.length = fn.np
          · exact hl
          · simp only [hl, if_false] at hne; exact absurd rfl hne
    · have hfr : frOf T f = true := by
        unfold fresh at f1
        unfold frOf
        exact f1
      obtain ⟨q, w1, w2, w3⟩ := fr hfr
      exact ⟨q, w1, e1.none w2, by simp only [lks]; exact w3⟩
    · exact x.elim
theorem biD_exc {b : Bi} {ds : List D} {c : Cl} {fs : List D} (h : biD b ds = .exc c fs) : False := by
  unfold biD at h
  split at h <;> first | cases h | (split at h <;> first | cases h | (split at h <;> cases h))
theorem s_bi {b : Bi} {es : List E} {xs : List Expr} {p p2 : Pos} (g : Gd T G N n sc X) (h2 : glB sc (biName b) = true) (h4 : xs ≠ []) (h5 : ∀ e ∈ xs, plainX e = true) (h : PA X xs (tBs T n X.w X.K W es)) :
    Snd T n W X (.bi b es) (.Call (.Name (biName b) p2) xs [] p) := by
  cases xs with
  | nil => exact absurd rfl h4
  | cons e xs =>
    have hpl : ∀ (l : List Expr), (∀ e ∈ l, plainX e = true) → (backTo p (starEach l X.env)).any (·.1) = false := by
      intro l hl
      induction l with
      | nil => rfl
      | cons z l ih =>
        rw [plainStar (hl z List.mem_cons_self)]
        exact ih fun e he => hl e (List.mem_cons_of_mem _ he)
    have hn : X.mg (biName b) = none := g.blt _ (by cases b <;> simp [bltNames, biName])
    have hc := call_bi (X := X) g.calm (by have := g.un; omega) b
    have base : PE X (.Call (.Name (biName b) p2) (e :: xs) [] p) (tCB (rBi X.w X.K b) (tBs T n X.w X.K W es)) := by
      have e1 := bi_boot b
      have n1 : biName b ≠ "__name__" := by cases b <;> decide
      have n2 : (biName b == ("__debug__" : Str)) = false := by cases b <;> decide
      cases hv : biVal b with
      | builtin id => rw [hv] at e1 hc; exact pe_callB hc (gl_of g.sc h2) hn e1 h n1 n2 (plainStar (h5 e List.mem_cons_self)) (hpl xs fun e he => h5 e (List.mem_cons_of_mem _ he))
      | type t => rw [hv] at e1 hc; exact pe_callTy hc (gl_of g.sc h2) hn e1 h n1 n2 (plainStar (h5 e List.mem_cons_self)) (hpl xs fun e he => h5 e (List.mem_cons_of_mem _ he))
      | _ => cases b <;> cases hv
    refine Snd.of (PE_imp base fun σ H Q hh => ?_) (lkb_eq fun _ z => nomatch z) rfl
    obtain ⟨ρ, Z, O, rl, hh⟩ := hh
    refine ⟨ρ, Z, O, rl, WpR.mono (WpR.bind hh) (fun ds hds hd vs H1 e1 r1 => ?_) fun c fs z => z⟩
    cases ez : biD b ds with
    | ok z =>
      rw [ez] at hd
      exact bi_ok ((rl.ext e1).trk (lkbL es)) r1 ez fun w H2 e2 hn => hd w H2 (Post.of e1 (by simp only [lks]; exact hn) e2)
    | exc c fs => exact (biD_exc ez).elim
    | bad => rw [ez] at hd; exact hd.elim
end
end Ev

set_option linter.all false
set_option autoImplicit false
set_option maxRecDepth 100000
set_option maxHeartbeats 8000000
/-! .. isinstance, sources, comprehensions; the whole. -/
namespace Ev
open PySem PySem.Spec PyProof.Rows L2

section
variable {T : Tab} {G : Nm} {N : List Str} {n : Nat} {wd : World} {K : PySem.W.Frag} {W : WX} {X : Cx} {sc : Scope} {Z : Zs} {O : Own} {σ : Sta} {H H0 H1 H2 H' : Hp} {ρ : Env} {ex : Expr}

/-! ### isinstance -/
def dTyp : D → String
  | .non => "NoneType"
  | .bl _ => "bool"
  | .int _ => "int"
  | .str _ => "str"
  | .tup _ => "tuple"
  | .lst _ => "list"
  | _ => ""
def tTyp : Ty → String
  | .int => "int"
  | .bool => "bool"
  | .tuple => "tuple"
  | .str => "str"
  | .list => "list"
  | .cls _ => ""
theorem kits : ∀ a ∈ ["NoneType", "bool", "int", "str", "tuple", "list"], ∀ b ∈ ["int", "bool", "tuple", "str", "list"], kitB a b = some (decide (a = b) || (decide (a = "bool") && decide (b = "int"))) := by decide +kernel
theorem isTy_ok {d : D} {t : Ty} {b : Bool} (h : isTy d t = .ok b) : kitB (dTyp d) (tTyp t) = some b := by
  unfold isTy at h
  split at h <;> first
    | (cases h; exact (kits _ (by simp [dTyp]) _ (by simp [tTyp])).trans (by simp [dTyp, tTyp]))
    | cases h
theorem isTy_exc {d : D} {t : Ty} {c : Cl} {fs : List D} (h : isTy d t = .exc c fs) : False := by
  unfold isTy at h
  split at h <;> cases h
theorem tyx {A : Av} {v : V} {d : D} {t : Ty} {b : Bool} (r : RepB wd K H A v d) (h : isTy d t = .ok b) : TyX K H v (.type (dTyp d)) := by
  cases d with
  | non => rw [r.non]; exact .base .non
  | bl b => rw [r.bl]; exact .base (.bl b)
  | int b => rw [r.int]; exact .base (.int b)
  | str b => rw [r.str]; exact .base (.str b)
  | tup ds =>
    obtain ⟨a, xs, rfl, s, _⟩ := r.tup
    rcases s with s | ⟨o, its, n, h1, h2, _⟩
    · rcases s with s | ⟨o, s⟩
      · exact .base (.tup s)
      · exact .fTuple s
    · exact .kTuple h1 h2
  | lst ds =>
    obtain ⟨a, xs, rfl, s, _⟩ := r.lst
    exact .base (.lst s)
  | scr ds => cases t <;> simp [isTy] at h
  | ins c fs => cases t <;> simp [isTy] at h
  | dK kvs => cases t <;> simp [isTy] at h
  | dN kvs => cases t <;> simp [isTy] at h
theorem ty_boot {t : Ty} {c : Str} (h : typeName t = some c) : bootBuiltins c = some (.type (tTyp t)) ∧ c ∈ bltNames ∧ c ≠ "__name__" ∧ (c == ("__debug__" : Str)) = false := by
  cases t <;> simp only [typeName, Option.some.injEq, reduceCtorEq] at h <;> subst h
  · exact ⟨PyProof.Rows.boot_int, by simp [bltNames], by decide, by decide⟩
  · exact ⟨by decide +kernel, by simp [bltNames], by decide, by decide⟩
  · exact ⟨PyProof.Rows.boot_tuple, by simp [bltNames], by decide, by decide⟩
  · exact ⟨by decide +kernel, by simp [bltNames], by decide, by decide⟩
  · exact ⟨PyProof.Rows.boot_list, by simp [bltNames], by decide, by decide⟩
theorem s_isi {a : E} {t : Ty} {y : Expr} {c : Str} {p p2 p3 : Pos} (g : Gd T G N n sc X) (h1 : glB sc "isinstance" = true) (h2 : glB sc c = true) (h3 : typeName t = some c) (hy : plainX y = true) (ha : Snd T n W X a y) :
    Snd T n W X (.isi a t) (.Call (.Name "isinstance" p2) [y, .Name c p3] [] p) := by
  obtain ⟨b1, b2, b3, b4⟩ := ty_boot h3
  have hz : PE X (.Name c p3) (tC (.ty (tTyp t))) := pe_bltn (gl_of g.sc h2) (g.blt _ b2) b1 rfl b3 b4
  have base := pe_callB (X := X) (pos := p) (p := p2) call_isi (gl_of g.sc h1) (g.blt _ (by simp [bltNames])) (by decide +kernel) (pa_cons ha.b (pa_cons hz pa_nil) (plainStar hy)) (by decide) (by decide) (plainStar hy) rfl
  refine Snd.of (PE_imp base fun σ H Q hh => ?_) (lkb_eq fun _ z => nomatch z) rfl
  obtain ⟨ρ, Z, O, rl, hh⟩ := hh
  refine ⟨ρ, Z, O, rl, WpR.mono (WpR.bind hh) (fun d _ hd v H1 e1 r1 => ?_) fun c fs z => z⟩
  cases ez : isTy d t with
  | ok b =>
    rw [ez] at hd
    exact ⟨v, .ty (tTyp t), _, _, b, rfl, .ty _, tyx r1 ez, kit_ty (isTy_ok ez), hd _ H1 ⟨e1, .bl _, fun f => by cases f⟩⟩
  | exc c fs => exact (isTy_exc ez).elim
  | bad => rw [ez] at hd; exact hd.elim

/-! ### sources -/
theorem goes_lstQ {A B : Av} {a : Addr} {xs : List V} {ds : List D} (hs : SqL K H0 a xs) (hb : ¬ B a ∨ KLst K a xs) (hr : Reps wd K H0 A xs ds) (hBA : ∀ b, B b → A b) : Goes wd K H0 A B (Itl K a) ds := by
  intro H k
  have s : SqL K H a xs := by
    rcases hb with hb | hb
    · rcases hs with hs | hs
      · exact .inl (rd_ext hs fun o e => k a o e hb)
      · exact .inr hs
    · exact .inr hb
  have hr' : Reps wd K H A xs ds := hr.to fun b o e n => ⟨k b o e fun z => n (hBA b z), n⟩
  have hl := hr'.length
  refine ⟨fun i hi => ⟨xs, xs[i], s, by simp⟩, fun i hi => ⟨xs, s, by omega⟩, fun i x H' hi y => ?_⟩
  obtain ⟨e, y⟩ := y
  have := y xs s
  obtain ⟨d, h1, h2⟩ := hr.getV this
  exact ⟨e, d, h1, h2⟩
theorem goes_lst {A B : Av} {a : Addr} {xs : List V} {ds : List D} (hs : Rd H0 a (.lst xs)) (hb : ¬ B a) (hr : Reps wd K H0 A xs ds) (hBA : ∀ b, B b → A b) : Goes wd K H0 A B (Itl K a) ds := goes_lstQ (.inl hs) (.inl hb) hr hBA
theorem goes_tup {A B : Av} {a : Addr} {xs : List V} {ds : List D} (hs : SqT K H0 a xs) (hb : ¬ B a ∨ KTup K a xs) (hr : Reps wd K H0 A xs ds) (hBA : ∀ b, B b → A b) : Goes wd K H0 A B (Itt K a) ds := by
  intro H k
  have s : SqT K H a xs := by
    rcases hb with hb | hb
    · rcases hs with hs | hs
      · exact .inl (rd_ext hs fun o e => k a o e hb)
      · exact .inr hs
    · exact .inr hb
  have hr' : Reps wd K H A xs ds := hr.to fun b o e n => ⟨k b o e fun z => n (hBA b z), n⟩
  have hl := hr'.length
  refine ⟨fun i hi => ⟨xs, xs[i], s, by simp⟩, fun i hi => ⟨xs, s, by omega⟩, fun i x H' hi y => ?_⟩
  obtain ⟨e, y⟩ := y
  have := y xs s
  obtain ⟨d, h1, h2⟩ := hr.getV this
  exact ⟨e, d, h1, h2⟩
theorem goes_rng {A B : Av} (lo : Int) (m : Nat) : Goes wd K H0 A B (Itr lo m) ((List.range m).map fun (k : Nat) => .int (lo + k)) := by
  intro H k
  refine ⟨fun i hi => ?_, fun i hi => ?_, fun i x H' hi y => ?_⟩
  · simpa [Itr] using hi
  · simpa [Itr] using hi
  · obtain ⟨e, y⟩ := y
    subst y
    have hi' : i < m := by simpa using hi
    exact ⟨e, _, by simp [hi'], .int _⟩
theorem goes_rngC {A B : Av} (lo : Int) (m : Nat) : Goes wd K H0 A B (Itc lo (-1) m) ((List.range m).map fun (k : Nat) => .int (lo - k)) := by
  intro H k
  refine ⟨fun i hi => ?_, fun i hi => ?_, fun i x H' hi y => ?_⟩
  · simpa [Itc] using hi
  · simpa [Itc] using hi
  · obtain ⟨e, y⟩ := y
    subst y
    have hi' : i < m := by simpa using hi
    refine ⟨e, .int (lo - i), by simp [hi'], ?_⟩
    have : lo + (i : Int) * (-1) = lo - i := by omega
    rw [this]
    exact .int _
theorem s_rng {tg : Expr} {es : List E} {xs : List Expr} {p p2 : Pos} (g : Gd T G N n sc X) (h1 : glB sc "range" = true) (hl : 1 ≤ xs.length ∧ xs.length ≤ 3) (he : es.length = xs.length) (h5 : ∀ e ∈ xs, plainX e = true) (h : PA X xs (tBs T n X.w X.K W es)) :
    PI X tg (.Call (.Name "range" p2) xs [] p) (tS T n X.w X.K W (.rng es)) := by
  have hm : X.mg "range" = none := g.blt _ (by simp [bltNames])
  have hg := gl_of g.sc h1
  have st : ∀ {l : List Expr}, (∀ e ∈ l, plainX e = true) → starEach l X.env = l.map fun e => (false, eval e X.env) := by
    intro l hl
    induction l with
    | nil => rfl
    | cons z l ih =>
      rw [plainStar (hl z List.mem_cons_self), ih fun e he => hl e (List.mem_cons_of_mem _ he)]
      rfl
  have one : ∀ {A : Av} {H : Hp} {vs : List V} {i : Int}, RepBs X.w X.K H A vs [.int i] → vs = [.int i] := fun {A H vs i} r => by
    obtain ⟨x, rfl, q⟩ := r.one
    rw [q.int]
  have two : ∀ {A : Av} {H : Hp} {vs : List V} {i j : Int}, RepBs X.w X.K H A vs [.int i, .int j] → vs = [.int i, .int j] := fun {A H vs i j} r => by
    obtain ⟨x, y, rfl, q1, q2⟩ := r.two
    rw [q1.int, q2.int]
  have three : ∀ {A : Av} {H : Hp} {vs : List V} {i j k : Int}, RepBs X.w X.K H A vs [.int i, .int j, .int k] → vs = [.int i, .int j, .int k] := fun {A H vs i j k} r => by
    cases r with
    | cons r t => rw [r.int, two t]
  refine ⟨fun pins s σ H R I hh => ?_⟩
  obtain ⟨ρ, Z, O, rl, hh⟩ := hh
  have hw := WpR.bind hh
  have ln : ∀ ds : List D, evEs T (ev T n) ρ es = .ok ds → ds.length = xs.length := fun ds h => (s_tup.evEs_len h).trans he
  match xs, hl, h5, h, ln with
  | [], hl, _, _, _ => exact absurd hl.1 (by decide)
  | [a], _, h5, h, ln =>
    refine (pi_range1 (tg := tg) hg hm h (st h5)).run pins s σ H R I ⟨ρ, Z, O, rl, WpR.mono hw (fun ds e1 hd vs H1 x1 r1 => ?_) fun c fs z => z⟩
    match ds, ln _ e1, hd, r1 with
    | [.int i], _, hd, r1 =>
      simp only [rangeD] at hd
      split at hd
      · rename_i hz
        rw [one r1]
        refine ⟨_, rfl, hz.1, hz.2, hd _ H1 x1 fun B _ _ => ?_⟩
        have := goes_rng (wd := X.w) (K := X.K) (H0 := H1) (A := AvO Z O (lkr (.rng es))) (B := B) 0 i.toNat
        simpa using this
      · exact hd.elim
    | [.non], _, hd, _ => exact hd.elim
    | [.bl _], _, hd, _ => exact hd.elim
    | [.str _], _, hd, _ => exact hd.elim
    | [.tup _], _, hd, _ => exact hd.elim
    | [.lst _], _, hd, _ => exact hd.elim
    | [.scr _], _, hd, _ => exact hd.elim
    | [.ins _ _], _, hd, _ => exact hd.elim
    | [.dK _], _, hd, _ => exact hd.elim
    | [.dN _], _, hd, _ => exact hd.elim
  | [a, b], _, h5, h, ln =>
    refine (pi_range2 (tg := tg) hg hm h (st h5) (st fun e he => h5 e (List.mem_cons_of_mem _ he))).run pins s σ H R I ⟨ρ, Z, O, rl, WpR.mono hw (fun ds e1 hd vs H1 x1 r1 => ?_) fun c fs z => z⟩
    have hlen := ln _ e1
    unfold rangeD at hd
    split at hd
    · cases hlen
    · split at hd
      · rename_i hz
        rw [two r1]
        exact ⟨_, _, rfl, hz, hd _ H1 x1 fun B _ _ => goes_rng (wd := X.w) _ _⟩
      · exact hd.elim
    · cases hlen
    · exact hd.elim
  | [a, b, c], _, h5, h, ln =>
    have h5' : ∀ e ∈ [b, c], plainX e = true := fun e he => h5 e (List.mem_cons_of_mem _ he)
    refine (pi_range3 (tg := tg) hg hm h (plainStar (h5 a List.mem_cons_self)) (by rw [st h5']; rfl)).run pins s σ H R I ⟨ρ, Z, O, rl, WpR.mono hw (fun ds e1 hd vs H1 x1 r1 => ?_) fun c fs z => z⟩
    have hlen := ln _ e1
    unfold rangeD at hd
    split at hd
    · cases hlen
    · cases hlen
    · split at hd
      · rename_i hz
        obtain ⟨h0, h1, h2, h3, h4⟩ := hz
        subst h0
        rw [three r1]
        exact ⟨_, _, _, _, rfl, RgC.neg (by omega) (by omega) (by omega) (by omega), hd _ H1 x1 fun B _ _ => goes_rngC (wd := X.w) _ _⟩
      · exact hd.elim
    · exact hd.elim
  | _ :: _ :: _ :: _ :: _, hl, _, _, _ => exact absurd hl.2 (by simp)
theorem goes_dct {A B : Av} {a : Addr} {ep : Nat} {xs : List (NestedKey × Addr × V)} {ds : List D} (hs : H0 a = some (dctO wd a ep xs)) (hb : ¬ B a) (hr : Reps wd K H0 A (dRefs xs) ds) (hBA : ∀ b, B b → A b) : Goes wd K H0 A B (Itn wd a ep xs.length) ds := by
  intro H k
  have s := k a _ hs hb
  have hl := hr.length
  rw [List.length_map] at hl
  refine ⟨fun i hi => ⟨by omega, xs, s, rfl⟩, fun i hi => ⟨by omega, xs, s, rfl⟩, fun i x H' hi y => ?_⟩
  obtain ⟨e, y⟩ := y
  obtain ⟨d, h1, h2⟩ := hr.getV (y xs s)
  exact ⟨e, d, h1, h2⟩
theorem goes_rep {A : Av} {v : V} {d : D} {ds : List D} (r : Rep wd K H0 A v d) (h : seqOf d = some ds) :
    ∃ a, v = .ref a ∧ (((∃ xs, SqL K H0 a xs) ∧ ∀ B, (∀ b, B b → A b) → Goes wd K H0 A B (Itl K a) ds) ∨ ((∃ xs, SqT K H0 a xs) ∧ ∀ B, (∀ b, B b → A b) → Goes wd K H0 A B (Itt K a) ds) ∨ ∃ ep xs, H0 a = some (dctO wd a ep xs) ∧ ∀ B, (∀ b, B b → A b) → Goes wd K H0 A B (Itn wd a ep xs.length) ds) := by
  cases r with
  | tup e nA r => cases h; exact ⟨_, rfl, .inr (.inl ⟨⟨_, SqT.of e⟩, fun B hB => goes_tup (SqT.of e) (.inl fun z => nA (hB _ z)) r hB⟩)⟩
  | tupK e r => cases h; exact ⟨_, rfl, .inr (.inl ⟨⟨_, .inr e⟩, fun B hB => goes_tup (.inr e) (.inr e) r hB⟩)⟩
  | dN e nA r1 r2 q => cases h; exact ⟨_, rfl, .inr (.inr ⟨_, _, e, fun B hB => goes_dct e (fun z => nA (hB _ z)) r1 hB⟩)⟩
  | lst e nA r => cases h; exact ⟨_, rfl, .inl ⟨⟨_, SqL.of e⟩, fun B hB => goes_lst (.inl e) (fun z => nA (hB _ z)) r hB⟩⟩
  | scr e nA r => cases h; exact ⟨_, rfl, .inl ⟨⟨_, .inl e⟩, fun B hB => goes_lst e (fun z => nA (hB _ z)) r hB⟩⟩
  | scrK e r => cases h; exact ⟨_, rfl, .inl ⟨⟨_, .inr e⟩, fun B hB => goes_lstQ (.inr e) (.inr e) r hB⟩⟩
  | _ => cases h
/-- a source that is a sequence: by what it turns out to be -/
theorem s_seq {tg : Expr} {e : E} {x : Expr} (ha : Snd T n W X e x) (hv : ∀ i, e = .var i → PE X x (tVar i)) : PI X tg x (tS T n X.w X.K W (.seq e)) := by
  refine ⟨fun pins s σ H R I hh => ?_⟩
  obtain ⟨ρ, Z, O, rl, hh⟩ := hh
  have hw := WpR.bind hh
  by_cases hvar : ∃ i, e = .var i
  · obtain ⟨i, rfl⟩ := hvar
    have hp := hv i rfl
    have fin : ∀ {v : V} {d : D} {ds : List D}, σ[i]? = some (some v) → evE T (ev T n) ρ (.var i) = .ok d → seqOf d = some ds →
        (∀ J, (∀ B : Av, (∀ b, B b → AvO Z O (lkr (.seq (.var i))) b) → (∀ y b, srcVar (.seq (.var i)) = some y → O y = some b → ¬ B b) → Goes X.w X.K H (AvO Z O (lkr (.seq (.var i)))) B J ds) → R J H) := fun {v d ds} e1 e2 e3 J hJ => by
      have hh2 := hh
      simp only [evSrc, e2, ok_bind, e3, ofO_some] at hh2
      exact hh2 J H .refl hJ
    cases e1 : ρ[i]? with
    | none => simp only [evE, e1] at hw; exact hw.elim
    | some sl =>
      have ev1 : ∀ d, (sl = .val d ∨ sl = .own d) → evE T (ev T n) ρ (.var i) = .ok d := fun d z => by
        simp only [evE, e1]
        rcases z with rfl | rfl <;> rfl
      cases sl with
      | no => simp only [evE, e1] at hw; exact hw.elim
      | slf c fs => simp only [evE, e1] at hw; exact hw.elim
      | val d =>
        obtain ⟨v, q1, q2⟩ := rl.val i d e1
        cases e3 : seqOf d with
        | none => rw [ev1 d (.inl rfl)] at hw; simp only [WpR, e3, ofO_none] at hw
        | some ds =>
          have q2' : Rep X.w X.K H (AvO Z O (lkr (.seq (.var i)))) v d := by simp only [lkr, lkb]; exact q2
          obtain ⟨a, rfl, h | h | ⟨ep, xs, h1, h⟩⟩ := goes_rep q2' e3
          · exact (pi_list (tg := tg) hp).run pins s σ H R I ⟨_, q1, a, rfl, h.1, fin q1 (ev1 d (.inl rfl)) e3 _ fun B hB _ => h.2 B hB⟩
          · exact (pi_tup (tg := tg) hp).run pins s σ H R I ⟨_, q1, a, rfl, h.1, fin q1 (ev1 d (.inl rfl)) e3 _ fun B hB _ => h.2 B hB⟩
          · exact (pi_dictN (tg := tg) hp).run pins s σ H R I ⟨_, q1, a, ep, xs, rfl, h1, fin q1 (ev1 d (.inl rfl)) e3 _ fun B hB _ => h B hB⟩
      | own d =>
        obtain ⟨a, q0, q1, q2⟩ := rl.own i d e1
        cases e3 : seqOf d with
        | none => rw [ev1 d (.inr rfl)] at hw; simp only [WpR, e3, ofO_none] at hw
        | some ds =>
          cases q2 with
          | lst el r =>
            cases e3
            refine (pi_list (tg := tg) hp).run pins s σ H R I ⟨_, q1, a, rfl, ⟨_, SqL.of el⟩, fin q1 (ev1 _ (.inr rfl)) rfl _ fun B hB hO => goes_lst (.inl el) (hO i a rfl q0) ?_ hB⟩
            simp only [lkr, lkb]
            exact r
          | dK e4 _ _ => cases e3
          | dN e4 r1 r2 q =>
            cases e3
            refine (pi_dictN (tg := tg) hp).run pins s σ H R I ⟨_, q1, a, _, _, rfl, e4, fin q1 (ev1 _ (.inr rfl)) rfl _ fun B hB hO => goes_dct e4 (hO i a rfl q0) ?_ hB⟩
            simp only [lkr, lkb]
            exact r1
  · have hnv : ∀ i, e ≠ .var i := fun i z => hvar ⟨i, z⟩
    have hl := lkb_eq hnv
    have use : ∀ {d : D} {ds : List D} {v : V} {H1 : Hp}, evE T (ev T n) ρ e = .ok d → seqOf d = some ds → Ext H H1 → Rep X.w X.K H1 (AvO Z O (lks e)) v d →
        ∀ J, (∀ B, (∀ b, B b → AvO Z O (lks e) b) → Goes X.w X.K H1 (AvO Z O (lks e)) B J ds) → R J H1 := fun {d ds v H1} e2 e3 x r J hJ => by
      have hh2 := hh
      simp only [evSrc, e2, ok_bind, e3, ofO_some] at hh2
      refine hh2 J H1 x fun B hB _ => ?_
      simp only [lkr, hl] at hB ⊢
      exact hJ B hB
    cases e2 : evE T (ev T n) ρ e with
    | bad => rw [e2] at hw; exact hw.elim
    | exc c fs =>
      rw [e2] at hw
      exact (pi_list (tg := tg) ha.v).run pins s σ H R I ⟨ρ, Z, O, rl, by rw [e2]; exact hw⟩
    | ok d =>
      cases e3 : seqOf d with
      | none => rw [e2] at hw; simp only [WpR, e3, ofO_none] at hw
      | some ds =>
        cases d with
        | tup es =>
          refine (pi_tup (tg := tg) ha.v).run pins s σ H R I ⟨ρ, Z, O, rl, ?_⟩
          rw [e2]
          intro v H1 p1
          obtain ⟨a, rfl, h | h | ⟨ep, xs, h1, h⟩⟩ := goes_rep p1.2.1 e3
          · have := p1.2.1
            cases this <;> exact ⟨a, rfl, (by first | exact ⟨_, SqT.of ‹_›⟩ | exact ⟨_, .inr ‹_›⟩), use e2 e3 p1.1 p1.2.1 _ (by
              cases e3
              first
                | exact fun B hB => goes_tup (SqT.of ‹_›) (.inl fun z => ‹¬ _› (hB _ z)) ‹_› hB
                | exact fun B hB => goes_tup (.inr ‹_›) (.inr ‹_›) ‹_› hB)⟩
          · exact ⟨a, rfl, h.1, use e2 e3 p1.1 p1.2.1 _ h.2⟩
          · have := p1.2.1
            cases this <;> exact ⟨a, rfl, (by first | exact ⟨_, SqT.of ‹_›⟩ | exact ⟨_, .inr ‹_›⟩), use e2 e3 p1.1 p1.2.1 _ (by
              cases e3
              first
                | exact fun B hB => goes_tup (SqT.of ‹_›) (.inl fun z => ‹¬ _› (hB _ z)) ‹_› hB
                | exact fun B hB => goes_tup (.inr ‹_›) (.inr ‹_›) ‹_› hB)⟩
        | dN kvs =>
          refine (pi_dictN (tg := tg) ha.v).run pins s σ H R I ⟨ρ, Z, O, rl, ?_⟩
          rw [e2]
          intro v H1 p1
          have := p1.2.1
          cases this with
          | dN e4 nA r1 r2 q =>
            cases e3
            exact ⟨_, _, _, rfl, e4, use e2 rfl p1.1 p1.2.1 _ fun B hB => goes_dct e4 (fun z => nA (hB _ z)) r1 hB⟩
        | lst es =>
          refine (pi_list (tg := tg) ha.v).run pins s σ H R I ⟨ρ, Z, O, rl, ?_⟩
          rw [e2]
          intro v H1 p1
          have := p1.2.1
          cases this with
          | lst e4 nA r =>
            cases e3
            exact ⟨_, rfl, ⟨_, SqL.of e4⟩, use e2 rfl p1.1 p1.2.1 _ fun B hB => goes_lst (.inl e4) (fun z => nA (hB _ z)) r hB⟩
        | scr es =>
          refine (pi_list (tg := tg) ha.v).run pins s σ H R I ⟨ρ, Z, O, rl, ?_⟩
          rw [e2]
          intro v H1 p1
          have := p1.2.1
          cases this with
          | scr e4 nA r =>
            cases e3
            exact ⟨_, rfl, ⟨_, .inl e4⟩, use e2 rfl p1.1 p1.2.1 _ fun B hB => goes_lst e4 (fun z => nA (hB _ z)) r hB⟩
          | scrK e4 r =>
            cases e3
            exact ⟨_, rfl, ⟨_, .inr e4⟩, use e2 rfl p1.1 p1.2.1 _ fun B hB => goes_lstQ (.inr e4) (.inr e4) r hB⟩
        | _ => cases e3
end
end Ev

set_option linter.all false
set_option autoImplicit false
set_option maxRecDepth 100000
set_option maxHeartbeats 8000000
/-! Comprehensions; the theorem about all expressions. -/
namespace Ev
open PySem PySem.Spec PyProof.Rows L2

section
variable {T : Tab} {G : Nm} {N : List Str} {n : Nat} {wd : World} {K : PySem.W.Frag} {W : WX} {X : Cx} {sc : Scope} {Z : Zs} {O : Own} {σ : Sta} {H H0 H1 H2 Hc H' : Hp} {ρ : Env} {ex : Expr}
abbrev W0 : WX := fun _ _ _ _ => False
theorem set_get {α : Type} {l : List α} {i j : Nat} {a b : α} (h : (l.set i a)[j]? = some b) : (i = j ∧ a = b) ∨ (i ≠ j ∧ l[j]? = some b) := by
  rw [List.getElem?_set] at h
  split at h
  · rename_i e
    split at h
    · exact .inl ⟨e, Option.some.inj h⟩
    · cases h
  · exact .inr ⟨‹_›, h⟩
theorem Rl.blk {x : Nat} {Dd : Addr} {xv : V} {d : D} {σ' : Sta} (r : Rl wd K Z O σ H1 ρ) (hD : H1 Dd = none) (hx : anyOwn [x] ρ = false) (k : Ext H1 Hc) (hc : ∃ o, Hc Dd = some o) (rx : Rep wd K H1 (AvO Z O []) xv d)
    (hσ : σ' = σ.set x (some xv)) : Rl wd K (Z.add Dd) O σ' Hc (ρ.set x (.val d)) := by
  subst hσ
  have up : ∀ b o, H1 b = some o → ¬ AvO Z O [] b → Hc b = some o ∧ ¬ AvO (Z.add Dd) O [] b := fun b o e n => by
    refine ⟨k b o e, fun z => ?_⟩
    rcases z with (z | z) | z
    · exact n (.inl z)
    · subst z; rw [hD] at e; cases e
    · exact n (.inr z)
  have hno : ∀ d, ρ[x]? ≠ some (.own d) := fun d e => by
    simp [anyOwn, e] at hx
  refine ⟨by rw [List.length_set, List.length_set, r.len], fun i e h => ?_, fun i e h => ?_, fun i a h => ?_, r.inj, fun i a h z => ?_, fun b z => ?_, fun i c fs h => ?_⟩
  · rcases set_get h with ⟨rfl, q⟩ | ⟨h1, h⟩
    · cases q
      refine ⟨xv, ?_, rx.to up⟩
      have hl : x < (ρ.set x (.val d)).length := (List.getElem?_eq_some_iff.mp h).1
      rw [List.length_set] at hl
      rw [List.getElem?_set_self (by rw [r.len]; exact hl)]
    · obtain ⟨v, q1, q2⟩ := r.val i e h
      exact ⟨v, by rw [List.getElem?_set_ne h1]; exact q1, q2.to up⟩
  · rcases set_get h with ⟨rfl, q⟩ | ⟨h1, h⟩
    · cases q
    · obtain ⟨a, q0, q1, q2⟩ := r.own i e h
      exact ⟨a, q0, by rw [List.getElem?_set_ne h1]; exact q1, q2.to (fun o e => k a o e) up⟩
  · obtain ⟨e, q⟩ := r.dom i a h
    have hne : x ≠ i := fun z => by subst z; exact hno e q
    exact ⟨e, by rw [List.getElem?_set_ne hne]; exact q⟩
  · rcases z with z | z
    · exact r.nz i a h z
    · subst z
      obtain ⟨o, q⟩ := r.trk [] a (.inr ⟨i, (fun z => nomatch z), h⟩)
      rw [hD] at q; cases q
  · rcases z with z | z
    · obtain ⟨o, q⟩ := r.zt b z
      exact ⟨o, k b o q⟩
    · subst z; exact hc
  · rcases set_get h with ⟨rfl, q⟩ | ⟨h1, h⟩
    · cases q
    · obtain ⟨a, q0, q1, q2, dx, vs, q3, q4, q5, q6⟩ := r.slf i c fs h
      exact ⟨a, q0, by rw [List.getElem?_set_ne h1]; exact q1, .inl q2, dx, vs, k _ _ q3, q4, q5, q6.to up⟩
theorem compR_cons {c : D → R Bool} {f : D → R D} {d : D} {ds vs : List D} (h : compR c f (d :: ds) = .ok vs) :
    (c d = .ok false ∧ compR c f ds = .ok vs) ∨ (c d = .ok true ∧ ∃ v r, f d = .ok v ∧ compR c f ds = .ok r ∧ vs = v :: r) := by
  unfold compR at h
  split at h
  · exact .inl ⟨‹_›, h⟩
  · split at h
    · split at h
      · cases h
        exact .inr ⟨‹_›, _, _, ‹_›, ‹_›, rfl⟩
      · cases h
    · cases h
  · cases h
def tTest0 (T : Tab) (n : Nat) (wd : World) (K : PySem.W.Frag) : Option E → TT
  | none => tYes
  | some c => tT T n wd K W0 c
theorem s_comp {elt : E} {x : Nat} {src : Src} {cond : Option E} {e it : Expr} {ifs : List Expr} {nm : Str} {scope : Scope} {p p2 : Pos} (g : Gd T G N n sc X) (hN : X.N[x]? = some nm) (hb : BlkOk X.N X.env.scope scope [(nm, x)])
    (hg : ∀ (s : Shared) (H : Hp) (C : Addr) (cl : List (Str × Addr)) (fp : List Addr), PG (X.blk s H scope (compEnvC scope cl C X.env) fp) (.Name nm p2) (gName x))
    (hS : PI X (.Name nm p2) it (tS T n X.w X.K W src)) (hfold : ∀ y, foldedSetIterable it X.env y = pure y)
    (ht : ∀ (s : Shared) (H : Hp) (C : Addr) (cl : List (Str × Addr)) (fp : List Addr), PTs (X.blk s H scope (compEnvC scope cl C X.env) fp) ifs (tTest0 T n X.w X.K cond))
    (he : ∀ (s : Shared) (H : Hp) (C : Addr) (cl : List (Str × Addr)) (fp : List Addr), PE (X.blk s H scope (compEnvC scope cl C X.env) fp) e (tE T n X.w X.K W0 elt)) :
    (∀ σ H Q, tE T n X.w X.K W (.comp elt x src cond) σ H Q → tLc (tS T n X.w X.K W src) (gName x) (tTest0 T n X.w X.K cond) (tE T n X.w X.K W0 elt) [x] σ H Q) ∧ Snd T n W X (.comp elt x src cond) (.ListComp e [⟨.Name nm p2, it, ifs, 0⟩] scope p) := by
  have key : ∀ σ H Q, tE T n X.w X.K W (.comp elt x src cond) σ H Q → tLc (tS T n X.w X.K W src) (gName x) (tTest0 T n X.w X.K cond) (tE T n X.w X.K W0 elt) [x] σ H Q := by
    intro σ H Q hh
    obtain ⟨ρ, Z, O, rl, hh⟩ := hh
    simp only [evE] at hh
    split at hh
    · exact hh.elim
    · rename_i hown
      have hown : anyOwn (x :: lkr src) ρ = false := by simpa using hown
      have o1 : anyOwn [x] ρ = false := by simp [anyOwn] at hown ⊢; exact hown.1
      have o2 : anyOwn (lkr src) ρ = false := by simp [anyOwn] at hown ⊢; exact hown.2
      refine ⟨ρ, Z, O, rl, WpR.mono (WpR.bind hh) (fun ds _ hd J H1 x1 hJ => fun Dd hD => ?_) fun c fs z => z⟩
      generalize hcR : (fun d => match cond with
        | none => (R.ok true : R Bool)
        | some c => (evE T (ev T n) (ρ.set x (.val d)) c).bind truth) = cR at hd
      generalize hfR : (fun d => evE T (ev T n) (ρ.set x (.val d)) elt) = fR at hd
      cases hvs : compR cR fR ds with
      | bad => rw [hvs] at hd; exact hd.elim
      | exc c fs => rw [hvs] at hd; exact hd.elim
      | ok vs =>
        rw [hvs] at hd
        simp only at hd
        split at hd
        · rename_i hlen
          have rl1 := rl.ext x1
          have hA : ∀ b, AvO Z O [] b → AvO Z O (lkr src) b := rl.noOwn o2
          have goes := hJ (fun _ => False) (fun b z => z.elim) (fun y b _ _ z => z)
          refine ⟨fun i m Hc => m = ds.length - i ∧ i ≤ ds.length ∧ Ext H1 Hc ∧ ∃ acc dn rest, Hc Dd = some (.lst acc) ∧ Reps X.w X.K Hc (AvO (Z.add Dd) O (lks elt)) acc dn ∧ compR cR fR (ds.drop i) = .ok rest ∧ vs = dn ++ rest ∧ acc.length ≤ i,
            ⟨ds.length, by simp, Nat.zero_le _, Ext.upd hD, [], [], vs, upd_same, .nil, by simpa using hvs, rfl, Nat.le_refl _⟩, ?_⟩
          rintro i m Hc ⟨rfl, hi, xc, acc, dn, rest, hDc, racc, hrest, hvs2, hacc⟩
          obtain ⟨g1, g2, g3⟩ := goes Hc fun b o e _ => xc b o e
          by_cases hlt : i < ds.length
          · refine .inr ⟨g1 i hlt, fun Hn => i + 1 ≤ ds.length ∧ Ext H1 Hn ∧ ∃ acc dn rest, Hn Dd = some (.lst acc) ∧ Reps X.w X.K Hn (AvO (Z.add Dd) O (lks elt)) acc dn ∧ compR cR fR (ds.drop (i + 1)) = .ok rest ∧ vs = dn ++ rest ∧ acc.length ≤ i + 1,
              fun Hn hn => ⟨ds.length - (i + 1), by omega, rfl, hn⟩, fun xv H' hy => ?_⟩
            obtain ⟨rfl, d, hd1, hd2⟩ := g3 i xv H' hlt hy
            have hd2' : Rep X.w X.K H1 (AvO Z O []) xv d := hd2.sub hA
            have hdrop : ds.drop i = d :: ds.drop (i + 1) := by
              obtain ⟨h1, h2⟩ := List.getElem?_eq_some_iff.mp hd1
              rw [List.drop_eq_getElem_cons h1, h2]
            have hσ : (wipe σ [x]).set x (some xv) = σ.set x (some xv) := by
              show (σ.set x none).set x (some xv) = _
              rw [List.set_set]
            refine ⟨?_, ?_⟩
            · show (((wipe σ [x]).set x (some xv))).set x none = wipe σ [x]
              rw [hσ]
              show (σ.set x (some xv)).set x none = σ.set x none
              rw [List.set_set]
            · have rb := fun {Hd : Hp} (k : Ext H' Hd) => rl1.blk (σ' := (wipe σ [x]).set x (some xv)) hD o1 (xc.trans k) ⟨_, k _ _ hDc⟩ hd2' hσ
              rw [hdrop] at hrest
              have go : ∀ b H3, Ext H' H3 → cR d = .ok b → (if b = true then tE T n X.w X.K W0 elt ((wipe σ [x]).set x (some xv)) H3 (fun y H4 => ∃ acc, H4 Dd = some (.lst acc) ∧ acc.length < sizeLine ∧ (i + 1 ≤ ds.length ∧ Ext H1 (upd H4 Dd (.lst (acc ++ [y]))) ∧ ∃ acc' dn rest, upd H4 Dd (.lst (acc ++ [y])) Dd = some (.lst acc') ∧ Reps X.w X.K (upd H4 Dd (.lst (acc ++ [y]))) (AvO (Z.add Dd) O (lks elt)) acc' dn ∧ compR cR fR (ds.drop (i + 1)) = .ok rest ∧ vs = dn ++ rest ∧ acc'.length ≤ i + 1)) else
                  (i + 1 ≤ ds.length ∧ Ext H1 H3 ∧ ∃ acc dn rest, H3 Dd = some (.lst acc) ∧ Reps X.w X.K H3 (AvO (Z.add Dd) O (lks elt)) acc dn ∧ compR cR fR (ds.drop (i + 1)) = .ok rest ∧ vs = dn ++ rest ∧ acc.length ≤ i + 1)) := by
                intro b H3 x3 hb
                rcases compR_cons hrest with ⟨c1, c2⟩ | ⟨c1, v, r, c2, c3, rfl⟩
                · rw [c1] at hb; cases hb
                  rw [if_neg (by decide)]
                  exact ⟨hlt, xc.trans x3, acc, dn, rest, x3 _ _ hDc, racc.ext x3, c2, hvs2, by omega⟩
                · rw [c1] at hb; cases hb
                  rw [if_pos rfl]
                  refine ⟨_, _, _, rb x3, ?_⟩
                  have c2' : evE T (ev T n) (ρ.set x (.val d)) elt = .ok v := by rw [← hfR] at c2; exact c2
                  rw [c2']
                  intro y H4 p4
                  have x4 := x3.trans p4.1
                  have hD4 : H4 Dd = some (.lst acc) := x4 _ _ hDc
                  have keep : ∀ b o, H4 b = some o → ¬ AvO (Z.add Dd) O (lks elt) b → upd H4 Dd (.lst (acc ++ [y])) b = some o ∧ ¬ AvO (Z.add Dd) O (lks elt) b := fun b o e nb => by
                    have hne : b ≠ Dd := fun z => nb (.inl (.inr z))
                    exact ⟨by rw [upd_ne hne]; exact e, nb⟩
                  refine ⟨acc, hD4, ?_, hlt, fun b o e => ?_, acc ++ [y], dn ++ [v], r, upd_same, ((racc.ext x4).append (.cons p4.2.1 .nil)).to keep, c3, ?_, ?_⟩
                  · rw [← lineSz_eq]; omega
                  · have hne : b ≠ Dd := fun z => by subst z; rw [hD] at e; cases e
                    rw [upd_ne hne]
                    exact (xc.trans x4) b o e
                  · rw [hvs2, List.append_assoc]; rfl
                  · rw [List.length_append, List.length_singleton]; omega
              cases cond with
              | none =>
                have hb : cR d = .ok true := by rw [← hcR]
                exact go true H' .refl hb
              | some c =>
                have hcd : cR d = (evE T (ev T n) (ρ.set x (.val d)) c).bind truth := by rw [← hcR]
                refine ⟨_, _, _, rb .refl, ?_⟩
                have ne : ∃ b, cR d = .ok b := by
                  rcases compR_cons hrest with ⟨c1, _⟩ | ⟨c1, _⟩
                  · exact ⟨_, c1⟩
                  · exact ⟨_, c1⟩
                obtain ⟨b, hb⟩ := ne
                have hb' : (evE T (ev T n) (ρ.set x (.val d)) c >>= truth) = .ok b := by rw [← hb, hcd]; rfl
                rw [hb']
                intro H3 x3
                exact go b H3 x3 hb
          · have hi2 : i = ds.length := by omega
            subst hi2
            refine .inl ⟨g2 _ (Nat.le_refl _), ?_⟩
            rw [List.drop_length] at hrest
            cases hrest
            rw [List.append_nil] at hvs2
            subst hvs2
            have t1 := rl1.trk (lks elt)
            have nD : ¬ AvO Z O (lks elt) Dd := t1.not hD
            refine hd _ Hc ⟨x1.trans xc, ?_, fun _ _ => ⟨Dd, rfl, x1.none hD, .lst hDc ?_⟩⟩
            · simp only [lks]
              exact .lst hDc nD (racc.sub fun b z => z.imp .inl id)
            · simp only [lks]
              refine racc.sub fun b z => ?_
              rcases z with (z | z) | z
              · exact .inl (.inl z)
              · exact .inr z
              · exact .inl (.inr z)
        · exact hd.elim
  exact ⟨key, Snd.of (PE_imp (pe_lc g.calm g.nd hS hb hg ht he hfold) key) (lkb_eq fun _ z => nomatch z) rfl⟩
end
end Ev

set_option linter.all false
set_option autoImplicit false
set_option maxRecDepth 100000
set_option maxHeartbeats 8000000
/-! Expressions that make or read dicts. -/
namespace Ev
open PySem PySem.Spec PyProof.Rows L2

section
variable {T : Tab} {G : Nm} {N : List Str} {n : Nat} {wd : World} {K : PySem.W.Frag} {W : WX} {X : Cx} {sc : Scope} {Z : Zs} {O : Own} {σ : Sta} {H H0 H1 H2 Hc H' : Hp} {ρ : Env} {ex : Expr}
theorem lks_ne {e : E} (h : ∀ i, e ≠ .var i) : lkb e = lks e := lkb_eq h
theorem s_dnew {t : Bool} {ex : Expr} (h : asDict0 ex = true) : Snd T n W X (.dnew t) ex := by
  obtain ⟨p, rfl⟩ := asDict0_some h
  cases t with
  | true =>
    refine Snd.of (PE_imp pe_dnewN fun σ H Q hh => ?_) (lkb_eq fun _ z => nomatch z) rfl
    obtain ⟨ρ, Z, O, rl, hh⟩ := hh
    intro q hq
    have h1 : upd H q (dctO X.w q 0 []) q = some (dctO X.w q 0 []) := upd_same
    refine hh (.ref q) _ ⟨Ext.upd hq, .dN (kds := []) h1 ((rl.trk _).not hq) .nil .nil rfl, fun _ _ => ⟨q, rfl, hq, .dN (kds := []) h1 .nil .nil rfl⟩⟩
  | false =>
    refine Snd.of (PE_imp pe_dnewK fun σ H Q hh => ?_) (lkb_eq fun _ z => nomatch z) rfl
    obtain ⟨ρ, Z, O, rl, hh⟩ := hh
    intro q hq
    have h1 : upd H q (HO.dK []) q = some (.dK []) := upd_same
    refine hh (.ref q) _ ⟨Ext.upd hq, .dK (kds := []) h1 ((rl.trk _).not hq) rfl .nil, fun _ _ => ⟨q, rfl, hq, .dK (kds := []) h1 rfl .nil⟩⟩

/-- {k: v}, the key a tuple -/
def tDispN (wd : World) (K : PySem.W.Frag) (tk tv : TE) : TE := fun σ H Q => ∀ p, H p = none → tk σ (upd H p (dctO wd p 0 [])) fun x H1 => tv σ H1 fun y H2 => ∃ k b, x = .ref b ∧ KAt wd K H2 x k ∧ H2 p = some (dctO wd p 0 []) ∧ ∀ ep, Q (.ref p) (upd H2 p (dctO wd p ep [(k, b, y)]))
theorem pe_dispN {k v : Expr} {pos : Pos} {tk tv : TE} (hu : X.A.units + 64 < cLine) (hk : PE X k tk) (hv : PE X v tv) : PE X (.Dict [some k] [v] pos) (tDispN X.w X.K tk tv) := by
  refine ⟨fun pins s σ H Q I q => ?_⟩
  have hn := I.hok.fresh (Nat.le_refl s.heap.objs.size)
  have I1 := I.laid (a := s.heap.objs.size) (o := dctO X.w s.heap.objs.size 0 []) (h' := s.heap.push { cls := .type "dict", data := .dict #[] }) (t' := s.toks) (fun _ _ q => Heap.get?_push_of_some _ q) (Nat.le_refl _) (dn_empty s.heap I.big)
  have hsh := zip_pairTrees [some k] [v] X.env pos rfl rfl
  show wpAny _ _ (eval (.Dict [some k] [v] pos) X.env) _ _ _
  rw [arm_eval_Dict, hsh, dictDisplay_pairs (pairTrees [some k] [v] X.env pos) (fun z => by cases z) (by simp [pairTrees])]
  refine wpAny_bind (wpAny_standAt (wpAny_bind (wpAny_subDictH (knd := nestedKind X.prog X.w) (Q := fun d s' => wpAny (model X.prog X.w) X.A (pure (Value.ref d)) (EP X pins σ Q) X.xe s') ?_ (by simp [pairTrees]) ?_)))
  · show X.A.units + 8 < cLine; omega
  refine pairTrees_cons_walk (thn (hk.run pins _ σ _ _ I1 (q _ hn)) fun u s1 ⟨x, H1, I2, rx, q1⟩ => thn (hv.run pins s1 σ H1 _ I2 q1) fun w2 s2 ⟨y, H2, I3, ry, q2⟩ => pairTrees_nil_walk ?_)
  obtain ⟨nk, b, rfl, ⟨B, d, rd, ed⟩, hp, q3⟩ := q2
  obtain ⟨b', e', hb⟩ := key_nested I3 rd ed
  cases e'
  cases rx
  obtain ⟨zz, hs, ys, pr, dd⟩ := dct_at I3 hp (fun x h => nomatch h)
  cases pr
  refine ⟨[(nk, b, w2)], ⟨rfl, rfl, hb, trivial⟩, dd, fun h' tk hd' sb => wpAny_pure ?_⟩
  have pr2 : Paired KR [(nk, b, y)] [(nk, b, w2)] := .cons ⟨rfl, rfl, ry⟩ .nil
  have hd2 : h'.DictOfH (nestedKind X.prog X.w) s.heap.objs.size [(nk, b, w2)] := hd'
  obtain ⟨ep, ok⟩ := dct_ok (xs := [(nk, b, y)]) (by rw [sizeLine_eq]; simp) hs pr2 hd2
  obtain ⟨o, _, _, ho, _⟩ := id hd2
  exact ⟨.ref s.heap.objs.size, _, I3.write (x := s.heap.objs.size) (e := s.heap.objs.size) (t' := tk) (by rw [hp]; exact True.intro) (.inl rfl) (fun b o hb e => (sb.2 b hb).trans e) ⟨o, ho⟩ (ok _), rfl, q3 ep⟩
theorem isDict_ty {x : V} {d : D} {A : Av} (r : RepB wd K H A x d) (h : isDict d = true) : tyDict wd x H := by
  cases d with
  | dN kvs =>
    obtain ⟨a, ep, xs, rfl, e, _⟩ := r.dN
    exact ⟨a, rfl, .inr ⟨ep, xs, e⟩⟩
  | dK kvs =>
    obtain ⟨a, kv, rfl, e, _⟩ := r.dK
    exact ⟨a, rfl, .inl (.inl ⟨kv, .inl e⟩)⟩
  | _ => cases h
theorem s_get {d k : E} {o y : Expr} {apos cpos : Pos} (g : Gd T G N n sc X) (hl : (apos.endLine == cpos.line) = true) (hn : noCall o = true) (hp : plainX y = true) (hd : Snd T n W X d o) (hk : Snd T n W X k y) :
    Snd T n W X (.get d k) (.Call (.Attribute o "get" apos) [y] [] cpos) := by
  have hu : X.A.units + 64 < cLine := by have := g.un; omega
  refine Snd.of (PE_imp (pe_mG ty_dict PySem.F.plainAttrs_dict PySem.F.slot_dict_get PySem.F.type_dict_get (mt_getM hu) hd.b (pa_cons hk.v pa_nil (plainStar hp)) (attrBase hn) (by rw [plainStar hp]; rfl) hl (plainStar hp) rfl) fun σ H Q hh => ?_) (lkb_eq fun _ z => nomatch z) rfl
  obtain ⟨ρ, Z, O, rl, hh⟩ := hh
  simp only [evE] at hh
  refine ⟨ρ, Z, O, rl, WpR.mono (WpR.bind hh) (fun x _ hx v H1 e1 r1 => ?_) fun c fs z => z⟩
  split at hx
  · rename_i hi
    refine ⟨isDict_ty r1 hi, ρ, Z, O, rl.ext e1, WpR.mono (WpR.bind hx) (fun kd _ hk v' H2 p2 => ?_) fun c fs z => z.ext e1⟩
    have r1' := r1.ext p2.1
    have fin : ∀ {u : V} {dd : D}, Rep X.w X.K H2 (AvO Z O (lkb d)) u dd → Post T X.w X.K (.get d k) Z O H u H2 dd := fun r => ⟨e1.trans p2.1, by simp only [lks]; exact r, fun z => by cases z⟩
    cases hg : dget x kd with
    | bad => rw [hg] at hk; exact hk.elim
    | exc c fs => exact (dget_exc hg).elim
    | ok r =>
      rw [hg] at hk
      have hk : ∀ v H', Post T X.w X.K (.get d k) Z O H v H' (r.getD .non) → Q v H' := hk
      obtain ⟨a, rfl, ⟨ov, g1, g2, g3, g4⟩ | ⟨ep, xs, nk, g1, g2, g3, g4, g5⟩⟩ := dget_ok r1' p2.2.1 hg
      · refine .inl ⟨a, v', ov, rfl, rfl, g1, ?_⟩
        cases r with
        | none => rw [g4 rfl]; exact hk _ _ (fin .non)
        | some z =>
          obtain ⟨u, rfl, ru⟩ := g3 z rfl
          exact hk _ _ (fin ru)
      · refine .inr (.inr (.inl ⟨a, ep, xs, v', nk, rfl, rfl, g1, g2, ?_⟩))
        cases r with
        | none => rw [g5 rfl]; exact hk _ _ (fin .non)
        | some z =>
          obtain ⟨u, e, ru⟩ := g4 z rfl
          rw [e]
          exact hk _ _ (fin ru)
  · exact hx.elim
theorem s_getd {d k e : E} {o y z : Expr} {apos cpos : Pos} (g : Gd T G N n sc X) (hl : (apos.endLine == cpos.line) = true) (hn : noCall o = true) (hp : plainX y = true) (hp2 : plainX z = true) (hd : Snd T n W X d o) (hk : Snd T n W X k y) (he : Snd T n W X e z) :
    Snd T n W X (.getd d k e) (.Call (.Attribute o "get" apos) [y, z] [] cpos) := by
  have hu : X.A.units + 64 < cLine := by have := g.un; omega
  refine Snd.of (PE_imp (pe_mG ty_dict PySem.F.plainAttrs_dict PySem.F.slot_dict_get PySem.F.type_dict_get (mt_getM hu) hd.b (pa_cons hk.v (pa_cons he.v pa_nil (plainStar hp2)) (plainStar hp)) (attrBase hn) (by rw [plainStar hp, plainStar hp2]; rfl) hl (plainStar hp) (by rw [plainStar hp2]; rfl)) fun σ H Q hh => ?_) (lkb_eq fun _ z => nomatch z) rfl
  obtain ⟨ρ, Z, O, rl, hh⟩ := hh
  simp only [evE] at hh
  refine ⟨ρ, Z, O, rl, WpR.mono (WpR.bind hh) (fun x _ hx v H1 e1 r1 => ?_) fun c fs z => z⟩
  split at hx
  · rename_i hi
    refine ⟨isDict_ty r1 hi, ρ, Z, O, rl.ext e1, WpR.mono (WpR.bind hx) (fun kd _ hk v' H2 p2 => ?_) fun c fs z => z.ext e1⟩
    have e2 := e1.trans p2.1
    refine ⟨ρ, Z, O, rl.ext e2, WpR.mono (WpR.bind hk) (fun dd _ hk v'' H3 p3 => ?_) fun c fs z => z.ext e2⟩
    have r1' := r1.ext (p2.1.trans p3.1)
    have fin : ∀ {u : V} {dd : D}, Rep X.w X.K H3 (AvO Z O (lkb d ++ lks e)) u dd → Post T X.w X.K (.getd d k e) Z O H u H3 dd := fun r => ⟨e2.trans p3.1, by simp only [lks]; exact r, fun z => by cases z⟩
    have fin1 : ∀ {u : V} {dd : D}, Rep X.w X.K H3 (AvO Z O (lkb d)) u dd → Post T X.w X.K (.getd d k e) Z O H u H3 dd := fun r => fin (r.sub (AvO.mono fun i hi => List.mem_append_left _ hi))
    have fin2 : ∀ {u : V} {dd : D}, Rep X.w X.K H3 (AvO Z O (lks e)) u dd → Post T X.w X.K (.getd d k e) Z O H u H3 dd := fun r => fin (r.sub (AvO.mono fun i hi => List.mem_append_right _ hi))
    cases hg : dget x kd with
    | bad => rw [hg] at hk; exact hk.elim
    | exc c fs => exact (dget_exc hg).elim
    | ok r =>
      rw [hg] at hk
      have hk : ∀ v H', Post T X.w X.K (.getd d k e) Z O H v H' (r.getD dd) → Q v H' := hk
      obtain ⟨a, rfl, ⟨ov, g1, g2, g3, g4⟩ | ⟨ep, xs, nk, g1, g2, g3, g4, g5⟩⟩ := dget_ok r1' (p2.2.1.ext p3.1) hg
      · refine .inr (.inl ⟨a, v', v'', ov, rfl, rfl, g1, ?_⟩)
        cases r with
        | none => rw [g4 rfl]; exact hk _ _ (fin2 p3.2.1)
        | some z =>
          obtain ⟨u, rfl, ru⟩ := g3 z rfl
          exact hk _ _ (fin1 ru)
      · refine .inr (.inr (.inr ⟨a, ep, xs, v', v'', nk, rfl, rfl, g1, g2, ?_⟩))
        cases r with
        | none => rw [g5 rfl]; exact hk _ _ (fin2 p3.2.1)
        | some z =>
          obtain ⟨u, e, ru⟩ := g4 z rfl
          rw [e]
          exact hk _ _ (fin1 ru)
  · exact hx.elim
theorem Rl.addZ {p : Addr} {o : HO} (r : Rl wd K Z O σ H ρ) (hD : H p = none) : Rl wd K (Z.add p) O σ (upd H p o) ρ := by
  have up : ∀ b u, H b = some u → ¬ AvO Z O [] b → upd H p o b = some u ∧ ¬ AvO (Z.add p) O [] b := fun b u e n => by
    refine ⟨Ext.upd hD b u e, fun z => ?_⟩
    rcases z with (z | z) | z
    · exact n (.inl z)
    · subst z; rw [hD] at e; cases e
    · exact n (.inr z)
  refine ⟨r.len, fun i e h => ?_, fun i e h => ?_, r.dom, r.inj, fun i a h z => ?_, fun b z => ?_, fun i c fs h => ?_⟩
  · obtain ⟨v, q1, q2⟩ := r.val i e h
    exact ⟨v, q1, q2.to up⟩
  · obtain ⟨a, q0, q1, q2⟩ := r.own i e h
    exact ⟨a, q0, q1, q2.to (fun o e => Ext.upd hD a o e) up⟩
  · rcases z with z | z
    · exact r.nz i a h z
    · subst z
      obtain ⟨o, q⟩ := r.trk [] a (.inr ⟨i, (fun z => nomatch z), h⟩)
      rw [hD] at q; cases q
  · rcases z with z | z
    · exact r.zt.ext (Ext.upd hD) b z
    · subst z; exact ⟨_, upd_same⟩
  · obtain ⟨a, q0, q1, q2, dx, vs, q3, q4, q5, q6⟩ := r.slf i c fs h
    exact ⟨a, q0, q1, .inl q2, dx, vs, Ext.upd hD _ _ q3, q4, q5, q6.to up⟩
theorem s_ddisp {t : Bool} {k v : E} {x y : Expr} {p : Pos} (g : Gd T G N n sc X) (hk : Snd T n W X k x) (hv : Snd T n W X v y) : Snd T n W X (.ddisp t k v) (.Dict [some x] [y] p) := by
  have hu : X.A.units + 64 < cLine := by have := g.un; omega
  have low : ∀ {b p : Addr} {ex : List Nat} {Z : Zs} {O : Own}, AvO Z O ex b → AvO (Z.add p) O ex b := fun z => z.imp .inl id
  cases t with
  | true =>
    refine Snd.of (PE_imp (pe_dispN hu hk.v hv.v) fun σ H Q hh => ?_) (lkb_eq fun _ z => nomatch z) rfl
    obtain ⟨ρ, Z, O, rl, hh⟩ := hh
    intro p hp
    have rl1 := rl.addZ (o := dctO X.w p 0 []) hp
    have hnp : ¬ AvO Z O (lks k ++ lks v) p := (rl.trk _).not hp
    have x0 : Ext H (upd H p (dctO X.w p 0 [])) := Ext.upd hp
    simp only [evE, if_true] at hh
    refine ⟨ρ, _, O, rl1, WpR.mono (WpR.bind hh) (fun d _ hd u H1 p1 => ?_) fun c fs z => ?_⟩
    refine ⟨ρ, _, O, rl1.ext p1.1, WpR.mono (WpR.bind hd) (fun e _ he u2 H2 p2 => ?_) fun c fs z => ?_⟩
    · cases hg : dput (.dN []) d e with
      | bad => simp only [hg] at he; exact he.elim
      | exc c fs => unfold dput at hg; simp only at hg; split at hg <;> cases hg
      | ok z =>
        simp only [hg] at he
        unfold dput at hg
        simp only at hg
        split at hg
        · rename_i nk hnk
          simp only [List.length_nil, Nat.zero_lt_succ, if_true] at hg
          cases hg
          have rk := p1.2.1.ext p2.1
          obtain ⟨b, rfl⟩ : ∃ b, u = .ref b := by
            cases d with
            | tup ds => cases rk <;> exact ⟨_, rfl⟩
            | _ => cases hnk
          refine ⟨nk, b, rfl, ⟨_, d, rk, hnk⟩, ?_, fun ep => ?_⟩
          · exact p2.1 _ _ (p1.1 _ _ upd_same)
          have x3 : Ext H (upd H2 p (dctO X.w p ep [(nk, b, u2)])) := fun c o e => by
            have hne : c ≠ p := fun z => by subst z; rw [hp] at e; cases e
            rw [upd_ne hne]; exact p2.1 c o (p1.1 c o (x0 c o e))
          have up : ∀ {ex : List Nat}, ∀ c o, H2 c = some o → ¬ AvO (Z.add p) O ex c → upd H2 p (dctO X.w p ep [(nk, b, u2)]) c = some o ∧ ¬ AvO (Z.add p) O ex c := fun c o e n => by
            have hne : c ≠ p := fun z => n (.inl (.inr z))
            exact ⟨by rw [upd_ne hne]; exact e, n⟩
          have e1 : upd H2 p (dctO X.w p ep [(nk, b, u2)]) p = some (dctO X.w p ep [(nk, b, u2)]) := upd_same
          have hput : putN [] d nk e = [(d, e)] := rfl
          have rk' := (rk.to up).sub (AvO.mono (ex' := lks k ++ lks v) fun i hi => List.mem_append_left _ hi)
          have rv' := (p2.2.1.to up).sub (AvO.mono (ex' := lks k ++ lks v) fun i hi => List.mem_append_right _ hi)
          have hkk : [(d, e)].map (fun kv : D × D => nkeyT kv.1) = [(nk, b, u2)].map (fun x : NestedKey × Addr × V => some x.1) := by simp [hnk]
          rw [hput] at he
          refine he (.ref p) _ ⟨x3, ?_, fun _ _ => ⟨p, rfl, hp, ?_⟩⟩
          · simp only [lks]
            exact .dN e1 hnp (.cons (rk'.sub fun b z => low z) .nil) (.cons (rv'.sub fun b z => low z) .nil) hkk
          · simp only [lks]
            have cv : ∀ b, (AvO Z O (lks k ++ lks v) b ∨ b = p) → AvO (Z.add p) O (lks k ++ lks v) b := fun b z => by
              rcases z with z | z
              · exact low z
              · exact .inl (.inr z)
            exact .dN e1 (.cons (rk'.sub cv) .nil) (.cons (rv'.sub cv) .nil) hkk
        · cases hg
    · refine fun cls dd H' q x => z cls dd H' (x0.trans (p1.1.trans q)) ?_
      exact x
    · refine fun cls dd H' q x => z cls dd H' (x0.trans q) ?_
      exact x
  | false =>
    refine Snd.of ⟨fun pins s σ H Q I hh => ?_⟩ (lkb_eq fun _ z => nomatch z) rfl
    obtain ⟨ρ, Z, O, rl, hh⟩ := hh
    simp only [evE] at hh
    exact hh.elim
end
end Ev

set_option linter.all false
set_option autoImplicit false
set_option maxRecDepth 100000
set_option maxHeartbeats 8000000
/-! sorted(xs, key=size_order): the def size_order gives (len(quorum), quorum). -/
namespace Ev
open PySem PySem.Spec PyProof.Rows L2

section
variable {X : Cx} {pins : List (Addr × Obj)} {σ : L2.St} {H : Hp} {s : Shared}
theorem size_call {nm qual : Str} {params : Arguments} {body : List Stmt} {scope : Scope} {f : Addr} {fd : FuncData} (I : L2.Inv X pins σ H s) (F : FunD X.K nm qual params body scope [] [] f fd) (hb : Binds X.K fd ["quorum"] []) (hS : szB scope body = true)
    (hm : X.mg "len" = none) (hr : Room 1 X.A.in1.in1) {a : Addr} {xs : List V} {zs : List PyData} {its : List Value} (hq : H a = some (.tup xs) ∨ KTup X.K a xs) (ht : IsTup s.heap a its.toArray) (hz : its.length ≤ sizeLine) (kd : Reads s.heap (.ref a) (.tuple zs) []) :
    wpAny (model X.prog X.w) X.A.in1.in1 (call (.ref f) [.ref a]) (PySem.W.KeyPure (.tuple [.int its.length, .tuple zs]) s) (fun _ _ => False) s := by
  obtain ⟨oc, od, dV, kV, doc, pm, an, cdv, ct, osl, rfl, lk, hcd, _, _⟩ := F.ex
  unfold szB at hS
  simp only [Bool.and_eq_true] at hS
  obtain ⟨⟨⟨h1, h2⟩, h3⟩, h4⟩ := hS
  have h3 : glB scope "len" = true := h3
  have S : FnScope ["quorum"] ["quorum"] scope := C8.fnScope_by h4
  have hl : scope.names.lookup ("quorum" : Str) = some .local := by
    split at h2
    · assumption
    · cases h2
  have e0 := I.env0.in1.in1
  have KX : X.K.In s.heap := e0.mod.kin.keeps fun b o e => (e0.bs b o e).1
  have lim : s.heap.NoLimit := e0.mod.nolimit.keeps fun b o e => (e0.bs b o e).1
  split at h1
  · rename_i x p1 y p2 p3 z p4 k p5 p6
    simp only [Bool.and_eq_true, decide_eq_true_eq] at h1
    obtain ⟨⟨rfl, rfl⟩, rfl⟩ := h1
    refine wpAny_call ?_
    have hkind : ∀ w ∈ (["quorum"] : List Str).zip [Value.ref a], scope.names.lookup w.1 = some .local ∨ (scope.names.lookup w.1 = some .cell ∧ ((cellsFrom (s.heap.objs.size + 1) scope.names []).lookup w.1).isSome = true) := fun w hw => by
      have : w = (("quorum" : Str), Value.ref a) := by simpa using hw
      subst this
      exact .inl hl
    refine codeAny_call_function hr.depth (KX _ _ lk) rfl S.co S.gen rfl (PySem.W.codeRec_of KX hcd) (hb s [.ref a] KX rfl _ _ _ _ ?_)
    refine wpAny_newFunctionEnv_cells S.kind hkind fun env he s1 x1 => ?_
    subst he
    refine ⟨lim.keeps x1.toInCall.keep, codeAny_func ?_⟩
    have J : L2.Inv (cxOf (fun _ _ _ _ _ _ => False) X.prog X.w X.K X.mg X.base ["quorum"] qual scope f cdv X.A.in1.in1 X.stack s H (fun _ _ _ => False)) [] (L2.start ["quorum"] [V.ref a]) H s1 := inv_start (vs := [V.ref a]) S hr.hd e0 rfl (.cons rfl .nil) x1
    obtain ⟨h', tk, es, kp⟩ := x1.done
    have nmq : ∀ {E : Value → Shared → Prop} {pos : Pos} {Q : Value → Shared → Prop} {s2 : Shared}, s2.heap = s1.heap → Q (.ref a) s2 → wpAny (model X.prog X.w) (X.A.in1.in1.deeper (envOfC qual scope s.heap.objs.size f cdv)) (eval (.Name "quorum" pos) (envOfC qual scope s.heap.objs.size f cdv)) Q E s2 := fun {E pos Q s2} e q => by
      obtain ⟨m, hn, hlk⟩ := J.loc
      obtain ⟨u, ru, l⟩ := hlk 0 "quorum" (.ref a) rfl rfl (.inl hl)
      cases ru
      rcases l with ⟨hk, hmm⟩ | ⟨hk, c, hc, hcell⟩
      · exact wpAny_Name (wpAny_loadName_local S.kind hk (by rw [e]; exact hn) hmm q) (by decide)
      · rcases hk with hk | hk
        · exact absurd (hl.symm.trans hk) (by simp)
        · exact absurd (hl.symm.trans hk) (by simp)
    refine wpAny_execs_cons (wpAny_Return_some (wpAny_Tuple_spliced ?_))
    refine Calls.spliced_cons ?_
    have ht1 : IsTup s1.heap a its.toArray := by
      obtain ⟨o, e1, e2, n, e3⟩ := ht
      exact ⟨o, x1.toInCall.keep _ _ e1, e2, n, e3⟩
    refine wpAny_Call_Name_kw (ld_blt J (gl_of (X := cxOf (fun _ _ _ _ _ _ => False) X.prog X.w X.K X.mg X.base ["quorum"] qual scope f cdv X.A.in1.in1 X.stack s H (fun _ _ _ => False)) rfl h3) hm PySem.boot_len ?_)
    refine callWith_builtin1 (Calls.spliced_cons (nmq rfl (Calls.spliced_nil ?_))) rfl rfl
    refine len_tuple ht1 (by rw [List.size_toArray]; rw [sizeLine_eq] at hz; omega) ?_
    refine Calls.spliced_cons (nmq rfl (Calls.spliced_nil ⟨by rw [sizeLine_eq]; simp, ?_⟩))
    subst es
    refine ⟨_, _, rfl, fun b o e => Heap.get?_push_of_some _ (kp b o e), ?_⟩
    rw [List.size_toArray]
    have r2 : Reads (h'.push { cls := .type "tuple", data := .seq [Value.int its.length (tk + 1), Value.ref a].toArray }) (.ref a) (.tuple zs) [] := PyProof.Rows.Reads.keeps (fun b o e => Heap.get?_push_of_some _ (kp b o e)) kd
    exact Reads.tuple (Heap.get?_push_size _ rfl) rfl rfl (.cons (.int _ _) (.cons r2 .nil))
  · cases h1
/-- data without lists reads no list -/
theorem rv_reads (I : L2.Inv X pins σ H s) {A : Av} : ∀ v d, Rep X.w X.K H A v d → noMut d = true → ∀ z u, py d = some z → RelV v u → Reads s.heap u z [] := by
  have tupc : ∀ {a : Addr} {xs : List V} {ds : List D}, SqT X.K H a xs → (noMuts ds = true → ∀ zs us, pys ds = some zs → Vals xs us → ReadsAll s.heap us zs []) → noMut (.tup ds) = true → ∀ z u, py (.tup ds) = some z → RelV (.ref a) u → Reads s.heap u z [] := by
    intro a xs ds q ih hn z u e r
    cases r
    obtain ⟨its, rv, p, _⟩ := I.tuple q
    cases hp : pys ds with
    | none => simp [py, hp] at e
    | some zs =>
      simp only [py, hp, Option.map_some, Option.some.injEq] at e
      subst e
      obtain ⟨o, h1, h2, n, h3⟩ := p
      exact .tuple h1 h2 h3 (by simpa using ih (by simpa [noMut] using hn) zs its hp rv)
  intro v d h
  refine Rep.rec (motive_1 := fun v d _ => noMut d = true → ∀ z u, py d = some z → RelV v u → Reads s.heap u z []) (motive_2 := fun vs ds _ => noMuts ds = true → ∀ zs us, pys ds = some zs → Vals vs us → ReadsAll s.heap us zs [])
    ?_ ?_ ?_ ?_ ?_ ?_ ?_ ?_ ?_ ?_ ?_ ?_ ?_ ?_ h
  · intro _ z u e r; cases e; cases r; exact .none
  · intro b _ z u e r; cases e; cases r; exact .bool b
  · intro i _ z u e r; cases e; obtain ⟨t, rfl⟩ := r; exact .int i t
  · intro x _ z u e r; cases e; obtain ⟨t, rfl⟩ := r; exact .str x t
  · exact fun r n _ ih => tupc (SqT.of r) ih
  · exact fun r _ ih => tupc (.inr r) ih
  · intro a xs ds r n _ ih hn; cases hn
  · intro a xs ds r n _ ih hn; cases hn
  · intro a xs ds r _ ih hn; cases hn
  · intro a o c vs ds r q n _ ih hn z u e; cases e
  · intro a kvs kds r n q _ ih hn; cases hn
  · intro a ep xs kds r n _ _ q i1 i2 hn; cases hn
  · intro _ zs us e r; cases e; cases r; exact .nil
  · intro v vs d ds _ _ h1 h2 hn zs us e r
    simp only [noMuts, Bool.and_eq_true] at hn
    cases r with
    | cons r1 r2 =>
      cases e1 : py d with
      | none => simp [pys, e1] at e
      | some z =>
        cases e2 : pys ds with
        | none => simp [pys, e1, e2] at e
        | some zs' =>
          simp only [pys, e1, e2, Option.some.injEq] at e
          subst e
          exact .cons (h1 hn.1 _ _ e1 r1) (h2 hn.2 _ _ e2 r2)
def rSortSz (wd : World) (K : PySem.W.Frag) (f : Addr) : List V → List V → Hp → VK → Prop := fun xs zs H Q => ∃ (a : Addr) (ys : List V) (ds : List D) (A : Av), xs = [.ref a] ∧ zs = [.ref f] ∧ SqL K H a ys ∧ Reps wd K H A ys ds ∧ szOk ds = true ∧
  ∀ (p : Addr) (ws : List V), H p = none → Reps wd K H A ws (sortSz ds) → Q (.ref p) (upd H p (.lst ws))
theorem cr_sortSz {nm qual : Str} {params : Arguments} {body : List Stmt} {scope : Scope} {f : Addr} {fd : FuncData} (F : FunD X.K nm qual params body scope [] [] f fd) (hb : Binds X.K fd ["quorum"] []) (hS : szB scope body = true)
    (hm : X.mg "len" = none) (hr : Room 1 X.A.in1.in1) (hu : X.A.units + 80 < cLine) : CallRK X (.builtin "sorted") ["key"] (rSortSz X.w X.K f) := by
  intro pins s σ H xs zs us ws Q I rx rz h
  obtain ⟨a, ys, ds, A, rfl, rfl, hq, rd, ok, q⟩ := h
  obtain ⟨u, rfl, ru⟩ := vals1 rx
  cases ru
  obtain ⟨w, rfl, rw'⟩ := vals1 rz
  cases rw'
  obtain ⟨its, rv, hp, hlen⟩ := I.list hq
  simp only [szOk, Bool.and_eq_true, List.all_eq_true, decide_eq_true_eq] at ok
  obtain ⟨⟨ok1, ok2⟩, ok3⟩ := ok
  have shape : ∀ d ∈ ds, ∃ es zs, d = .tup es ∧ noMuts es = true ∧ pys es = some zs ∧ SeqAt.shaped (szKey d) = true := by
    intro d hd
    have := ok1 d hd
    cases d with
    | tup es =>
      simp only [Bool.and_eq_true] at this
      obtain ⟨⟨h1, h2⟩, h3⟩ := this
      obtain ⟨zs, hz⟩ := Option.isSome_iff_exists.mp h2
      exact ⟨es, zs, rfl, h1, hz, h3⟩
    | _ => cases this
  have E := each_of rd rv
  refine PySem.W.sorted_key_data (b := false) szKey hp.isList E (fun d hd d' hd' => ?_) (.inl fun d hd => ?_) (by rw [← lineSz_eq]; exact ok3) (fun x hx => ?_) (PyProof.Rows.ksk_s1 _ _) (fun _ => PyProof.Rows.ksk_l1 _ _) (fun _ => PyProof.Rows.ksk_t1 _ _) (fun v x ⟨xv, r1, r2⟩ hx h tk kp => ?_) fun out c h' tk kp hf hD hol eo => ?_
  · obtain ⟨x, hx, rfl⟩ := List.mem_map.mp hd
    obtain ⟨y, hy, rfl⟩ := List.mem_map.mp hd'
    exact ok2 x hx y hy
  · obtain ⟨x, hx, rfl⟩ := List.mem_map.mp hd
    obtain ⟨es, zs, rfl, _⟩ := shape x hx
    exact ⟨_, _, rfl⟩
  · obtain ⟨es, zs, rfl, _, _, h3⟩ := shape x hx
    have := SeqAt.depth_of_shaped h3
    omega
  · obtain ⟨es, zs, rfl, hn, hz, h3⟩ := shape x hx
    have I2 : L2.Inv X pins σ H { s with heap := h, toks := tk } := I.kept kp
    have go : ∀ {b : Addr} {xs : List V}, xv = .ref b → SqT X.K H b xs → Reps X.w X.K H A xs es → (H b = some (.tup xs) ∨ KTup X.K b xs) → wpAny (model X.prog X.w) X.A.in1.in1 (call (.ref f) [v]) (PySem.W.KeyPure (szKey (.tup es)) { s with heap := h, toks := tk }) (fun _ _ => False) { s with heap := h, toks := tk } := by
      rintro b xs rfl hs rs ho
      cases r1
      obtain ⟨its2, rv2, hp2, hl2⟩ := I2.tuple hs
      have hk := rv_reads I2 (.ref b) (.tup es) r2 (by simpa [noMut] using hn) (.tuple zs) (.ref b) (by simp [py, hz]) rfl
      have := size_call I2 F hb hS hm hr ho hp2 (by rw [← rv2.length]; exact hl2) hk
      have e1 : its2.length = es.length := by rw [← rv2.length, rs.length]
      rw [e1] at this
      simpa [szKey, hz] using this
    cases r2 with
    | tup e n r => exact go rfl (SqT.of e) r (.inl e)
    | tupK e r => exact go rfl (.inr e) r (.inr e)
  · obtain ⟨ws, rws, rps⟩ := of_each eo
    have hln : ws.length ≤ sizeLine := by rw [rws.length, hol, ← lineSz_eq]; exact ok3
    exact ⟨.ref _, upd H (s.heap.objs.size + 1) (.lst ws), I.laid (t' := tk) kp (Nat.le_succ _) ⟨hln, out, c, rws, hD⟩, rfl, q _ ws (I.hok.fresh (Nat.le_succ _)) rps⟩
end
section
variable {T : Tab} {G : Nm} {N : List Str} {n : Nat} {W : WX} {X : Cx} {sc : Scope}
theorem s_sorts {e : E} {y : Expr} {p p2 p3 p4 : Pos} (g : Gd T G N n sc X) (hf : glB sc "sorted" = true) (hk : glB sc "size_order" = true) (hz : G.sz = true) (hp : plainX y = true) (he : Snd T n W X e y) :
    Snd T n W X (.sorts e) (.Call (.Name "sorted" p) [y] [⟨some "key", .Name "size_order" p2, p3⟩] p4) := by
  obtain ⟨f, fd, nm, qual, params, body, scope, m1, F, hb, hS⟩ := g.szo hz
  have hr : Room 1 X.A.in1.in1 := by
    have : Room (4 * n + 3) X.A := g.room
    have h3 : Room 3 X.A := this.mono (by omega)
    exact (Room.in1 (Room.in1 h3))
  have hlen : X.mg "len" = none := g.blt _ (by simp [bltNames])
  have hsrt : X.mg "sorted" = none := g.blt _ (by simp [bltNames])
  have hu : X.A.units + 80 < cLine := by have := g.un; omega
  refine Snd.of (PE_imp (pe_callBK (ks := ["key"]) (cr_sortSz F hb hS hlen hr hu) (gl_of g.sc hf) hsrt PyProof.Rows.boot_sorted (pa_cons he.b pa_nil (plainStar hp)) (pk_cons (pe_glob (v := .ref f) (gl_of g.sc hk) m1 rfl) pk_nil) (by decide) (by decide) (by rw [plainStar hp]; rfl) (by rw [plainStar hp]; rfl) rfl rfl rfl) fun σ H Q hh => ?_) (lkb_eq fun _ z => nomatch z) rfl
  obtain ⟨ρ, Z, O, rl, hh⟩ := hh
  simp only [evE] at hh
  refine ⟨ρ, Z, O, rl, WpR.mono (WpR.bind hh) (fun d _ hd v H1 e1 r1 => ?_) fun c fs z => z⟩
  cases d with
  | lst ds =>
    simp only at hd
    split at hd
    · rename_i ok
      obtain ⟨a, xs, rfl, hH, rs⟩ := r1.lst
      refine ⟨a, xs, ds, _, rfl, rfl, SqL.of hH, rs, ok, fun q ws hq rws => ?_⟩
      refine hd _ _ ⟨e1.trans (Ext.upd hq), ?_, fun _ _ => ⟨q, rfl, e1.none hq, ?_⟩⟩
      · simp only [lks]
        exact .lst upd_same (((rl.ext e1).trk _).not hq) (rws.ext (Ext.upd hq))
      · simp only [lks]
        exact .lst upd_same (rws.grow hq _)
    · exact hd.elim
  | _ => exact hd.elim
end
end Ev

set_option linter.all false
set_option autoImplicit false
set_option maxRecDepth 100000
set_option maxHeartbeats 8000000
/-! Classes: fields, making, calls of instances, ==, isinstance. -/
namespace Ev
open PySem PySem.Spec PyProof.Rows L2

theorem lookup_zip {x : Str} {v : V} : ∀ {l : List Str} {vs : List V} {i : Nat}, (l.findIdx? fun y => decide (y = x)) = some i → vs[i]? = some v → (l.zip vs).lookup x = some v
  | [], _, _, h, _ => by simp at h
  | y :: l, [], i, _, h => by simp at h
  | y :: l, w :: vs, i, h, hv => by
    rw [List.findIdx?_cons] at h
    rw [List.zip_cons_cons, List.lookup_cons]
    by_cases e : y = x
    · subst e
      simp at h
      subst h
      simp at hv
      simp [hv]
    · have e1 : (x == y) = false := by simpa using fun z => e z.symm
      rw [e1]
      simp [e] at h
      obtain ⟨j, h1, rfl⟩ := h
      simp at hv
      have h1' : (l.findIdx? fun y => decide (y = x)) = some j := h1
      exact lookup_zip h1' hv
section
variable {T : Tab} {G : Nm} {N : List Str} {n : Nat} {wd : World} {K : PySem.W.Frag} {W : WX} {X : Cx} {sc : Scope} {Z : Zs} {O : Own} {σ : Sta} {H H0 H1 H2 H' : Hp} {ρ : Env}
/-- an instance as it lies -/
theorem RepB.ins {A : Av} {v : V} {c : Cl} {fs : List D} (r : RepB wd K H A v (.ins c fs)) : ∃ a dx vs, v = .ref a ∧ H a = some (.ins (He.ga K c.name) dx (c.flds.zip vs)) ∧ vs.length ≤ c.flds.length ∧ Reps wd K H A vs fs := by
  rcases r with r | ⟨a, rfl, r⟩
  · cases r with
    | ins e q nA r =>
      obtain ⟨dx, rfl, hl⟩ := q
      exact ⟨_, dx, _, rfl, e, Nat.le_of_eq hl, r⟩
  · cases r
theorem fld_at {A : Av} {c : Cl} {fs : List D} {vs : List V} {x : Str} {d : D} (h : fldD c fs x = some d) (r : Reps wd K H A vs fs) : ∃ v, (c.flds.zip vs).lookup x = some v ∧ Rep wd K H A v d ∧ x ∈ c.flds := by
  unfold fldD at h
  cases e : c.flds.findIdx? fun y => decide (y = x) with
  | none => rw [e] at h; cases h
  | some i =>
    rw [e] at h
    obtain ⟨v, h1, h2⟩ := r.get h
    refine ⟨v, lookup_zip e h1, h2, ?_⟩
    obtain ⟨h3, h4, _⟩ := List.findIdx?_eq_some_iff_getElem.mp e
    simp only [decide_eq_true_eq] at h4
    exact h4 ▸ List.getElem_mem h3
theorem s_att {a : E} {x : Str} {y : Expr} {p : Pos} (g : Gd T G N n sc X) (hn : noCall y = true) (ha : Snd T n W X a y) : Snd T n W X (.att a x) (.Attribute y x p) := by
  refine Snd.of (PE_imp (pe_fld ha.b (attrBase hn)) fun σ H Q hh => ?_) (lkb_eq fun _ z => nomatch z) rfl
  obtain ⟨ρ, Z, O, rl, hh⟩ := hh
  refine ⟨ρ, Z, O, rl, WpR.mono (WpR.bind hh) (fun d _ hd v H1 e1 r1 => ?_) fun c fs z => z⟩
  cases d with
  | ins c fs =>
    by_cases hc : c ∈ T.cls
    · simp only [hc, if_true] at hd
      cases e : fldD c fs x with
      | none => rw [e] at hd; exact hd.elim
      | some d =>
        rw [e] at hd
        obtain ⟨a, dx, vs, rfl, q1, q2, q3⟩ := r1.ins
        obtain ⟨v, q4, q5, q6⟩ := fld_at e q3
        have k := g.cs.cls c hc
        exact ⟨a, _, dx, _, v, rfl, q1, k.cl, k.na x q6, q4, hd v H1 ⟨e1, by simp only [lks]; exact q5, fun z => by cases z⟩⟩
    · simp only [hc, if_false] at hd; exact hd.elim
  | _ => exact hd.elim
theorem s_slf {x w : Str} {p p2 : Pos} (g : Gd T G N n sc X) (h1 : N[0]? = some w) (h2 : visB sc w = true) (h3 : (w == ("__debug__" : Str)) = false) (h4 : (w == ("__classdict__" : Str)) = false) : Snd T n W X (.slf x) (.Attribute (.Name w p2) x p) := by
  have base : PE X (.Name w p2) (tVar 0) := pe_var (by rw [g.N]; exact h1) (by have := vis_of h2; rw [← g.sc] at this; exact this) h3 h4
  refine Snd.of (PE_imp (pe_fld base rfl) fun σ H Q hh => ?_) (lkb_eq fun _ z => nomatch z) rfl
  obtain ⟨ρ, Z, O, rl, hh⟩ := hh
  simp only [evE] at hh
  cases e0 : (ρ[(0 : Nat)]? : Option Sl) with
  | none => rw [e0] at hh; exact hh.elim
  | some sl =>
    rw [e0] at hh
    cases sl with
    | no => exact hh.elim
    | val d => exact hh.elim
    | own d => exact hh.elim
    | slf c fs =>
      simp only at hh
      by_cases hc : c ∈ T.cls
      · simp only [hc, if_true] at hh
        cases e : fldD c fs x with
        | none => rw [e] at hh; exact hh.elim
        | some d =>
          rw [e] at hh
          obtain ⟨a, q0, q1, q2, dx, vs, w1, w2, w3, w4⟩ := rl.slf 0 c fs e0
          obtain ⟨v, q4, q5, q6⟩ := fld_at e w4
          have k := g.cs.cls c hc
          exact ⟨.ref a, q1, a, _, dx, _, v, rfl, w1, k.cl, k.na x q6, q4, hh v H ⟨.refl, by simp only [lks]; exact q5, fun z => by cases z⟩⟩
      · simp only [hc, if_false] at hh; exact hh.elim
theorem s_isc {a : E} {k : Cl} {y : Expr} {p p2 p3 : Pos} (g : Gd T G N n sc X) (h1 : glB sc "isinstance" = true) (h2 : glB sc k.name = true) (h3 : (k.name == ("__debug__" : Str)) = false) (hy : plainX y = true) (ha : Snd T n W X a y) :
    Snd T n W X (.isc a k) (.Call (.Name "isinstance" p2) [y, .Name k.name p3] [] p) := by
  by_cases hk : k ∈ T.cls
  · have kk := g.cs.cls k hk
    have hz : PE X (.Name k.name p3) (tC (.ref (He.ga X.K k.name))) := pe_glob (gl_of g.sc h2) kk.gl rfl h3
    have base := pe_callB (X := X) (pos := p) (p := p2) call_isi (gl_of g.sc h1) (g.blt _ (by simp [bltNames])) (by decide +kernel) (pa_cons ha.b (pa_cons hz pa_nil) (plainStar hy)) (by decide) (by decide) (plainStar hy) rfl
    refine Snd.of (PE_imp base fun σ H Q hh => ?_) (lkb_eq fun _ z => nomatch z) rfl
    obtain ⟨ρ, Z, O, rl, hh⟩ := hh
    simp only [evE, hk, if_true] at hh
    refine ⟨ρ, Z, O, rl, WpR.mono (WpR.bind hh) (fun d _ hd v H1 e1 r1 => ?_) fun c fs z => z⟩
    have pl : ∀ t : Ty, ∀ b, isTy d t = .ok b → isPl d = true → dTyp d ∈ ["NoneType", "bool", "int", "str", "tuple", "list"] → (∃ b, (WpR (.ok (.bl false) : Ev.R D) (fun d => ∀ v H', Post T X.w X.K (.isc a k) Z O H v H' d → Q v H') (wpX X.w X.K Z W σ H)) → ∃ x c t u b', [v, V.ref (He.ga X.K k.name)] = [x, c] ∧ ClsV c u ∧ TyX X.K H1 x t ∧ PySem.W.kitOne X.K t u = some b' ∧ Q (.bl b') H1) := fun t b ht hp hm =>
      ⟨b, fun w => ⟨v, _, .type (dTyp d), _, false, rfl, .own _, tyx r1 ht, kk.pl _ hm, w _ H1 ⟨e1, .bl _, fun z => by cases z⟩⟩⟩
    cases d with
    | ins c fs =>
      by_cases hc : c ∈ T.cls
      · simp only [hc, if_true] at hd
        obtain ⟨a', dx, vs, rfl, q1, q2, q3⟩ := r1.ins
        have kc := g.cs.cls c hc
        exact ⟨_, _, .ref (He.ga X.K c.name), _, decide (c = k), rfl, .own _, .base (.ins q1 kc.cl kc.ca kc.cn kc.ct kc.cm), g.cs.kit c hc k hk, hd _ H1 ⟨e1, .bl _, fun z => by cases z⟩⟩
      · simp only [hc, if_false] at hd; exact hd.elim
    | non => simp only [isPl, if_true] at hd; obtain ⟨_, w⟩ := pl .int false rfl rfl (by simp [dTyp]); exact w hd
    | bl b => simp only [isPl, if_true] at hd; obtain ⟨_, w⟩ := pl .str false rfl rfl (by simp [dTyp]); exact w hd
    | int b => simp only [isPl, if_true] at hd; obtain ⟨_, w⟩ := pl .str false rfl rfl (by simp [dTyp]); exact w hd
    | str b => simp only [isPl, if_true] at hd; obtain ⟨_, w⟩ := pl .int false rfl rfl (by simp [dTyp]); exact w hd
    | tup b => simp only [isPl, if_true] at hd; obtain ⟨_, w⟩ := pl .int false rfl rfl (by simp [dTyp]); exact w hd
    | lst b => simp only [isPl, if_true] at hd; obtain ⟨_, w⟩ := pl .int false rfl rfl (by simp [dTyp]); exact w hd
    | scr b => simp [isPl] at hd; exact hd.elim
    | dK b => simp [isPl] at hd; exact hd.elim
    | dN b => simp [isPl] at hd; exact hd.elim
  · refine Snd.of ⟨fun pins s σ H Q I hh => ?_⟩ (lkb_eq fun _ z => nomatch z) rfl
    obtain ⟨ρ, Z, O, rl, hh⟩ := hh
    simp only [evE, hk, if_false] at hh
    exact hh.elim
theorem plainAny {xs : List Expr} {env : PySem.Env} {p : Pos} (h : ∀ e ∈ xs, plainX e = true) : (backTo p (starEach xs env)).any (·.1) = false := by
  induction xs with
  | nil => rfl
  | cons z l ih =>
    rw [plainStar (h z List.mem_cons_self)]
    exact ih fun e he => h e (List.mem_cons_of_mem _ he)
theorem s_new {f : Nat} {es : List E} {xs : List Expr} {x : Str} {p p2 : Pos} (g : Gd T G N n sc X) (h1 : G.mkr f = some x) (h2 : glB sc x = true) (h3 : (x == ("__debug__" : Str)) = false) (h4 : xs ≠ []) (h5 : ∀ e ∈ xs, plainX e = true) (h : PA X xs (tEs T n X.w X.K W es)) :
    Snd T n W X (.new f es) (.Call (.Name x p2) xs [] p) := by
  obtain ⟨c, fn, a, fd, ps, m1, m2, m3, m4, m5, m6, m7⟩ := (g.cs.mks f x h1).ex
  have hr : Room (4 * n + 1) X.A := g.room.mono (by omega)
  cases xs with
  | nil => exact absurd rfl h4
  | cons e xs =>
    refine Snd.of (PE_imp (pe_make m5 m7 hr (gl_of g.sc h2) m4 m6 .nil passL h h3 (plainStar (h5 e List.mem_cons_self)) (plainAny fun e he => h5 e (List.mem_cons_of_mem _ he))) fun σ H Q hh => ?_) (lkb_eq fun _ z => nomatch z) rfl
    obtain ⟨ρ, Z, O, rl, hh⟩ := hh
    refine ⟨ρ, Z, O, rl, WpR.mono (WpR.bind hh) (fun ds hds hd vs H1 e1 r1 => ?_) fun c fs z => z⟩
    intro y dx ny nd ne
    have t1 := (rl.ext e1).trk (lksL es)
    have hne : ev T n f ds ≠ .bad := fun z => by rw [z] at hd; exact hd
    have hlen : ds.length = fn.np := by
      cases n with
      | zero => exact absurd rfl hne
      | succ m =>
        unfold ev at hne
        rw [m1] at hne
        by_cases hl : ds.length = fn.np
        · exact hl
        · simp only [hl, if_false] at hne; exact absurd rfl hne
    have up : ∀ b o, H1 b = some o → upd (upd H1 dx (.own y)) y (.ins (He.ga X.K x) dx []) b = some o := fun b o q => by
      rw [upd_ne (ne_of_none q ny), upd_ne (ne_of_none q nd)]; exact q
    refine ⟨y, dx, vs, c, fn, ds, AvO Z O (lksL es), by simp, m1, m2, by rw [r1.length, hlen], by rw [upd_same, m3], fun b z => ?_, fun z => ?_, r1.to fun b o q nb => ⟨up b o q, fun z => ?_⟩, WpR.mono hd (fun d _ hd H2 k r2 => ⟨rfl, hd (.ref y) H2 ⟨fun b o q => ?_, by simp only [lks]; exact r2, fun z => by cases z⟩⟩) fun _ _ _ => trivial⟩
    · obtain ⟨o, q⟩ := t1 b z
      exact ⟨o, up b o q⟩
    · obtain ⟨o, q⟩ := t1 y z
      rw [ny] at q; cases q
    · rcases z with z | z
      · exact nb z
      · exact ne_of_none q ny z
    · exact k b o (up b o (e1 b o q)) (ne_of_none (e1 b o q) ny)
theorem s_cal {a : E} {es : List E} {xs : List Expr} {fe : Expr} {p : Pos} (g : Gd T G N n sc X) (tk : Takes X W) (hf : callee fe = true) (h4 : xs ≠ []) (h5 : ∀ e ∈ xs, plainX e = true) (ha : Snd T n W X a fe) (h : PA X xs (tEs T n X.w X.K W es)) :
    Snd T n W X (.cal "__call__" a es) (.Call fe xs [] p) := by
  cases xs with
  | nil => exact absurd rfl h4
  | cons e xs =>
    refine Snd.of ⟨fun pins s σ H Q I hh => ?_⟩ (lkb_eq fun _ z => nomatch z) rfl
    obtain ⟨ρ, Z, O, rl, hh⟩ := hh
    simp only [evE] at hh
    cases ea : evE T (ev T n) ρ a with
    | bad => rw [ea] at hh; exact hh.elim
    | exc c fs => rw [ea] at hh; exact hh.elim
    | ok d =>
      rw [ea] at hh
      cases d with
      | ins c fs =>
        by_cases hc : c ∈ T.cls
        · simp only [hc, if_true] at hh
          cases em : T.meth c.name "__call__" with
          | none => rw [em] at hh; exact hh.elim
          | some f =>
            rw [em] at hh
            obtain ⟨m, fd, ps, q1, q2, q3, q4, q5, q6⟩ := (g.cs.met c hc _ f em).ex
            have hr : Room (4 * n) X.A := g.room.mono (by omega)
            have F : FnR X.prog X.w X.K X.mg X.base (L2.CX X.prog X.w) (4 * n) m (spF T n f X.w X.K) := by
              have := q6.raw q5 .nil
              simpa using this
            have rule := StX.pe_callO (X := X) (C := He.ga X.K c.name) (pos := p) ha.v ⟨q1, q2, q4⟩ F hr passL h (by cases fe <;> first | rfl | cases hf) (plainStar (h5 e List.mem_cons_self)) (plainAny fun e he => h5 e (List.mem_cons_of_mem _ he))
            refine rule.run pins s σ H Q I ?_
            refine ⟨ρ, Z, O, rl, ?_⟩
            rw [ea]
            intro v H1 p1
            obtain ⟨a', dx, vs, rfl, w1, w2, w3⟩ := RepB.ins (.inl p1.2.1)
            refine ⟨a', rfl, ρ, Z, O, rl.ext p1.1, WpR.mono (WpR.bind hh) (fun ds hds hd ws H2 e2 r2 => ⟨.inr ⟨dx, _, e2 _ _ w1⟩, ?_⟩) fun c fs z => z.ext p1.1⟩
            have r1 : Rep X.w X.K H2 (AvO Z O (lks (.cal "__call__" a es))) (.ref a') (.ins c fs) := (p1.2.1.ext e2).sub (AvO.mono fun i hi => by simp only [lks]; exact List.mem_append_left _ hi)
            have r2' : Reps X.w X.K H2 (AvO Z O (lks (.cal "__call__" a es))) ws ds := r2.sub (AvO.mono fun i hi => by simp only [lks]; exact List.mem_append_right _ hi)
            have hne : ev T n f (.ins c fs :: ds) ≠ .bad := fun z => by rw [z] at hd; exact hd
            refine ⟨?_, .ins c fs :: ds, AvO Z O (lks (.cal "__call__" a es)), ((rl.ext p1.1).ext e2).trk _, .cons r1 r2', WpR.mono hd (fun d _ hd v H3 e3 r3 _ => hd v H3 ⟨(p1.1.trans e2).trans e3, r3, fun z => by cases z⟩) fun c fs z cls dd H' e x => x.elim⟩
            cases n with
            | zero => exact absurd rfl hne
            | succ m =>
              unfold ev at hne
              unfold npOf
              cases e3 : T.fn f with
              | none => rw [e3] at hne; exact absurd rfl hne
              | some fn =>
                rw [e3] at hne
                by_cases hl : (D.ins c fs :: ds).length = fn.np
                · rw [List.length_cons, r2.length, ← List.length_cons (a := D.ins c fs)]; exact hl
                · simp only [hl, if_false] at hne; exact absurd rfl hne
        · simp only [hc, if_false] at hh; exact hh.elim
      | _ => exact hh.elim
/-- x op y, instances, by x's own def -/
def rOwnI (K : PySem.W.Frag) (C : Addr) (sp : Sp) : R2 := fun x y H Q => ∃ a dx fs b C' dy gs, x = .ref a ∧ y = .ref b ∧ H a = some (.ins C dx fs) ∧ H b = some (.ins C' dy gs) ∧ PySem.W.notFirst K C (.ref C') = true ∧ sp [x, y] H Q E0
theorem op_ownI {k : Nat} {C g : Addr} {sp : Sp} (hs : PySem.W.findIn X.K (.ref C) "__eq__" = some (some (.ref g))) (hf : PySem.W.isFn X.K (.ref g) = true) (F : FnR X.prog X.w X.K X.mg X.base (L2.CX X.prog X.w) k g sp)
    (hr : Room k X.A) : OpR X (compareOp .Eq) (rOwnI X.K C sp) := by
  intro pins s σ H x y v u Q I rx ry h
  obtain ⟨a, dx, fs, b, C', dy, gs, rfl, rfl, ha, hb, hn, q⟩ := h
  cases (show v = Value.ref a from rx)
  cases (show u = Value.ref b from ry)
  obtain ⟨mA, J, _⟩ := ins_get I.hok ha
  obtain ⟨mB, J', _⟩ := ins_get I.hok hb
  obtain ⟨od, J, _⟩ := J.look
  obtain ⟨od', J', _⟩ := J'.look
  obtain ⟨m, hF⟩ := I.fr
  show wpAny _ _ (richCompare .Eq (.ref a) (.ref b)) _ _ _
  refine PySem.W.cmp_K (op := .Eq) (tb := .ref C') hr.units0 hF I.ok.mod.kin J J'.type hn hs hf ?_
  refine wpAny_mono (wpAny_call (run_fnR (us := [.ref a, .ref b]) (vs := [.ref a, .ref b]) F hr passL I (.cons rfl (.cons rfl .nil)) q)) (fun w s' z => ?_) fun _ _ x => x
  obtain ⟨z', H', I', rz, qz⟩ := z
  exact SlX.cmpback rz ⟨z', H', I', rz, qz⟩
theorem s_eqo {ne : Bool} {a b : E} {x y : Expr} {p : Pos} (g : Gd T G N n sc X) (hy : plainX y = true) (ha : Snd T n W X a x) (hb : Snd T n W X b y) : Snd T n W X (.eqo ne a b) (.Compare x [.Eq] [y] p) := by
  have core : ∀ {ρ : Env} {d : D}, evE T (ev T n) ρ (.eqo ne a b) = .ok d → ∃ (r : Bool) (C m : Addr) (f : Nat), d = .bl r ∧ OpR X (compareOp .Eq) (rOwnI X.K C (spF T n f X.w X.K)) ∧
      ∀ {σ : Sta} {H : Hp} {Q : VK} {Z : Zs} {O : Own}, Rl X.w X.K Z O σ H ρ → (∀ H', Ext H H' → Q (.bl r) H') → tOp (rOwnI X.K C (spF T n f X.w X.K)) (tE T n X.w X.K W a) (tE T n X.w X.K W b) σ H Q := fun {ρ d} hh => by
    simp only [evE] at hh
    split at hh
    · rename_i c fs ea
      split at hh
      · rename_i c' gs eb
        split at hh
        · rename_i hc
          obtain ⟨_, hc, hc'⟩ := hc
          split at hh
          · rename_i f em
            split at hh
            · rename_i r ef
              cases hh
              obtain ⟨m, fd, ps, q1, q2, q3, q4, q5, q6⟩ := (g.cs.met c hc _ f em).ex
              have hr : Room (4 * n) X.A := g.room.mono (by omega)
              have F : FnR X.prog X.w X.K X.mg X.base (L2.CX X.prog X.w) (4 * n) m (spF T n f X.w X.K) := by
                have := q6.raw q5 .nil
                simpa using this
              refine ⟨r, He.ga X.K c.name, m, f, rfl, op_ownI q1 q2 F hr, fun {σ H Q Z O} rl hQ => ⟨ρ, Z, O, rl, ?_⟩⟩
              rw [ea]
              intro v H1 p1
              refine ⟨ρ, Z, O, rl.ext p1.1, ?_⟩
              rw [eb]
              intro v' H2 p2
              obtain ⟨a', dx, vs, rfl, w1, w2, w3⟩ := RepB.ins (.inl p1.2.1)
              obtain ⟨b', dy, ws, rfl, u1, u2, u3⟩ := RepB.ins (.inl p2.2.1)
              refine ⟨a', dx, _, b', _, dy, _, rfl, rfl, p2.1 _ _ w1, u1, g.cs.neq c hc c' hc', ?_⟩
              have t2 := ((rl.ext p1.1).ext p2.1).trk (lks a ++ lks b)
              have r1 : Rep X.w X.K H2 (AvO Z O (lks a ++ lks b)) (.ref a') (.ins c fs) := (p1.2.1.ext p2.1).sub (AvO.mono fun i hi => List.mem_append_left _ hi)
              have r2 : Rep X.w X.K H2 (AvO Z O (lks a ++ lks b)) (.ref b') (.ins c' gs) := p2.2.1.sub (AvO.mono fun i hi => List.mem_append_right _ hi)
              refine ⟨?_, [.ins c fs, .ins c' gs], _, t2, .cons r1 (.cons r2 .nil), ?_⟩
              · have hne : ev T n f [.ins c fs, .ins c' gs] ≠ .bad := fun z => by rw [z] at ef; cases ef
                cases n with
                | zero => exact absurd rfl hne
                | succ m =>
                  unfold ev at hne
                  unfold npOf
                  cases e3 : T.fn f with
                  | none => rw [e3] at hne; exact absurd rfl hne
                  | some fn =>
                    rw [e3] at hne
                    by_cases hl : [D.ins c fs, D.ins c' gs].length = fn.np
                    · exact hl
                    · simp only [hl, if_false] at hne; exact absurd rfl hne
              · rw [ef]
                intro v3 H3 e3 r3 _
                cases r3
                exact hQ H3 ((p1.1.trans p2.1).trans e3)
            · cases hh
          · cases hh
        · cases hh
      · cases hh
    · cases hh
  have noexc : ∀ {ρ : Env} {c : Cl} {fs : List D}, evE T (ev T n) ρ (.eqo ne a b) ≠ .exc c fs := fun {ρ c fs} hh => by
    simp only [evE] at hh
    repeat' split at hh
    all_goals cases hh
  have v : PE X (.Compare x [.Eq] [y] p) (tE T n X.w X.K W (.eqo ne a b)) := ⟨fun pins s σ H Q I hh => by
    obtain ⟨ρ, Z, O, rl, hh⟩ := hh
    cases e : evE T (ev T n) ρ (.eqo ne a b) with
    | bad => rw [e] at hh; exact hh.elim
    | exc c fs => exact absurd e noexc
    | ok d =>
      rw [e] at hh
      obtain ⟨r, C, m, f, rfl, ho, k⟩ := core e
      exact (pe_cmpR (pos := p) ho ha.v hb.v (plainMark hy)).run pins s σ H Q I (k rl fun H' x => hh (.bl r) H' ⟨x, .bl r, fun z => by cases z⟩)⟩
  refine ⟨v, Snd.borrow v (lkb_eq fun _ z => nomatch z), ⟨fun pins s σ H Q I hh => ?_⟩, fun op es q z => by cases z⟩
  obtain ⟨ρ, Z, O, rl, hh⟩ := hh
  cases e : evE T (ev T n) ρ (.eqo ne a b) with
  | bad => rw [e] at hh; exact hh.elim
  | exc c fs => exact absurd e noexc
  | ok d =>
    rw [e] at hh
    obtain ⟨r, C, m, f, rfl, ho, k⟩ := core e
    exact (pt_cmpR (pos := p) ho ha.v hb.v (plainMark hy)).run pins s σ H Q I (k rl fun H' x => ⟨r, rfl, hh H' x⟩)
end
end Ev

set_option linter.all false
set_option autoImplicit false
set_option maxRecDepth 100000
set_option maxHeartbeats 8000000
/-! The theorem about all expressions. -/
namespace Ev
open PySem PySem.Spec PyProof.Rows L2

section
variable {T : Tab} {G : Nm} {N : List Str} {n : Nat}
theorem chkEs_plain : ∀ {es : List E} {sc : Scope} {xs : List Expr}, chkEs G N es sc xs = true → (∀ x ∈ xs, plainX x = true) ∧ es.length = xs.length
  | [], _, [], _ => ⟨fun x h => (nomatch h), rfl⟩
  | e :: es, sc, x :: xs, h => by
    simp only [chkEs, Bool.and_eq_true] at h
    obtain ⟨h1, h2⟩ := chkEs_plain h.2
    refine ⟨fun y hy => ?_, by rw [List.length_cons, List.length_cons, h2]⟩
    rcases List.mem_cons.mp hy with rfl | hy
    · exact h.1.1
    · exact h1 y hy
  | [], _, _ :: _, h => by simp [chkEs] at h
  | _ :: _, _, [], h => by simp [chkEs] at h
theorem vis_pe {X : Cx} {sc : Scope} {i : Nat} {ex : Expr} (h : chkE G N (.var i) sc ex = true) (g : Gd T G N n sc X) : PE X ex (tVar i) := by
  simp only [chkE] at h
  cases e1 : asName ex with
  | none => rw [e1] at h; cases h
  | some x =>
    rw [e1] at h
    simp only [Bool.and_eq_true, decide_eq_true_eq, nodebug, Bool.not_eq_true'] at h
    obtain ⟨⟨h1, h2⟩, h3, h4⟩ := h
    obtain ⟨p, rfl⟩ := asName_some e1
    exact pe_var (by rw [g.N]; exact h1) (by have := vis_of h2; rw [← g.sc] at this; exact this) h3 h4
/-- what the look at a comprehension tells -/
structure CompOk (G : Nm) (N : List Str) (sc : Scope) (elt : E) (x : Nat) (src : Src) (cond : Option E) (e it : Expr) (ifs : List Expr) (nm : Str) (scope : Scope) : Prop where
  blk : blkC N sc scope [(nm, x)] = true
  at_ : N[x]? = some nm
  loc : locB scope sc nm = true
  src : chkS G N src sc it = true
  elt : chkE G N elt (relS scope sc) e = true
  cond : (cond = none ∧ ifs = []) ∨ ∃ c i, cond = some c ∧ ifs = [i] ∧ chkE G N c (relS scope sc) i = true
theorem comp_of {sc : Scope} {elt : E} {x : Nat} {src : Src} {cond : Option E} {ex : Expr} (h : chkE G N (.comp elt x src cond) sc ex = true) :
    ∃ e it ifs nm scope p p2, ex = .ListComp e [⟨.Name nm p2, it, ifs, 0⟩] scope p ∧ CompOk G N sc elt x src cond e it ifs nm scope := by
  simp only [chkE] at h
  split at h
  · rename_i e tg it ifs asy scope e1
    obtain ⟨p, rfl⟩ := asComp_some e1
    split at h
    · rename_i nm e2
      obtain ⟨p2, rfl⟩ := asName_some e2
      simp only [Bool.and_eq_true, decide_eq_true_eq] at h
      obtain ⟨⟨⟨⟨⟨⟨h1, h2⟩, h3⟩, h4⟩, h5⟩, h6⟩, h7⟩ := h
      subst h1
      refine ⟨e, it, ifs, nm, scope, p, p2, rfl, h2, h3, h4, h5, h6, ?_⟩
      split at h7
      · exact .inl ⟨rfl, rfl⟩
      · exact .inr ⟨_, _, rfl, rfl, h7⟩
      · cases h7
    · cases h
  · cases h
theorem Gd.blk {X : Cx} {sc scope : Scope} (g : Gd T G N n sc X) (s : Shared) (H : Hp) (C : Addr) (cl : List (Str × Addr)) (fp : List Addr) : Gd T G N n (relS scope sc) (X.blk s H scope (compEnvC scope cl C X.env) fp) :=
  ⟨g.N, g.nd, by rw [← g.sc]; rfl, g.calm, g.room, g.fns, g.blt, g.szo, g.globs, g.cs⟩
theorem loc_pg {X : Cx} {sc scope : Scope} {x : Nat} {nm : Str} {p2 : Pos} (g : Gd T G N n sc X) (h : locB scope sc nm = true) (hN : N[x]? = some nm) (s : Shared) (H : Hp) (C : Addr) (cl : List (Str × Addr)) (fp : List Addr) :
    PG (X.blk s H scope (compEnvC scope cl C X.env) fp) (.Name nm p2) (gName x) := by
  have gb := g.blk (scope := scope) s H C cl fp
  unfold locB at h
  split at h
  · rename_i e
    have e' : (X.blk s H scope (compEnvC scope cl C X.env) fp).env.scope.names.lookup nm = some .local := by rw [gb.sc]; exact e
    exact pg_name gb.nd (by rw [gb.N]; exact hN) (.inl e') (.inr e')
  · rename_i e
    have e' : (X.blk s H scope (compEnvC scope cl C X.env) fp).env.scope.names.lookup nm = some .cell := by rw [gb.sc]; exact e
    split at h
    · rename_i e2
      refine pg_name gb.nd (by rw [gb.N]; exact hN) (.inr e') (.inl ?_)
      show (scope.names.lookup nm == some .cell) = true
      rw [e2]; rfl
    · cases h
  · cases h
theorem chkS_plain {sc : Scope} {src : Src} {ex : Expr} (h : chkS G N src sc ex = true) : plainX ex = true := by
  cases src with
  | seq e => simp only [chkS, Bool.and_eq_true] at h; exact h.1
  | rng es =>
    simp only [chkS] at h
    split at h
    · rename_i e1
      obtain ⟨p, rfl⟩ := asCall_some e1
      rfl
    · cases h

mutual
theorem sE : ∀ (e : E) {sc : Scope} {ex : Expr} {X : Cx} {W : WX}, chkE G N e sc ex = true → Gd T G N n sc X → Takes X W → Snd T n W X e ex
  | .var i, _, _, _, _, h, g, tk => s_var h g
  | .non, _, _, _, _, h, g, tk => s_non h
  | .bl b, _, _, _, _, h, g, tk => s_bl h
  | .int b, _, _, _, _, h, g, tk => s_int h
  | .str b, _, _, _, _, h, g, tk => s_str h
  | .glob k, _, _, _, _, h, g, tk => s_glob h g
  | .bin o a b, sc, ex, X, W, h, g, tk => by
    simp only [chkE] at h
    split at h
    · rename_i x p y e1
      obtain ⟨p, rfl⟩ := asBin_some e1
      simp only [Bool.and_eq_true, decide_eq_true_eq] at h
      obtain ⟨⟨rfl, h2⟩, h3⟩ := h
      exact s_bin (sE a h2 g tk) (sE b h3 g tk)
    · cases h
  | .neg a, sc, ex, X, W, h, g, tk => by
    simp only [chkE] at h
    split at h
    · rename_i x e1
      obtain ⟨p, rfl⟩ := asUn_some e1
      exact s_neg (sE a h g tk)
    · cases h
  | .not a, sc, ex, X, W, h, g, tk => by
    simp only [chkE] at h
    split at h
    · rename_i x e1
      obtain ⟨p, rfl⟩ := asUn_some e1
      exact s_not (sE a h g tk)
    · cases h
  | .and a b, sc, ex, X, W, h, g, tk => by
    simp only [chkE] at h
    split at h
    · rename_i x y r p e1
      have := asBool_some e1
      subst this
      simp only [Bool.and_eq_true] at h
      refine s_and (sE a h.1 g tk) ⟨fun hr => ?_, fun hr => ?_⟩
      · subst hr; exact sE b h.2 g tk
      · cases r with
        | nil => exact absurd rfl hr
        | cons z r => exact sE b h.2 g tk
    · cases h
  | .or a b, sc, ex, X, W, h, g, tk => by
    simp only [chkE] at h
    split at h
    · rename_i x y r p e1
      have := asBool_some e1
      subst this
      simp only [Bool.and_eq_true] at h
      refine s_or (sE a h.1 g tk) ⟨fun hr => ?_, fun hr => ?_⟩
      · subst hr; exact sE b h.2 g tk
      · cases r with
        | nil => exact absurd rfl hr
        | cons z r => exact sE b h.2 g tk
    · cases h
  | .cmp o a b, sc, ex, X, W, h, g, tk => by
    simp only [chkE] at h
    split at h
    · rename_i x p y e1
      obtain ⟨p, rfl⟩ := asCmp_some e1
      simp only [Bool.and_eq_true, decide_eq_true_eq] at h
      obtain ⟨⟨⟨rfl, h1⟩, h2⟩, h3⟩ := h
      exact s_cmp g h1 (sE a h2 g tk) (sE b h3 g tk)
    · cases h
  | .chain o o' a b c, sc, ex, X, W, h, g, tk => by
    simp only [chkE] at h
    split at h
    · rename_i x p p' y z e1
      obtain ⟨p, rfl⟩ := asCmp_some e1
      simp only [Bool.and_eq_true, decide_eq_true_eq] at h
      obtain ⟨⟨⟨⟨⟨rfl, rfl⟩, h1⟩, h2⟩, h3⟩, h4⟩ := h
      exact s_chain g h1 (sE a h2 g tk) (sE b h3 g tk) (sE c h4 g tk)
    · cases h
  | .ife c a b, sc, ex, X, W, h, g, tk => by
    simp only [chkE] at h
    split at h
    · rename_i z x y e1
      obtain ⟨p, rfl⟩ := asIf_some e1
      simp only [Bool.and_eq_true] at h
      exact s_ife (sE c h.1.1 g tk) (sE a h.1.2 g tk) (sE b h.2 g tk)
    · cases h
  | .tup es, sc, ex, X, W, h, g, tk => by
    simp only [chkE] at h
    split at h
    · rename_i xs e1
      obtain ⟨k, p, rfl⟩ := asTup_some e1
      simp only [Bool.and_eq_true, decide_eq_true_eq] at h
      exact s_tup h.1 (chkEs_plain h.2).2 (sEs es h.2 g tk).1
    · cases h
  | .lst es, sc, ex, X, W, h, g, tk => by
    simp only [chkE] at h
    split at h
    · rename_i xs e1
      obtain ⟨p, rfl⟩ := asLst_some e1
      simp only [Bool.and_eq_true, decide_eq_true_eq] at h
      exact s_lst h.1 (chkEs_plain h.2).2 (sEs es h.2 g tk).1
    · cases h
  | .idx a i, sc, ex, X, W, h, g, tk => by
    simp only [chkE] at h
    split at h
    · rename_i x y e1
      obtain ⟨p, rfl⟩ := asSub_some e1
      simp only [Bool.and_eq_true] at h
      exact s_idx g h.1.1 (sE a h.1.2 g tk) (sE i h.2 g tk)
    · cases h
  | .slc a lo hi, sc, ex, X, W, h, g, tk => by
    simp only [chkE] at h
    split at h
    · rename_i x y e1
      obtain ⟨p, rfl⟩ := asSub_some e1
      split at h
      · rename_i l u e2
        obtain ⟨p2, rfl⟩ := asSlc_some e2
        simp only [Bool.and_eq_true] at h
        exact s_slc (sE a h.1.1 g tk) (sO lo h.1.2 g tk) (sO hi h.2 g tk)
      · cases h
    · cases h
  | .call f es, sc, ex, X, W, h, g, tk => by
    simp only [chkE] at h
    split at h
    · rename_i y xs e1
      obtain ⟨p, rfl⟩ := asCall_some e1
      split at h
      · rename_i x e2
        obtain ⟨p2, rfl⟩ := asName_some e2
        simp only [Bool.and_eq_true, decide_eq_true_eq, nodebug, Bool.not_eq_true', List.isEmpty_eq_false_iff] at h
        obtain ⟨⟨⟨⟨h1, h2⟩, h3, _⟩, h4⟩, h5⟩ := h
        exact s_call g tk h1 h2 h3 h4 (chkEs_plain h5).1 (sEs es h5 g tk).1
      · cases h
    · cases h
  | .bi b es, sc, ex, X, W, h, g, tk => by
    simp only [chkE] at h
    split at h
    · rename_i y xs e1
      obtain ⟨p, rfl⟩ := asCall_some e1
      split at h
      · rename_i x e2
        obtain ⟨p2, rfl⟩ := asName_some e2
        simp only [Bool.and_eq_true, decide_eq_true_eq, Bool.not_eq_true', List.isEmpty_eq_false_iff] at h
        obtain ⟨⟨⟨h1, h2⟩, h4⟩, h5⟩ := h
        subst h1
        exact s_bi g h2 h4 (chkEs_plain h5).1 (sEs es h5 g tk).2
      · cases h
    · cases h
  | .isi a t, sc, ex, X, W, h, g, tk => by
    simp only [chkE] at h
    split at h
    · rename_i gg y z e1
      obtain ⟨p, rfl⟩ := asCall_some e1
      split at h
      · rename_i x c e2 e3
        obtain ⟨p2, rfl⟩ := asName_some e2
        obtain ⟨p3, rfl⟩ := asName_some e3
        simp only [Bool.and_eq_true, decide_eq_true_eq] at h
        obtain ⟨⟨⟨⟨⟨h1, h2⟩, h3⟩, h4⟩, h5⟩, h6⟩ := h
        subst h1
        exact s_isi g h2 h3 h4 h5 (sE a h6 g tk)
      · cases h
    · cases h
  | .comp elt x src cond, sc, ex, X, W, h, g, tk => by
    obtain ⟨e, it, ifs, nm, scope, p, p2, rfl, hc⟩ := comp_of h
    refine (s_comp (cond := cond) g (by rw [g.N]; exact hc.at_) (blkOk_by (by rw [g.N, g.sc]; exact hc.blk)) (fun s H C cl fp => loc_pg g hc.loc hc.at_ s H C cl fp) (sS src hc.src g tk) (fun y => plainFold (chkS_plain hc.src)) (fun s H C cl fp => ?_)
      (fun s H C cl fp => (sE elt hc.elt (g.blk s H C cl fp) takes0).v)).2
    match cond, hc.cond with
    | none, .inl ⟨_, hi⟩ => rw [hi]; exact pts_nil
    | some c, .inr ⟨c', i, q1, q2, q3⟩ =>
      rw [q2]
      have : c = c' := Option.some.inj q1
      subst this
      exact pts_one (sE c q3 (g.blk s H C cl fp) takes0).t
    | none, .inr ⟨_, _, q, _⟩ => cases q
    | some c, .inl ⟨q, _⟩ => cases q
  | .sorts e, sc, ex, X, W, h, g, tk => by
    simp only [chkE] at h
    split at h
    · rename_i f y k e1
      obtain ⟨p, p2, p3, p4, rfl⟩ := asSortK_some e1
      simp only [Bool.and_eq_true, decide_eq_true_eq] at h
      obtain ⟨⟨⟨⟨⟨⟨rfl, h2⟩, rfl⟩, h4⟩, h5⟩, h6⟩, h7⟩ := h
      exact s_sorts g h2 h4 h5 h6 (sE e h7 g tk)
    · cases h
  | .dnew t, sc, ex, X, W, h, g, tk => by
    simp only [chkE] at h
    exact s_dnew h
  | .ddisp t k v, sc, ex, X, W, h, g, tk => by
    simp only [chkE] at h
    split at h
    · rename_i x y e1
      obtain ⟨p, rfl⟩ := asDict1_some e1
      simp only [Bool.and_eq_true] at h
      exact s_ddisp g (sE k h.1 g tk) (sE v h.2 g tk)
    · cases h
  | .get d k, sc, ex, X, W, h, g, tk => by
    simp only [chkE] at h
    split at h
    · rename_i o name y e1
      obtain ⟨apos, cpos, rfl, hl, hn⟩ := asMeth_some e1
      simp only [Bool.and_eq_true, decide_eq_true_eq] at h
      obtain ⟨⟨⟨rfl, h2⟩, h3⟩, h4⟩ := h
      exact s_get g hl hn h3 (sE d h2 g tk) (sE k h4 g tk)
    · cases h
  | .getd d k e, sc, ex, X, W, h, g, tk => by
    simp only [chkE] at h
    split at h
    · rename_i o name y z e1
      obtain ⟨apos, cpos, rfl, hl, hn⟩ := asMeth_some e1
      simp only [Bool.and_eq_true, decide_eq_true_eq] at h
      obtain ⟨⟨⟨⟨⟨rfl, h2⟩, h3⟩, h4⟩, h5⟩, h6⟩ := h
      exact s_getd g hl hn h3 h5 (sE d h2 g tk) (sE k h4 g tk) (sE e h6 g tk)
    · cases h
  | .rev _, _, _, _, _, h, _, _ => by simp [chkE] at h
  | .isc a k, sc, ex, X, W, h, g, tk => by
    simp only [chkE] at h
    split at h
    · rename_i gg y z e1
      obtain ⟨p, rfl⟩ := asCall_some e1
      split at h
      · rename_i x c e2 e3
        obtain ⟨p2, rfl⟩ := asName_some e2
        obtain ⟨p3, rfl⟩ := asName_some e3
        simp only [Bool.and_eq_true, decide_eq_true_eq, nodebug, Bool.not_eq_true'] at h
        obtain ⟨⟨⟨⟨⟨⟨h1, h2⟩, h3⟩, h4, _⟩, h5⟩, h6⟩, h7⟩ := h
        subst h1; subst h5
        exact s_isc g h2 h3 h4 h6 (sE a h7 g tk)
      · cases h
    · cases h
  | .att a x, sc, ex, X, W, h, g, tk => by
    simp only [chkE] at h
    split at h
    · rename_i y z e1
      obtain ⟨p, rfl⟩ := asAtt_some e1
      simp only [Bool.and_eq_true, decide_eq_true_eq] at h
      obtain ⟨⟨rfl, h2⟩, h3⟩ := h
      exact s_att g h2 (sE a h3 g tk)
    · cases h
  | .slf x, sc, ex, X, W, h, g, tk => by
    simp only [chkE] at h
    split at h
    · rename_i y z e1
      obtain ⟨p, rfl⟩ := asAtt_some e1
      simp only [Bool.and_eq_true, decide_eq_true_eq] at h
      obtain ⟨⟨rfl, h2⟩, h3⟩ := h
      split at h3
      · rename_i w e2
        obtain ⟨p2, rfl⟩ := asName_some e2
        simp only [Bool.and_eq_true, decide_eq_true_eq, nodebug, Bool.not_eq_true'] at h3
        obtain ⟨⟨h4, h5⟩, h6, h7⟩ := h3
        exact s_slf g h4 h5 h6 h7
      · cases h3
    · cases h
  | .new f es, sc, ex, X, W, h, g, tk => by
    simp only [chkE] at h
    split at h
    · rename_i y xs e1
      obtain ⟨p, rfl⟩ := asCall_some e1
      split at h
      · rename_i x e2
        obtain ⟨p2, rfl⟩ := asName_some e2
        simp only [Bool.and_eq_true, decide_eq_true_eq, nodebug, Bool.not_eq_true', List.isEmpty_eq_false_iff] at h
        obtain ⟨⟨⟨⟨h1, h2⟩, h3, _⟩, h4⟩, h5⟩ := h
        exact s_new g h1 h2 h3 h4 (chkEs_plain h5).1 (sEs es h5 g tk).1
      · cases h
    · cases h
  | .cal m a es, sc, ex, X, W, h, g, tk => by
    simp only [chkE] at h
    split at h
    · rename_i y xs e1
      obtain ⟨p, rfl⟩ := asCall_some e1
      simp only [Bool.and_eq_true, decide_eq_true_eq, Bool.not_eq_true', List.isEmpty_eq_false_iff] at h
      obtain ⟨⟨⟨⟨rfl, h2⟩, h3⟩, h4⟩, h5⟩ := h
      exact s_cal g tk h2 h4 (chkEs_plain h5).1 (sE a h3 g tk) (sEs es h5 g tk).1
    · cases h
  | .eqo ne a b, sc, ex, X, W, h, g, tk => by
    simp only [chkE] at h
    split at h
    · rename_i x p y e1
      obtain ⟨p, rfl⟩ := asCmp_some e1
      simp only [Bool.and_eq_true, decide_eq_true_eq] at h
      obtain ⟨⟨⟨rfl, h1⟩, h2⟩, h3⟩ := h
      exact s_eqo g h1 (sE a h2 g tk) (sE b h3 g tk)
    · cases h
theorem sEs : ∀ (es : List E) {sc : Scope} {xs : List Expr} {X : Cx} {W : WX}, chkEs G N es sc xs = true → Gd T G N n sc X → Takes X W → PA X xs (tEs T n X.w X.K W es) ∧ PA X xs (tBs T n X.w X.K W es)
  | [], sc, [], X, W, h, g, tk => ⟨PA_imp pa_nil fun σ H Q ⟨ρ, Z, O, rl, hh⟩ => hh [] H .refl .nil, PA_imp pa_nil fun σ H Q ⟨ρ, Z, O, rl, hh⟩ => hh [] H .refl .nil⟩
  | e :: es, sc, x :: xs, X, W, h, g, tk => by
    simp only [chkEs, Bool.and_eq_true] at h
    have he := sE e h.1.2 g tk
    have hs := sEs es h.2 g tk
    have st := plainStar (es := xs) (env := X.env) h.1.1
    refine ⟨PA_imp (pa_cons he.v hs.1 st) fun σ H Q hh => ?_, PA_imp (pa_cons he.b hs.2 st) fun σ H Q hh => ?_⟩
    · obtain ⟨ρ, Z, O, rl, hh⟩ := hh
      refine ⟨ρ, Z, O, rl, WpR.mono (WpR.bind hh) (fun d _ hd v H1 p1 => ⟨ρ, Z, O, rl.ext p1.1, WpR.mono (WpR.bind hd) (fun ds _ hds vs H2 x2 r2 => ?_) fun c fs z => z.ext p1.1⟩) fun c fs z => z⟩
      refine hds _ H2 (p1.1.trans x2) (.cons ((p1.2.1.ext x2).sub (AvO.mono fun i hi => ?_)) (r2.sub (AvO.mono fun i hi => ?_)))
      · simp only [lksL]; exact List.mem_append_left _ hi
      · simp only [lksL]; exact List.mem_append_right _ hi
    · obtain ⟨ρ, Z, O, rl, hh⟩ := hh
      refine ⟨ρ, Z, O, rl, WpR.mono (WpR.bind hh) (fun d _ hd v H1 x1 r1 => ⟨ρ, Z, O, rl.ext x1, WpR.mono (WpR.bind hd) (fun ds _ hds vs H2 x2 r2 => ?_) fun c fs z => z.ext x1⟩) fun c fs z => z⟩
      have sub : ∀ {vs : List V} {ds : List D}, RepBs X.w X.K H2 (AvO Z O (lkbL es)) vs ds → RepBs X.w X.K H2 (AvO Z O (lkbL (e :: es))) vs ds := fun {vs ds} r => by
        refine Paired.mapP r fun a b q => q.sub (AvO.mono fun i hi => ?_)
        simp only [lkbL]; exact List.mem_append_right _ hi
      refine hds _ H2 (x1.trans x2) (.cons ((r1.ext x2).sub (AvO.mono fun i hi => ?_)) (sub r2))
      simp only [lkbL]; exact List.mem_append_left _ hi
  | [], sc, x :: xs, X, W, h, g, tk => by simp [chkEs] at h
  | e :: es, sc, [], X, W, h, g, tk => by simp [chkEs] at h
theorem sO : ∀ (e : Option E) {sc : Scope} {ex : Option Expr} {X : Cx} {W : WX}, chkO G N e sc ex = true → Gd T G N n sc X → Takes X W → PO X ex (tO T n X.w X.K W e)
  | none, sc, none, X, W, h, g, tk => PO_imp po_none fun σ H Q ⟨ρ, Z, O, rl, hh⟩ => hh H .refl
  | some e, sc, some ex, X, W, h, g, tk => by
    simp only [chkO] at h
    refine PO_imp (po_some (sE e h g tk).b) fun σ H Q hh => ?_
    obtain ⟨ρ, Z, O, rl, hh⟩ := hh
    refine ⟨ρ, Z, O, rl, WpR.mono (WpR.bind hh) (fun d _ hd v H1 x1 r1 => ?_) fun c fs z => z⟩
    cases d with
    | int i => exact ⟨i, r1.int, hd H1 x1⟩
    | _ => exact hd.elim
  | none, sc, some ex, X, W, h, g, tk => by simp [chkO] at h
  | some e, sc, none, X, W, h, g, tk => by simp [chkO] at h
theorem sS : ∀ (src : Src) {sc : Scope} {ex tg : Expr} {X : Cx} {W : WX}, chkS G N src sc ex = true → Gd T G N n sc X → Takes X W → PI X tg ex (tS T n X.w X.K W src)
  | .rng es, sc, ex, tg, X, W, h, g, tk => by
    simp only [chkS] at h
    split at h
    · rename_i y xs e1
      obtain ⟨p, rfl⟩ := asCall_some e1
      split at h
      · rename_i x e2
        obtain ⟨p2, rfl⟩ := asName_some e2
        simp only [Bool.and_eq_true, decide_eq_true_eq] at h
        obtain ⟨⟨⟨h1, h2⟩, h3⟩, h4⟩ := h
        subst h1
        exact s_rng g h2 h3 (chkEs_plain h4).2 (chkEs_plain h4).1 (sEs es h4 g tk).2
      · cases h
    · cases h
  | .seq e, sc, ex, tg, X, W, h, g, tk => by
    simp only [chkS, Bool.and_eq_true] at h
    exact s_seq (sE e h.2 g tk) fun i hi => by subst hi; exact vis_pe h.2 g
end
end
end Ev

set_option linter.all false
set_option autoImplicit false
set_option maxRecDepth 100000
set_option maxHeartbeats 8000000
/-! Environments: what is kept, stored, written. -/
namespace Ev
open PySem PySem.Spec PyProof.Rows L2

section
variable {T : Tab} {wd : World} {K : PySem.W.Frag} {Z : Zs} {O O' O1 O2 : Own} {σ : Sta} {H H0 H1 H2 H' : Hp} {ρ : Env} {M M1 M2 : List Nat}

/-- what stands, but the roots of the names in M -/
structure KeepR (M : List Nat) (O : Own) (H H' : Hp) : Prop where
  keep : ∀ b o, H b = some o → (∀ i ∈ M, O i ≠ some b) → H' b = some o
  there : ∀ b o, H b = some o → ∃ o', H' b = some o'
structure Step (M : List Nat) (O : Own) (H : Hp) (O' : Own) (H' : Hp) : Prop extends KeepR M O H H' where
  roots : ∀ i a, O' i = some a → O i = some a ∨ H a = none
theorem KeepR.ext (e : Ext H H') : KeepR M O H H' := ⟨fun b o h _ => e b o h, fun b o h => ⟨o, e b o h⟩⟩
theorem Step.ext (e : Ext H H') (r : ∀ i a, O' i = some a → O i = some a ∨ H a = none) : Step M O H O' H' := ⟨KeepR.ext e, r⟩
theorem Step.refl : Step M O H O H := .ext .refl fun _ _ h => .inl h
theorem Step.mono (h : Step M O H O' H') (hm : ∀ i ∈ M, i ∈ M1) : Step M1 O H O' H' := ⟨⟨fun b o e n => h.keep b o e fun i hi => n i (hm i hi), h.there⟩, h.roots⟩
theorem KeepR.mono (h : KeepR M O H H') (hm : ∀ i ∈ M, i ∈ M1) : KeepR M1 O H H' := ⟨fun b o e n => h.keep b o e fun i hi => n i (hm i hi), h.there⟩
theorem KeepR.trans (a : Step M O H O1 H1) (b : KeepR M O1 H1 H2) : KeepR M O H H2 := by
  refine ⟨fun c o e n => b.keep c o (a.keep c o e n) fun i hi q => ?_, fun c o e => ?_⟩
  · rcases a.roots i c q with z | z
    · exact n i hi z
    · rw [e] at z; cases z
  · obtain ⟨o', q⟩ := a.there c o e
    exact b.there c o' q
theorem Step.trans (a : Step M O H O1 H1) (b : Step M O1 H1 O2 H2) : Step M O H O2 H2 := by
  refine ⟨KeepR.trans a b.toKeepR, fun i c q => ?_⟩
  rcases b.roots i c q with z | z
  · exact a.roots i c z
  · refine .inr ?_
    cases e : H c with
    | none => rfl
    | some o =>
      obtain ⟨o', q'⟩ := a.there c o e
      rw [z] at q'; cases q'
theorem Step.none (a : Step M O H O1 H1) {b : Addr} (h : H1 b = none) : H b = none := by
  cases e : H b with
  | none => rfl
  | some o =>
    obtain ⟨o', q'⟩ := a.there b o e
    rw [h] at q'; cases q'

/-! ### freeze -/
theorem freeze_len : ∀ (is : List Nat) (ρ : Env), (freeze is ρ).length = ρ.length
  | [], ρ => rfl
  | i :: is, ρ => by
    rw [freeze.eq_2]
    rw [freeze_len is]
    split
    · rw [List.length_set]
    · rfl
theorem freeze_cons (i : Nat) (is : List Nat) (ρ : Env) : freeze (i :: is) ρ = freeze is ρ ∨ ∃ d, ρ[i]? = some (.own d) ∧ freeze (i :: is) ρ = freeze is (ρ.set i (.val d)) := by
  rw [freeze.eq_2]
  split
  · exact .inr ⟨_, ‹_›, rfl⟩
  · exact .inl rfl
theorem freeze_cons_no {i : Nat} {is : List Nat} {ρ : Env} (h : ∀ d, ρ[i]? ≠ some (.own d)) : freeze (i :: is) ρ = freeze is ρ := by
  rcases freeze_cons i is ρ with e | ⟨d, e, _⟩
  · exact e
  · exact absurd e (h d)
theorem freeze_cons_own {i : Nat} {is : List Nat} {ρ : Env} {d : D} (h : ρ[i]? = some (.own d)) : freeze (i :: is) ρ = freeze is (ρ.set i (.val d)) := by
  rw [freeze.eq_2]; split
  · rename_i e; rw [h] at e; cases e; rfl
  · rename_i e; exact absurd h (e d)
theorem freeze_get : ∀ (is : List Nat) (ρ : Env) (j : Nat), (freeze is ρ)[j]? = if j ∈ is then (ρ[j]?).map freeze1 else ρ[j]?
  | [], ρ, j => by simp [freeze]
  | i :: is, ρ, j => by
    by_cases ho : ∃ d, ρ[i]? = some (.own d)
    · obtain ⟨d, ho⟩ := ho
      rw [freeze_cons_own ho, freeze_get is]
      have hl : i < ρ.length := (List.getElem?_eq_some_iff.mp ho).1
      by_cases hji : j = i
      · subst hji
        rw [if_pos List.mem_cons_self, List.getElem?_set_self hl, ho]
        split <;> rfl
      · rw [List.getElem?_set_ne (Ne.symm hji)]
        by_cases hm : j ∈ is
        · rw [if_pos hm, if_pos (List.mem_cons_of_mem _ hm)]
        · rw [if_neg hm, if_neg (by simp [hji, hm])]
    · have ho' : ∀ d, ρ[i]? ≠ some (.own d) := fun d e => ho ⟨d, e⟩
      rw [freeze_cons_no ho', freeze_get is]
      by_cases hji : j = i
      · subst hji
        rw [if_pos List.mem_cons_self]
        have : (ρ[j]?).map freeze1 = ρ[j]? := by
          cases e : ρ[j]? with
          | none => rfl
          | some s =>
            cases s with
            | own d => exact absurd e (ho' d)
            | _ => rfl
        rw [this]; split <;> rfl
      · by_cases hm : j ∈ is
        · rw [if_pos hm, if_pos (List.mem_cons_of_mem _ hm)]
        · rw [if_neg hm, if_neg (by simp [hji, hm])]
def Onow (O : Own) (is : List Nat) : Own := fun j => if j ∈ is then none else O j
theorem Onow_sub {is : List Nat} {j : Nat} {a : Addr} (h : Onow O is j = some a) : O j = some a := by
  unfold Onow at h; split at h
  · cases h
  · exact h
theorem AvO_now {is : List Nat} : ∀ b, AvO Z (Onow O is) [] b ↔ AvO Z O is b := fun b => by
  constructor
  · rintro (z | ⟨i, _, e⟩)
    · exact .inl z
    · unfold Onow at e
      split at e
      · cases e
      · exact .inr ⟨i, ‹_›, e⟩
  · rintro (z | ⟨i, n, e⟩)
    · exact .inl z
    · exact .inr ⟨i, (fun z => nomatch z), by unfold Onow; rw [if_neg n]; exact e⟩
theorem Rl.freeze (r : Rl wd K Z O σ H ρ) (is : List Nat) : Rl wd K Z (Onow O is) σ H (freeze is ρ) := by
  have sub : ∀ b, AvO Z (Onow O is) [] b → AvO Z O [] b := fun b z => AvO.all b ((AvO_now b).mp z)
  refine ⟨by rw [freeze_len]; exact r.len, fun i d h => ?_, fun i d h => ?_, fun i a h => ?_, fun i j a h1 h2 => r.inj i j a (Onow_sub h1) (Onow_sub h2), fun i a h => r.nz i a (Onow_sub h), r.zt, fun i c fs h => ?_⟩
  · rw [freeze_get] at h
    split at h
    · rename_i hm
      cases e : ρ[i]? with
      | none => rw [e] at h; cases h
      | some s =>
        rw [e] at h
        cases s with
        | no => cases h
        | slf c fs => cases h
        | val d' =>
          cases h
          obtain ⟨v, q1, q2⟩ := r.val i d e
          exact ⟨v, q1, q2.sub sub⟩
        | own d' =>
          cases h
          obtain ⟨a, q0, q1, q2⟩ := r.own i d e
          refine ⟨_, q1, q2.rep (fun z => ?_) sub⟩
          rcases (AvO_now a).mp z with z | ⟨j, hj, z⟩
          · exact r.nz i a q0 z
          · exact hj (by rw [r.inj j i a z q0]; exact hm)
    · obtain ⟨v, q1, q2⟩ := r.val i d h
      exact ⟨v, q1, q2.sub sub⟩
  · rw [freeze_get] at h
    split at h
    · cases e : ρ[i]? with
      | none => rw [e] at h; cases h
      | some s => rw [e] at h; cases s <;> cases h
    · rename_i hm
      obtain ⟨a, q0, q1, q2⟩ := r.own i d h
      exact ⟨a, by unfold Onow; rw [if_neg hm]; exact q0, q1, q2.to (fun o e => e) fun b o e n => ⟨e, fun z => n (sub b z)⟩⟩
  · have hm : i ∉ is := fun z => by unfold Onow at h; rw [if_pos z] at h; cases h
    obtain ⟨d, q⟩ := r.dom i a (Onow_sub h)
    exact ⟨d, by rw [freeze_get, if_neg hm]; exact q⟩
  · have e : ρ[i]? = some (.slf c fs) := by
      rw [freeze_get] at h
      split at h
      · cases e : ρ[i]? with
        | none => rw [e] at h; cases h
        | some s => rw [e] at h; cases s <;> cases h; rfl
      · exact h
    obtain ⟨a, q0, q1, q2, dx, vs, q3, q4, q5, q6⟩ := r.slf i c fs e
    exact ⟨a, q0, q1, q2, dx, vs, q3, q4, q5, q6.sub sub⟩

/-- behind the evaluation of e, its value kept -/
theorem Rl.kept {e : E} {d : D} {v : V} (r : Rl wd K Z O σ H ρ) (p : Post T wd K e Z O H v H1 d) : ∃ Ok : Own, Rl wd K Z Ok σ H (kept e d ρ) ∧ (∀ i a, Ok i = some a → O i = some a) ∧ Rep wd K H1 (AvO Z Ok []) v d ∧
    (fresh T e = true → isRoot d = true → ∃ q, v = .ref q ∧ H q = none ∧ Root wd K H1 (fun b => AvO Z Ok [] b ∨ b = q) q d) := by
  unfold Ev.kept
  by_cases h1 : anyOwn (lks e) ρ = true
  · rw [if_pos h1]
    by_cases h2 : noMut d = true
    · rw [if_pos h2]
      refine ⟨O, r, fun _ _ z => z, p.2.1.pure h2 fun b o q n m z => ?_, fun _ z => ?_⟩
      · rcases z with z | ⟨i, _, z⟩
        · exact n (.inl z)
        · obtain ⟨d', q2⟩ := r.dom i b z
          obtain ⟨a, q3, _, q4⟩ := r.own i d' q2
          rw [z] at q3; cases q3
          have q5 := q4.to (H' := H1) (B := fun _ => False) (fun o e => p.1 b o e) fun b o e _ => ⟨p.1 b o e, fun z => z⟩
          cases q5 with
          | lst e5 _ => rw [q] at e5; cases e5; cases m
          | dK e5 _ _ => rw [q] at e5; cases e5; cases m
          | dN e5 _ _ _ => rw [q] at e5; cases e5; cases m
      · cases d <;> first | (simp [noMut] at h2; done) | cases z
    · rw [if_neg h2]
      refine ⟨Onow O (lks e), r.freeze _, fun i a h => Onow_sub h, p.2.1.sub fun b z => (AvO_now b).mp z, fun f z => ?_⟩
      obtain ⟨q, q1, q2, q3⟩ := p.2.2 f z
      exact ⟨q, q1, q2, q3.to (fun o e => e) fun b o e n => ⟨e, fun z => n (z.imp (AvO_now b).mp id)⟩⟩
  · rw [if_neg h1]
    have hn : ∀ b, AvO Z O [] b → AvO Z O (lks e) b := r.noOwn (by simpa using h1)
    refine ⟨O, r, fun _ _ z => z, p.2.1.sub hn, fun f z => ?_⟩
    obtain ⟨q, q1, q2, q3⟩ := p.2.2 f z
    exact ⟨q, q1, q2, q3.to (fun o e => e) fun b o e n => ⟨e, fun z => n (z.imp (hn b) id)⟩⟩

/-! ### stores -/
def Oset (O : Own) (i : Nat) (p : Option Addr) : Own := fun j => if j = i then p else O j
theorem AvO_setN {i : Nat} : ∀ b, AvO Z (Oset O i none) [] b → AvO Z O [] b := fun b z => by
  rcases z with z | ⟨j, n, e⟩
  · exact .inl z
  · unfold Oset at e
    split at e
    · cases e
    · exact .inr ⟨j, n, e⟩
theorem Rl.setVal {i : Nat} {v : V} {d : D} (r : Rl wd K Z O σ H ρ) (h : Rep wd K H (AvO Z (Oset O i none) []) v d) : Rl wd K Z (Oset O i none) (σ.set i (some v)) H (ρ.set i (.val d)) := by
  have ne : ∀ {j : Nat} {a : Addr}, Oset O i none j = some a → j ≠ i ∧ O j = some a := fun {j a} e => by
    unfold Oset at e; split at e
    · cases e
    · exact ⟨‹_›, e⟩
  refine ⟨by rw [List.length_set, List.length_set, r.len], fun j e q => ?_, fun j e q => ?_, fun j a q => ?_, fun j k a q1 q2 => r.inj j k a (ne q1).2 (ne q2).2, fun j a q => r.nz j a (ne q).2, r.zt, fun j c fs q => ?_⟩
  · rcases set_get q with ⟨rfl, q0⟩ | ⟨h1, q0⟩
    · cases q0
      have hl := (List.getElem?_eq_some_iff.mp q).1
      rw [List.length_set] at hl
      exact ⟨v, by rw [List.getElem?_set_self (by rw [r.len]; exact hl)], h⟩
    · obtain ⟨w, w1, w2⟩ := r.val j e q0
      exact ⟨w, by rw [List.getElem?_set_ne h1]; exact w1, w2.sub AvO_setN⟩
  · rcases set_get q with ⟨rfl, q0⟩ | ⟨h1, q0⟩
    · cases q0
    · obtain ⟨a, w0, w1, w2⟩ := r.own j e q0
      exact ⟨a, by unfold Oset; rw [if_neg (Ne.symm h1)]; exact w0, by rw [List.getElem?_set_ne h1]; exact w1, w2.to (fun o e => e) fun b o e n => ⟨e, fun z => n (AvO_setN b z)⟩⟩
  · obtain ⟨n1, n2⟩ := ne q
    obtain ⟨e, w⟩ := r.dom j a n2
    exact ⟨e, by rw [List.getElem?_set_ne (Ne.symm n1)]; exact w⟩
  · rcases set_get q with ⟨rfl, q0⟩ | ⟨h1, q0⟩
    · cases q0
    · obtain ⟨a, w0, w1, w2, dx, vs, w3, w4, w5, w6⟩ := r.slf j c fs q0
      exact ⟨a, w0, by rw [List.getElem?_set_ne h1]; exact w1, w2, dx, vs, w3, w4, w5, w6.sub AvO_setN⟩
/-- a new list or dict is stored: the name owns it -/
theorem Rl.setOwn {i : Nat} {p : Addr} {d : D} (r : Rl wd K Z O σ H0 ρ) (hp : H0 p = none) (hi : i < ρ.length) (x : Ext H0 H) (h : Root wd K H (fun b => AvO Z O [] b ∨ b = p) p d) :
    Rl wd K Z (Oset O i (some p)) (σ.set i (some (.ref p))) H (ρ.set i (.own d)) := by
  have ne : ∀ {j : Nat} {a : Addr}, Oset O i (some p) j = some a → (j = i ∧ a = p) ∨ (j ≠ i ∧ O j = some a) := fun {j a} e => by
    unfold Oset at e; split at e
    · exact .inl ⟨‹_›, (Option.some.inj e).symm⟩
    · exact .inr ⟨‹_›, e⟩
  have av : ∀ b, AvO Z (Oset O i (some p)) [] b → AvO Z O [] b ∨ b = p := fun b z => by
    rcases z with z | ⟨j, _, e⟩
    · exact .inl (.inl z)
    · rcases ne e with ⟨_, q⟩ | ⟨_, q⟩
      · exact .inr q
      · exact .inl (.inr ⟨j, (fun z => nomatch z), q⟩)
  have up : ∀ b o, H0 b = some o → ¬ AvO Z O [] b → H b = some o ∧ ¬ AvO Z (Oset O i (some p)) [] b := fun b o e n => ⟨x b o e, fun z => by
    rcases av b z with z | z
    · exact n z
    · subst z; rw [hp] at e; cases e⟩
  have nO : ∀ j, O j ≠ some p := fun j e => by
    obtain ⟨o, q⟩ := r.trk [] p (.inr ⟨j, (fun z => nomatch z), e⟩)
    rw [hp] at q; cases q
  refine ⟨by rw [List.length_set, List.length_set, r.len], fun j e q => ?_, fun j e q => ?_, fun j a q => ?_, fun j k a q1 q2 => ?_, fun j a q z => ?_, r.zt.ext x, fun j c fs q => ?_⟩
  · rcases set_get q with ⟨rfl, q0⟩ | ⟨h1, q0⟩
    · cases q0
    · obtain ⟨w, w1, w2⟩ := r.val j e q0
      exact ⟨w, by rw [List.getElem?_set_ne h1]; exact w1, w2.to up⟩
  · rcases set_get q with ⟨rfl, q0⟩ | ⟨h1, q0⟩
    · cases q0
      exact ⟨p, by unfold Oset; rw [if_pos rfl], by rw [List.getElem?_set_self (by rw [r.len]; exact hi)], h.to (fun o e => e) fun b o e n => ⟨e, fun z => n (av b z)⟩⟩
    · obtain ⟨a, w0, w1, w2⟩ := r.own j e q0
      exact ⟨a, by unfold Oset; rw [if_neg (Ne.symm h1)]; exact w0, by rw [List.getElem?_set_ne h1]; exact w1, w2.to (fun o e => x a o e) up⟩
  · rcases ne q with ⟨rfl, rfl⟩ | ⟨n1, n2⟩
    · exact ⟨d, by rw [List.getElem?_set_self hi]⟩
    · obtain ⟨e, w⟩ := r.dom j a n2
      exact ⟨e, by rw [List.getElem?_set_ne (Ne.symm n1)]; exact w⟩
  · rcases ne q1 with ⟨rfl, rfl⟩ | ⟨n1, n2⟩
    · rcases ne q2 with ⟨rfl, _⟩ | ⟨_, n3⟩
      · rfl
      · exact absurd n3 (nO k)
    · rcases ne q2 with ⟨rfl, rfl⟩ | ⟨_, n3⟩
      · exact absurd n2 (nO j)
      · exact r.inj j k a n2 n3
  · rcases ne q with ⟨rfl, rfl⟩ | ⟨n1, n2⟩
    · obtain ⟨o, e⟩ := r.zt a z
      rw [hp] at e; cases e
    · exact r.nz j a n2 z
  · rcases set_get q with ⟨rfl, q0⟩ | ⟨h1, q0⟩
    · cases q0
    · obtain ⟨a, w0, w1, w2, dx, vs, w3, w4, w5, w6⟩ := r.slf j c fs q0
      exact ⟨a, w0, by rw [List.getElem?_set_ne h1]; exact w1, w2, dx, vs, x _ _ w3, w4, w5, w6.to up⟩
/-- the root of a name is written -/
theorem Rl.write {i : Nat} {a : Addr} {d d' : D} {o : HO} (r : Rl wd K Z O σ H ρ) (ho : O i = some a) (hi : ρ[i]? = some (.own d)) (hn : Root wd K (upd H a o) (AvO Z O []) a d') : Rl wd K Z O σ (upd H a o) (ρ.set i (.own d')) := by
  have hl : i < ρ.length := (List.getElem?_eq_some_iff.mp hi).1
  have up : ∀ b u, H b = some u → ¬ AvO Z O [] b → upd H a o b = some u ∧ ¬ AvO Z O [] b := fun b u e n => by
    have hne : b ≠ a := fun z => n (.inr ⟨i, (fun z => nomatch z), by rw [z]; exact ho⟩)
    exact ⟨by rw [upd_ne hne]; exact e, n⟩
  refine ⟨by rw [List.length_set, r.len], fun j e q => ?_, fun j e q => ?_, fun j b q => ?_, r.inj, r.nz, fun b z => ?_, fun j c fs q => ?_⟩
  · rcases set_get q with ⟨rfl, q0⟩ | ⟨h1, q0⟩
    · cases q0
    · obtain ⟨w, w1, w2⟩ := r.val j e q0
      exact ⟨w, w1, w2.to up⟩
  · rcases set_get q with ⟨rfl, q0⟩ | ⟨h1, q0⟩
    · cases q0
      obtain ⟨b, w0, w1, _⟩ := r.own i d hi
      rw [ho] at w0; cases w0
      exact ⟨a, ho, w1, hn⟩
    · obtain ⟨b, w0, w1, w2⟩ := r.own j e q0
      have hne : b ≠ a := fun z => h1 (r.inj j i a (by rw [← z]; exact w0) ho).symm
      exact ⟨b, w0, w1, w2.to (fun u e => by rw [upd_ne hne]; exact e) up⟩
  · by_cases hj : j = i
    · subst hj
      exact ⟨d', by rw [List.getElem?_set_self hl]⟩
    · obtain ⟨e, w⟩ := r.dom j b q
      exact ⟨e, by rw [List.getElem?_set_ne (Ne.symm hj)]; exact w⟩
  · obtain ⟨u, e⟩ := r.zt b z
    by_cases hb : b = a
    · subst hb; exact ⟨_, upd_same⟩
    · exact ⟨u, by rw [upd_ne hb]; exact e⟩
  · rcases set_get q with ⟨rfl, q0⟩ | ⟨h1, q0⟩
    · cases q0
    · obtain ⟨b, w0, w1, w2, dx, vs, w3, w4, w5, w6⟩ := r.slf j c fs q0
      have hne : b ≠ a := fun z => r.nz i a ho (z ▸ w2)
      exact ⟨b, w0, w1, w2, dx, vs, by rw [upd_ne hne]; exact w3, w4, w5, w6.to up⟩
/-- .. over a step that only writes other roots than its items -/
theorem kept_own {e : E} {d : D} {i : Nat} {x : D} (h : (kept e d ρ)[i]? = some (.own x)) : ρ[i]? = some (.own x) := by
  unfold Ev.kept at h
  split at h
  · split at h
    · exact h
    · rw [freeze_get] at h
      split at h
      · cases q : ρ[i]? with
        | none => rw [q] at h; cases h
        | some s => rw [q] at h; cases s <;> cases h
      · exact h
  · exact h
end
end Ev

set_option linter.all false
set_option autoImplicit false
set_option maxRecDepth 100000
set_option maxHeartbeats 8000000
/-! Statements: the look, the readings. -/
namespace Ev
open PySem PySem.Spec PyProof.Rows L2

/-! ### the look -/
def locS (sc : Scope) (x : Str) : Bool := match sc.names.lookup x with
  | some .local => true
  | some .cell => true
  | _ => false
def noSD : Expr → Bool
  | .SetComp _ _ _ _ => false
  | .DictComp _ _ _ _ _ => false
  | _ => true
/-- the store comes within the comprehension -/
def swB (sc : Scope) (x : Str) (py : Pos) : Expr → Bool
  | .ListComp _ _ scope pos => decide (sc.names.lookup x = some .local) && (py.line == pos.line) && !(scope.names.any fun (n, k) => n == x && (k == .local || k == .cell))
  | _ => false
def noLc : Expr → Bool
  | .ListComp _ _ _ _ => false
  | _ => true
def asAsg : Stmt → Option (Expr × Expr × Pos)
  | .Assign [t] e p => some (t, e, p)
  | _ => none
def asX : Stmt → Option Expr
  | .Expr e _ => some e
  | _ => none
def asRet : Stmt → Option (Option Expr)
  | .Return e _ => some e
  | _ => none
def asIfS : Stmt → Option (Expr × List Stmt × List Stmt)
  | .If c a b _ => some (c, a, b)
  | _ => none
def asFor : Stmt → Option (Expr × Expr × List Stmt)
  | .For t i b [] _ => some (t, i, b)
  | _ => none
def asWh : Stmt → Option (Expr × List Stmt)
  | .While c b [] _ => some (c, b)
  | _ => none
/-- o.name(e): the parts, on one line -/
def asMeth1 : Expr → Option (Expr × Str × Expr)
  | .Call (.Attribute o name apos) [e] [] cpos => if apos.endLine == cpos.line then some (o, name, e) else none
  | _ => none
theorem asAsg_some {st : Stmt} {t e : Expr} {p : Pos} (h : asAsg st = some (t, e, p)) : st = .Assign [t] e p := by
  cases st with
  | Assign ts v q =>
    match ts with
    | [t'] => simp [asAsg] at h; obtain ⟨rfl, rfl, rfl⟩ := h; rfl
    | [] => simp [asAsg] at h
    | _ :: _ :: _ => simp [asAsg] at h
  | _ => simp [asAsg] at h
theorem asX_some {st : Stmt} {e : Expr} (h : asX st = some e) : ∃ p, st = .Expr e p := by cases st <;> simp [asX] at h; subst h; exact ⟨_, rfl⟩
theorem asRet_some {st : Stmt} {e : Option Expr} (h : asRet st = some e) : ∃ p, st = .Return e p := by cases st <;> simp [asRet] at h; subst h; exact ⟨_, rfl⟩
theorem asIfS_some {st : Stmt} {c : Expr} {a b : List Stmt} (h : asIfS st = some (c, a, b)) : ∃ p, st = .If c a b p := by cases st <;> simp [asIfS] at h; obtain ⟨rfl, rfl, rfl⟩ := h; exact ⟨_, rfl⟩
theorem asFor_some {st : Stmt} {t i : Expr} {b : List Stmt} (h : asFor st = some (t, i, b)) : ∃ p, st = .For t i b [] p := by
  cases st with
  | For t' i' b' o p =>
    cases o with
    | nil => simp [asFor] at h; obtain ⟨rfl, rfl, rfl⟩ := h; exact ⟨_, rfl⟩
    | cons => simp [asFor] at h
  | _ => simp [asFor] at h
theorem asWh_some {st : Stmt} {c : Expr} {b : List Stmt} (h : asWh st = some (c, b)) : ∃ p, st = .While c b [] p := by
  cases st with
  | While c' b' o p =>
    cases o with
    | nil => simp [asWh] at h; obtain ⟨rfl, rfl⟩ := h; exact ⟨_, rfl⟩
    | cons => simp [asWh] at h
  | _ => simp [asWh] at h
theorem asMeth1_some {ex o e : Expr} {name : Str} (h : asMeth1 ex = some (o, name, e)) : ∃ apos cpos, ex = .Call (.Attribute o name apos) [e] [] cpos ∧ (apos.endLine == cpos.line) = true := by
  unfold asMeth1 at h
  split at h
  · split at h
    · cases h; exact ⟨_, _, rfl, ‹_›⟩
    · cases h
  · cases h
def chkNs (N : List Str) (sc : Scope) : List Nat → List Expr → Bool
  | [], [] => true
  | i :: is, ex :: r => (match asName ex with
    | some x => decide (N[i]? = some x) && locS sc x && chkNs N sc is r
    | _ => false)
  | _, _ => false
def chkTg (N : List Str) (sc : Scope) : Tgt → Expr → Bool
  | .one i, ex => (match asName ex with
    | some x => decide (N[i]? = some x) && locS sc x
    | _ => false)
  | .tup is, ex => (match asTup ex with
    | some es => chkNs N sc is es
    | _ => false)
mutual
def chkSt (G : Nm) (N : List Str) : S → Scope → Stmt → Bool
  | .asg i e, sc, st => (match asAsg st with
    | some (t, ex, p) => (match asName t with
      | some x => decide (N[i]? = some x) && locS sc x && noSD ex && chkE G N e sc ex
      | _ => false)
    | _ => false)
  | .unp is e, sc, st => (match asAsg st with
    | some (t, ex, p) => (match asTup t, asTup ex with
      | some ts, none => chkNs N sc is ts && noSD ex && noLc ex && chkE G N e sc ex
      | _, _ => false)
    | _ => false)
  | .app i e, sc, st => (match asX st with
    | some ex => (match asMeth1 ex with
      | some (o, name, y) => decide (name = "append") && chkE G N (.var i) sc o && plainX y && chkE G N e sc y
      | _ => false)
    | _ => false)
  | .seti i k e, sc, st => (match asAsg st with
    | some (t, ex, p) => (match asSub t with
      | some (o, j) => chkE G N (.var i) sc o && plainX j && chkE G N k sc j && noSD ex && chkE G N e sc ex
      | _ => false)
    | _ => false)
  | .expr e, sc, st => (match asX st with
    | some ex => noSD ex && noLc ex && chkE G N e sc ex
    | _ => false)
  | .ret e, sc, st => (match asRet st with
    | some (some ex) => chkE G N e sc ex
    | some none => (match e with
      | .non => true
      | _ => false)
    | _ => false)
  | .ifs c a b, sc, st => (match asIfS st with
    | some (x, y, z) => chkE G N c sc x && chkSts G N a sc y && chkSts G N b sc z
    | _ => false)
  | .fors t src b, sc, st => (match asFor st with
    | some (x, y, z) => chkTg N sc t x && chkS G N src sc y && chkSts G N b sc z
    | _ => false)
  | .while c b, sc, st => (match asWh st with
    | some (x, z) => chkE G N c sc x && chkSts G N b sc z
    | _ => false)
  | .brk, _, st => (match st with
    | .Break _ => true
    | _ => false)
  | .cont, _, st => (match st with
    | .Continue _ => true
    | _ => false)
  | .pass, _, st => (match st with
    | .Pass _ => true
    | .Expr (.Constant (.str _) _ _) _ => true
    | _ => false)
  | .raise, _, _ => true
  | .fld _ _, _, _ => false
def chkSts (G : Nm) (N : List Str) : List S → Scope → List Stmt → Bool
  | [], _, [] => true
  | s :: r, sc, st :: rest => chkSt G N s sc st && chkSts G N r sc rest
  | _, _, _ => false
end

/-- self.x = e -/
def chkF (G : Nm) (N : List Str) (x : Str) (e : E) (sc : Scope) (st : Stmt) : Bool := match asAsg st with
  | some (t, ex, p) => (match asAtt t with
    | some (y, z) => decide (z = x) && (match asName y with
      | some w => decide (N[0]? = some w) && visB sc w && nodebug w
      | _ => false) && chkE G N e sc ex
    | _ => false)
  | _ => false
/-- the body of an initializer -/
def chkI (G : Nm) (N : List Str) : List S → Scope → List Stmt → Bool
  | [], _, [] => true
  | s :: r, sc, st :: rest => (match s with
    | .fld x e => chkF G N x e sc st
    | s => chkSt G N s sc st) && chkI G N r sc rest
  | _, _, _ => false

/-! ### the readings -/
section
variable (T : Tab) (n : Nat) (wd : World) (K : PySem.W.Frag) (W : WX)
def FlOk (D : Ends) (M : List Nat) (Z : Zs) (O : Own) (H : Hp) : Fl → Prop
  | .nx ρ => ∀ σ' H' O', Rl wd K Z O' σ' H' ρ → Step M O H O' H' → D.nx σ' H'
  | .brk ρ => ∀ σ' H' O', Rl wd K Z O' σ' H' ρ → Step M O H O' H' → D.bk σ' H'
  | .cont ρ => ∀ σ' H' O', Rl wd K Z O' σ' H' ρ → Step M O H O' H' → D.ct σ' H'
  | .ret d own => ∀ v H', KeepR M O H H' → Rep wd K H' Z v d → (own = true → ∃ p, v = .ref p ∧ ((∃ i, O i = some p) ∨ H p = none) ∧ Root wd K H' (fun b => Z b ∨ b = p) p d) → D.rt v H'
def wsX (M : List Nat) (Z : Zs) (O : Own) (H : Hp) : Cl → List D → Prop := fun c fs => ∀ cls dd σ' H', KeepR M O H H' → Exr wd K Z c fs cls dd H' → W cls dd σ' H'
def tSt (s : S) : TS := fun D σ H => ∃ ρ Z O, Rl wd K Z O σ H ρ ∧ WpR (evS T (ev T n) s ρ) (FlOk wd K D (mutS s) Z O H) (wsX wd K W (mutS s) Z O H)
def tSts (s : List S) : TS := fun D σ H => ∃ ρ Z O, Rl wd K Z O σ H ρ ∧ WpR (evSs T (ev T n) s ρ) (FlOk wd K D (mutSs s) Z O H) (wsX wd K W (mutSs s) Z O H)
end
section
variable {T : Tab} {G : Nm} {N : List Str} {n : Nat} {wd : World} {K : PySem.W.Frag} {W : WX} {X : Cx} {sc : Scope} {Z : Zs} {O O1 : Own} {σ : Sta} {H H1 H2 H' : Hp} {ρ : Env} {D : Ends} {M M1 M2 : List Nat}
theorem FlOk.pre {f : Fl} (s : Step M1 O H O1 H1) (h1 : ∀ i ∈ M1, i ∈ M) (h2 : ∀ i ∈ M2, i ∈ M) (h : FlOk wd K D M Z O H f) : FlOk wd K D M2 Z O1 H1 f := by
  cases f with
  | nx ρ => exact fun σ' H' O' r q => h σ' H' O' r ((s.mono h1).trans (q.mono h2))
  | brk ρ => exact fun σ' H' O' r q => h σ' H' O' r ((s.mono h1).trans (q.mono h2))
  | cont ρ => exact fun σ' H' O' r q => h σ' H' O' r ((s.mono h1).trans (q.mono h2))
  | ret d own =>
    refine fun v H' q r p => h v H' (KeepR.trans (s.mono h1) (q.mono h2)) r fun z => ?_
    obtain ⟨p, e1, e2, e3⟩ := p z
    refine ⟨p, e1, ?_, e3⟩
    rcases e2 with ⟨i, e2⟩ | e2
    · rcases s.roots i p e2 with z | z
      · exact .inl ⟨i, z⟩
      · exact .inr z
    · exact .inr (s.none e2)
theorem wsX.pre {c : Cl} {fs : List Ev.D} (s : Step M1 O H O1 H1) (h1 : ∀ i ∈ M1, i ∈ M) (h2 : ∀ i ∈ M2, i ∈ M) (h : wsX wd K W M Z O H c fs) : wsX wd K W M2 Z O1 H1 c fs :=
  fun cls dd σ' H' q x => h cls dd σ' H' (KeepR.trans (s.mono h1) (q.mono h2)) x
theorem wsX.toE {c : Cl} {fs : List Ev.D} (h : wsX wd K W M Z O H c fs) : wpX wd K Z W σ H c fs := fun cls dd H' e x => h cls dd σ H' (KeepR.ext e) x

/-- statements stand in a def's own scope -/
structure Gs (T : Tab) (G : Nm) (N : List Str) (n : Nat) (sc : Scope) (X : Cx) : Prop extends toGd : Gd T G N n sc X where
  fnx : ∀ x, X.fn x = true
  pass : PassesOwn (model X.prog X.w) X.A X.env X.xe
  knd : Scope.kind X.env.scope = ScopeKind.function
theorem locS_of {x : Str} (h : locS sc x = true) (e : X.env.scope = sc) : L2.Loc X.env.scope x := by
  unfold locS at h
  rw [e]
  split at h
  · exact .inl ‹_›
  · exact .inr ‹_›
  · cases h
theorem pg_nm {x : Str} {p : Pos} {i : Nat} (g : Gs T G N n sc X) (hN : N[i]? = some x) (h : locS sc x = true) : PG X (.Name x p) (gName i) :=
  pg_name g.nd (by rw [g.N]; exact hN) (locS_of h g.sc) (.inl (g.fnx x))
def gNms : List Nat → TGs
  | [] => gNil
  | i :: is => gCons (gName i) (gNms is)
theorem pgs_nms (g : Gs T G N n sc X) : ∀ {is : List Nat} {es : List Expr}, chkNs N sc is es = true → PGs X es (gNms is) ∧ (assignEach es X.env).length = is.length ∧ (assignEach es X.env).findIdx? (·.1) = none
  | [], [], _ => ⟨pgs_nil, rfl, rfl⟩
  | i :: is, ex :: r, h => by
    simp only [chkNs] at h
    split at h
    · rename_i x e1
      obtain ⟨p, rfl⟩ := asName_some e1
      simp only [Bool.and_eq_true, decide_eq_true_eq] at h
      obtain ⟨i1, i2, i3⟩ := pgs_nms g h.2
      refine ⟨pgs_cons (pg_nm g h.1.1 h.1.2) i1, ?_, ?_⟩
      · show (assignEach r X.env).length + 1 = is.length + 1
        rw [i2]
      · show ((false, assign (.Name x p) X.env) :: assignEach r X.env).findIdx? (·.1) = none
        rw [List.findIdx?_cons, i3]; rfl
    · cases h
  | [], _ :: _, h => by simp [chkNs] at h
  | _ :: _, [], h => by simp [chkNs] at h
def gTgt (K : PySem.W.Frag) : Tgt → TG
  | .one i => gName i
  | .tup is => gTup K is.length (gNms is)
theorem pg_tgt (g : Gs T G N n sc X) {t : Tgt} {ex : Expr} (h : chkTg N sc t ex = true) : PG X ex (gTgt X.K t) := by
  cases t with
  | one i =>
    simp only [chkTg] at h
    split at h
    · rename_i x e1
      obtain ⟨p, rfl⟩ := asName_some e1
      simp only [Bool.and_eq_true, decide_eq_true_eq] at h
      exact pg_nm g h.1 h.2
    · cases h
  | tup is =>
    simp only [chkTg] at h
    split at h
    · rename_i es e1
      obtain ⟨k, p, rfl⟩ := asTup_some e1
      obtain ⟨i1, i2, i3⟩ := pgs_nms g h
      exact pg_tup g.calm i1 i2 i3
    · cases h
theorem sw_val {x : Str} {py : Pos} {ex : Expr} {l : Nat} (g : Gs T G N n sc X) (h : noSD ex = true) : swapsWith ex (some (.Name x py)) l X.env = pure (swB sc x py ex) := by
  cases ex with
  | ListComp e gs scope pos =>
    have hb : X.env.blockKind = .function := by unfold PySem.Env.blockKind; rw [g.knd]; rfl
    unfold swapsWith swB
    have : X.env.kindOf x = sc.names.lookup x := by unfold PySem.Env.kindOf; rw [g.sc]
    simp only [hb, this, Expr.pos]
    cases e1 : sc.names.lookup x with
    | none => rfl
    | some k => cases k <;> rfl
  | SetComp => cases h
  | DictComp => cases h
  | _ => rfl
/-- stores of one datum into a target -/
theorem setT_ok {A : Av} {t : Tgt} {x : V} {d : Ev.D} {ρ' : Env} {Q : Sta → Hp → Prop} (rl : Rl wd K Z O σ H ρ) (h : setT ρ t d = .ok ρ') (rx : Rep wd K H A x d) (ha : ∀ b, AvO Z O [] b → A b)
    (q : ∀ σ' O', Rl wd K Z O' σ' H ρ' → (∀ i a, O' i = some a → O i = some a) → Q σ' H) : gTgt K t x σ H Q := by
  have one : ∀ (O : Own) (i : Nat) (a : Addr), ∀ j b, Oset O i none j = some b → O j = some b := fun O i a j b e => by
    unfold Oset at e; split at e
    · cases e
    · exact e
  cases t with
  | one i =>
    simp only [setT] at h; cases h
    exact q _ _ (rl.setVal (rx.sub fun b z => ha b (AvO_setN b z))) (one O i 0)
  | tup is =>
    simp only [setT] at h
    split at h
    · rename_i ds
      split at h
      · rename_i hl
        cases h
        have key : ∀ (is : List Nat) (ds : List Ev.D) (vs : List V) (σ : Sta) (ρ : Env) (O1 : Own), ds.length = is.length → Reps wd K H A vs ds → Rl wd K Z O1 σ H ρ → (∀ i a, O1 i = some a → O i = some a) →
            (∀ σ' O', Rl wd K Z O' σ' H ((is.zip ds).foldl (fun ρ p => ρ.set p.1 (.val p.2)) ρ) → (∀ i a, O' i = some a → O i = some a) → Q σ' H) → gNms is vs σ H Q := by
          intro is
          induction is with
          | nil =>
            intro ds vs σ ρ O1 h1 h2 h3 h4 h5
            cases ds with
            | cons => cases h1
            | nil => cases h2; exact ⟨rfl, h5 σ O1 h3 h4⟩
          | cons i is ih =>
            intro ds vs σ ρ O1 h1 h2 h3 h4 h5
            cases ds with
            | nil => cases h1
            | cons d ds =>
              cases h2 with
              | cons r rs =>
                refine ⟨_, _, rfl, ih ds _ _ _ (Oset O1 i none) (by simpa using h1) rs (h3.setVal (r.sub fun b z => ?_)) (fun j a e => h4 j a (one O1 i 0 j a e)) h5⟩
                refine ha b ?_
                rcases AvO_setN b z with z | ⟨j, n, e⟩
                · exact .inl z
                · exact .inr ⟨j, n, h4 j b e⟩
        obtain ⟨a, xs, rfl, s, rs⟩ : ∃ a xs, x = .ref a ∧ SqT K H a xs ∧ Reps wd K H A xs ds := by
          obtain ⟨a, xs, e, s, rs⟩ := RepB.tup (.inl rx)
          exact ⟨a, xs, e, s, rs⟩
        refine ⟨a, xs, rfl, s, ?_, key is ds xs σ ρ O hl rs rl (fun _ _ z => z) q⟩
        rw [← hl]; exact rs.length
      · cases h
    · cases h
end
end Ev

set_option linter.all false
set_option autoImplicit false
set_option maxRecDepth 100000
set_option maxHeartbeats 8000000
/-! Statements: the cases. -/
namespace Ev
open PySem PySem.Spec PyProof.Rows L2

section
variable {T : Tab} {G : Nm} {N : List Str} {n : Nat} {wd : World} {K : PySem.W.Frag} {W : WX} {X : Cx} {sc : Scope} {Z : Zs} {O O1 : Own} {σ : Sta} {H H1 H2 H' : Hp} {ρ : Env} {D : Ends} {M M1 M2 : List Nat}
/-- the state behind name = value -/
theorem bind_ok2 {e : E} {d : Ev.D} {v : V} {i : Nat} (rl : Rl wd K Z O σ H ρ) (p : Post T wd K e Z O H v H1 d) : ∃ O', Rl wd K Z O' (σ.set i (some v)) H1 (bindTo T i e d ρ) ∧ Step [] O H O' H1 := by
  obtain ⟨Ok, r1, r2, r3, r4⟩ := rl.kept p
  unfold bindTo
  by_cases hf : (fresh T e && isRoot d) = true
  · rw [if_pos hf]
    simp only [Bool.and_eq_true] at hf
    obtain ⟨q, rfl, q2, q3⟩ := r4 hf.1 hf.2
    by_cases hi : i < (kept e d ρ).length
    · refine ⟨_, r1.setOwn q2 hi p.1 q3, Step.ext p.1 fun j a e => ?_⟩
      unfold Oset at e
      split at e
      · exact .inr (by cases e; exact q2)
      · exact .inl (r2 j a e)
    · rw [List.set_eq_of_length_le (by rw [r1.len]; omega), List.set_eq_of_length_le (by omega)]
      exact ⟨Ok, r1.ext p.1, Step.ext p.1 fun j a e => .inl (r2 j a e)⟩
  · rw [if_neg hf]
    refine ⟨_, (r1.ext p.1).setVal (r3.sub AvO_setN), Step.ext p.1 fun j a e => ?_⟩
    unfold Oset at e
    split at e
    · cases e
    · exact .inl (r2 j a e)
theorem asg_red {e : E} {i : Nat} {σ : Sta} {H : Hp} {te : TE} (k : ∀ Q, tE T n wd K W e σ H Q → te σ H Q) (h : tSt T n wd K W (.asg i e) D σ H) : tAsg te (gName i) D σ H := by
  obtain ⟨ρ, Z, O, rl, h⟩ := h
  refine k _ ⟨ρ, Z, O, rl, WpR.mono (WpR.bind h) (fun d _ hd v H1 p => ?_) fun c fs z => wsX.toE z⟩
  obtain ⟨O', r1, r2⟩ := bind_ok2 (i := i) rl p
  exact hd _ _ O' r1 r2
theorem PS_imp {st : Stmt} {t t' : TS} (h : PS X st t) (k : ∀ D σ H, t' D σ H → t D σ H) : PS X st t' := ⟨fun pins s σ H D I q => h.run pins s σ H D I (k D σ H q)⟩
theorem PSs_imp {st : List Stmt} {t t' : TS} (h : PSs X st t) (k : ∀ D σ H, t' D σ H → t D σ H) : PSs X st t' := ⟨fun pins s σ H D I q => h.run pins s σ H D I (k D σ H q)⟩

theorem noLc_sw {x : Str} {py : Pos} {ex : Expr} (h : noLc ex = true) : swB sc x py ex = false := by cases ex <;> first | rfl | cases h
theorem chkE_lc {e : E} {el : Expr} {gs : List Comprehension} {scope : Scope} {p : Pos} (h : chkE G N e sc (.ListComp el gs scope p) = true) : ∃ elt x src cond, e = .comp elt x src cond := by
  cases e <;> first | exact ⟨_, _, _, _, rfl⟩ | simp [chkE, asName, asConst, asBin, asUn, asBool, asCmp, asIf, asTup, asLst, asSub, asCall, asDict0, asDict1, asMeth, asSortK, asAtt] at h
theorem chkE_tup {e : E} {ex : Expr} (h : chkE G N e sc ex = true) (h2 : noLc ex = true) : ∀ elt x src cond, e ≠ .comp elt x src cond := by
  rintro elt x src cond rfl
  obtain ⟨_, _, _, _, _, _, _, rfl, _⟩ := comp_of h
  cases h2
theorem c_asg {i : Nat} {e : E} {st : Stmt} (h : chkSt G N (.asg i e) sc st = true) (g : Gs T G N n sc X) (tk : Takes X W) : PS X st (tSt T n X.w X.K W (.asg i e)) := by
  simp only [chkSt] at h
  split at h
  · rename_i t ex p e1
    have := asAsg_some e1; subst this
    split at h
    · rename_i x e2
      obtain ⟨py, rfl⟩ := asName_some e2
      simp only [Bool.and_eq_true, decide_eq_true_eq] at h
      obtain ⟨⟨⟨h1, h2⟩, h3⟩, h4⟩ := h
      have hsw := sw_val (x := x) (py := py) (l := p.line) g h3
      cases hb : swB sc x py ex with
      | false =>
        rw [hb] at hsw
        exact PS_imp (ps_set g.nd (by rw [g.N]; exact h1) (locS_of h2 g.sc) (sE e h4 g.toGd tk).v hsw (.inl (g.fnx x))) fun D σ H hh => asg_red (fun Q z => z) hh
      | true =>
        rw [hb] at hsw
        cases ex with
        | ListComp el gs scope q =>
          obtain ⟨elt, y, src, cond, rfl⟩ := chkE_lc h4
          obtain ⟨e, it, ifs, nm, scope', p', p2, e3, hc⟩ := comp_of h4
          cases e3
          simp only [swB, Bool.and_eq_true, decide_eq_true_eq] at hb
          have hS := sS src hc.src g.toGd tk (tg := .Name nm p2)
          have hfold : ∀ y, foldedSetIterable it X.env y = pure y := fun y => plainFold (chkS_plain hc.src)
          have hok : BlkOk X.N X.env.scope scope [(nm, y)] := blkOk_by (by rw [g.N, g.sc]; exact hc.blk)
          have hgt := fun s H C cl fp => loc_pg (X := X) (p2 := p2) g.toGd hc.loc hc.at_ s H C cl fp
          have hT : ∀ (s : Shared) (H : Hp) (C : Addr) (cl : List (Str × Addr)) (fp : List Addr), PTs (X.blk s H scope (compEnvC scope cl C X.env) fp) ifs (tTest0 T n X.w X.K cond) := fun s H C cl fp => by
            match cond, hc.cond with
            | none, .inl ⟨_, hi⟩ => rw [hi]; exact pts_nil
            | some c, .inr ⟨c', i, q1, q2, q3⟩ =>
              rw [q2]
              have : c = c' := Option.some.inj q1
              subst this
              exact pts_one (sE c q3 (g.toGd.blk s H C cl fp) takes0).t
            | none, .inr ⟨_, _, q, _⟩ => cases q
            | some c, .inl ⟨q, _⟩ => cases q
          have hE := fun s H C cl fp => (sE elt hc.elt (g.toGd.blk s H C cl fp) takes0).v
          have key := (s_comp (cond := cond) (p := q) g.toGd (by rw [g.N]; exact hc.at_) hok hgt hS hfold hT hE).1
          exact PS_imp (ps_setLc g.calm g.nd (by rw [g.N]; exact h1) (by rw [g.sc]; exact hb.1.1) hsw hS hok hgt hT hE hfold) fun D σ H hh => asg_red (fun Q z => key _ _ _ z) hh
        | _ => cases hb
    · cases h
  · cases h
theorem c_unp {is : List Nat} {e : E} {st : Stmt} (h : chkSt G N (.unp is e) sc st = true) (g : Gs T G N n sc X) (tk : Takes X W) : PS X st (tSt T n X.w X.K W (.unp is e)) := by
  simp only [chkSt] at h
  split at h
  · rename_i t ex p e1
    have := asAsg_some e1; subst this
    split at h
    · rename_i ts e2 e3
      obtain ⟨k, pt, rfl⟩ := asTup_some e2
      simp only [Bool.and_eq_true] at h
      obtain ⟨⟨⟨h1, h2⟩, h3⟩, h4⟩ := h
      have hg : PG X (.Tuple ts k pt) (gTgt X.K (.tup is)) := by
        obtain ⟨i1, i2, i3⟩ := pgs_nms g h1
        exact pg_tup g.calm i1 i2 i3
      have hsw : swapsWithSole [.Tuple ts k pt] ex p.line X.env = pure false := by
        show swapsWith ex (some (.Tuple ts k pt)) p.line X.env = pure false
        cases ex <;> first | rfl | cases h2 | cases h3
      have hss : swappedStores [.Tuple ts k pt] ex X.env = pure none := by
        cases ex <;> first | rfl | (simp [asTup] at e3)
      refine PS_imp (ps_asg (sE e h4 g.toGd tk).v hg hsw hss rfl) fun D σ H hh => ?_
      obtain ⟨ρ, Z, O, rl, hh⟩ := hh
      refine ⟨ρ, Z, O, rl, WpR.mono (WpR.bind hh) (fun d _ hd v H1 p => ?_) fun c fs z => wsX.toE z⟩
      obtain ⟨Ok, r1, r2, r3, _⟩ := rl.kept p
      cases hs : setT (kept e d ρ) (.tup is) d with
      | ok ρ' =>
        rw [hs] at hd
        exact setT_ok (r1.ext p.1) hs r3 (fun b z => z) fun σ' O' r q => hd σ' H1 O' r (Step.ext p.1 fun i a z => .inl (r2 i a (q i a z)))
      | exc c fs => rw [hs] at hd; exact hd.elim
      | bad => rw [hs] at hd; exact hd.elim
    · cases h
  · cases h
theorem isOwnL_some {i : Nat} (h : isOwnL ρ i = true) : ∃ ds, ρ[i]? = some (.own (.lst ds)) := by
  unfold isOwnL at h
  split at h
  · exact ⟨_, ‹_›⟩
  · cases h
theorem c_app {i : Nat} {e : E} {st : Stmt} (h : chkSt G N (.app i e) sc st = true) (g : Gs T G N n sc X) (tk : Takes X W) : PS X st (tSt T n X.w X.K W (.app i e)) := by
  simp only [chkSt] at h
  split at h
  · rename_i ex e1
    obtain ⟨p, rfl⟩ := asX_some e1
    split at h
    · rename_i o name y e2
      obtain ⟨apos, cpos, rfl, hl⟩ := asMeth1_some e2
      simp only [Bool.and_eq_true, decide_eq_true_eq] at h
      obtain ⟨⟨⟨rfl, h2⟩, h3⟩, h4⟩ := h
      have hb : attributeBase o "append" X.env (eval o X.env) = eval o X.env := by
        simp only [chkE] at h2
        split at h2
        · rename_i x e4
          obtain ⟨_, rfl⟩ := asName_some e4
          rfl
        · cases h2
      refine PS_imp (ps_expr (pe_bm PySem.F.plainAttrs_list slot_list_append type_list_append mt_append (vis_pe h2 g.toGd) (pa_cons (sE e h4 g.toGd tk).v pa_nil (plainStar h3)) hb (by rw [plainStar h3]; rfl) hl (plainStar h3) rfl) rfl) fun D σ H hh => ?_
      obtain ⟨ρ, Z, O, rl, hh⟩ := hh
      simp only [evS] at hh
      split at hh
      · rename_i ho
        obtain ⟨ds0, ho⟩ := isOwnL_some ho
        obtain ⟨a, oa, sa, ra⟩ := rl.own i _ ho
        cases ra with
        | lst ha rs =>
          refine ⟨_, sa, .inl ⟨rfl, _, SqL.of ha⟩, ρ, Z, O, rl, WpR.mono (WpR.bind hh) (fun d _ hd v H1 p => ?_) fun c fs z => wsX.toE z⟩
          obtain ⟨Ok, r1, r2, r3, _⟩ := rl.kept p
          cases hk : (kept e d ρ)[i]? with
          | none => rw [hk] at hd; exact hd.elim
          | some s =>
            rw [hk] at hd
            cases s with
            | no => exact hd.elim
            | slf _ _ => exact hd.elim
            | val x => exact hd.elim
            | own x =>
              cases x with
              | lst ds =>
                simp only at hd
                split at hd
                · rename_i hsz
                  obtain ⟨b, ob, sb, rb⟩ := (r1.ext p.1).own i _ hk
                  rw [sa] at sb
                  cases sb
                  cases rb with
                  | lst hb rs2 =>
                    rename_i xs2
                    have hno : H1 a ≠ none := by rw [hb]; simp
                    have up : ∀ c u, H1 c = some u → ¬ AvO Z Ok [] c → upd H1 a (.lst (xs2 ++ [v])) c = some u ∧ ¬ AvO Z Ok [] c := fun c u e n => by
                      have hne : c ≠ a := fun z => n (.inr ⟨i, (fun z => nomatch z), by rw [z]; exact ob⟩)
                      exact ⟨by rw [upd_ne hne]; exact e, n⟩
                    refine ⟨a, xs2, v, rfl, rfl, hb, by rw [rs2.length]; exact hsz, ?_⟩
                    refine hd σ _ Ok ((r1.ext p.1).write ob hk (.lst upd_same ((rs2.append (.cons r3 .nil)).to up))) ⟨⟨fun c u e n => ?_, fun c u e => ?_⟩, fun j c z => .inl (r2 j c z)⟩
                    · have hne : c ≠ a := fun z => n i (List.mem_singleton.mpr rfl) (by rw [z]; exact r2 i a ob)
                      rw [upd_ne hne]; exact p.1 c u e
                    · by_cases hc : c = a
                      · subst hc; exact ⟨_, upd_same⟩
                      · exact ⟨u, by rw [upd_ne hc]; exact p.1 c u e⟩
                · exact hd.elim
              | _ => exact hd.elim
      · exact hh.elim
    · cases h
  · cases h
theorem isOwnM_some {i : Nat} (h : isOwnM ρ i = true) : ∃ d, ρ[i]? = some (.own d) := by
  unfold isOwnM at h
  split at h
  · exact ⟨_, ‹_›⟩
  · cases h
theorem putN_at {A : Av} {xs : List (NestedKey × Addr × V)} {kds : List (Ev.D × Ev.D)} {k : NestedKey} {b : Addr} {v : V} {d e : Ev.D} (r1 : Reps wd K H A (dRefs xs) (kds.map (·.1))) (r2 : Reps wd K H A (dVals xs) (kds.map (·.2)))
    (q : kds.map (fun kv => nkeyT kv.1) = xs.map (fun x => some x.1)) (rk : Rep wd K H A (.ref b) d) (hk : nkeyT d = some k) (rv : Rep wd K H A v e) :
    Reps wd K H A (dRefs (putX xs k b v)) ((putN kds d k e).map (·.1)) ∧ Reps wd K H A (dVals (putX xs k b v)) ((putN kds d k e).map (·.2)) ∧ (putN kds d k e).map (fun kv => nkeyT kv.1) = (putX xs k b v).map (fun x => some x.1) := by
  have hs : (getN kds k).isSome = (atN xs k).isSome := by
    have := getN_at k r2 q
    cases hg : getN kds k with
    | none => rw [hg] at this; rw [this]; rfl
    | some z => rw [hg] at this; obtain ⟨v, e, _⟩ := this; rw [e]; rfl
  unfold putN putX
  rw [hs]
  split
  · clear hs
    have key : ∀ {xs : List (NestedKey × Addr × V)} {kds : List (Ev.D × Ev.D)}, Reps wd K H A (dRefs xs) (kds.map (·.1)) → Reps wd K H A (dVals xs) (kds.map (·.2)) → kds.map (fun kv => nkeyT kv.1) = xs.map (fun x => some x.1) →
        Reps wd K H A (dRefs (xs.map fun x => if x.1 = k then (x.1, x.2.1, v) else x)) ((kds.map fun kv => if nkeyT kv.1 = some k then (kv.1, e) else kv).map (·.1)) ∧ Reps wd K H A (dVals (xs.map fun x => if x.1 = k then (x.1, x.2.1, v) else x)) ((kds.map fun kv => if nkeyT kv.1 = some k then (kv.1, e) else kv).map (·.2)) ∧
          (kds.map fun kv => if nkeyT kv.1 = some k then (kv.1, e) else kv).map (fun kv => nkeyT kv.1) = (xs.map fun x => if x.1 = k then (x.1, x.2.1, v) else x).map (fun x => some x.1) := by
      intro xs
      induction xs with
      | nil =>
        intro kds r1 r2 q
        cases kds with
        | nil => exact ⟨.nil, .nil, rfl⟩
        | cons => cases q
      | cons x xs ih =>
        intro kds r1 r2 q
        cases kds with
        | nil => cases q
        | cons kd kds =>
          simp only [List.map_cons, List.cons.injEq, dRefs, dVals] at r1 r2 q
          cases r1 with
          | cons a1 a2 =>
            cases r2 with
            | cons b1 b2 =>
              obtain ⟨i1, i2, i3⟩ := ih a2 b2 q.2
              simp only [List.map_cons, dRefs, dVals, List.cons.injEq]
              by_cases hx : x.1 = k
              · have hx2 : nkeyT kd.1 = some k := by rw [q.1, hx]
                simp only [hx, hx2, if_true]
                exact ⟨.cons a1 i1, .cons rv i2, trivial, i3⟩
              · have hx2 : ¬ nkeyT kd.1 = some k := by rw [q.1]; exact fun z => hx (Option.some.inj z)
                simp only [hx, hx2, if_false]
                exact ⟨.cons a1 i1, .cons b1 i2, q.1, i3⟩
    exact key r1 r2 q
  · refine ⟨?_, ?_, ?_⟩
    · simp only [dRefs, List.map_append, List.map_cons, List.map_nil]
      exact r1.append (.cons rk .nil)
    · simp only [dVals, List.map_append, List.map_cons, List.map_nil]
      exact r2.append (.cons rv .nil)
    · simp only [List.map_append, List.map_cons, List.map_nil, q, hk]
theorem putK_at {A : Av} {v : V} {e : Ev.D} {k : L2.Key} (rv : Rep wd K H A v e) : ∀ {kvs : List (L2.Key × V)} {kds : List (L2.Key × Ev.D)}, kvs.map (·.1) = kds.map (·.1) → Reps wd K H A (kvs.map (·.2)) (kds.map (·.2)) →
    (L2.putK kvs k v).map (·.1) = (putK kds k e).map (·.1) ∧ Reps wd K H A ((L2.putK kvs k v).map (·.2)) ((putK kds k e).map (·.2)) := by
  intro kvs kds q r
  have hs : ∀ {kvs : List (L2.Key × V)} {kds : List (L2.Key × Ev.D)}, kvs.map (·.1) = kds.map (·.1) → (kvs.any fun kv => decide (kv.1 = k)) = (kds.any fun kv => decide (kv.1 = k)) := by
    intro kvs
    induction kvs with
    | nil => intro kds q; cases kds with
      | nil => rfl
      | cons => cases q
    | cons x xs ih => intro kds q; cases kds with
      | nil => cases q
      | cons y ys =>
        simp only [List.map_cons, List.cons.injEq] at q
        rw [List.any_cons, List.any_cons, ih q.2, q.1]
  unfold L2.putK putK
  rw [hs q]
  split
  · have key : ∀ {kvs : List (L2.Key × V)} {kds : List (L2.Key × Ev.D)}, kvs.map (·.1) = kds.map (·.1) → Reps wd K H A (kvs.map (·.2)) (kds.map (·.2)) →
        (kvs.map fun kv => if kv.1 = k then (kv.1, v) else kv).map (·.1) = (kds.map fun kv => if kv.1 = k then (kv.1, e) else kv).map (·.1) ∧ Reps wd K H A ((kvs.map fun kv => if kv.1 = k then (kv.1, v) else kv).map (·.2)) ((kds.map fun kv => if kv.1 = k then (kv.1, e) else kv).map (·.2)) := by
      intro kvs
      induction kvs with
      | nil => intro kds q r; cases kds with
        | nil => exact ⟨rfl, .nil⟩
        | cons => cases q
      | cons x xs ih => intro kds q r; cases kds with
        | nil => cases q
        | cons y ys =>
          simp only [List.map_cons, List.cons.injEq] at q r
          cases r with
          | cons a1 a2 =>
            obtain ⟨i1, i2⟩ := ih q.2 a2
            simp only [List.map_cons, List.cons.injEq]
            by_cases hx : x.1 = k
            · have hy : y.1 = k := by rw [← q.1]; exact hx
              simp only [hx, hy, if_true]
              exact ⟨⟨trivial, i1⟩, .cons rv i2⟩
            · have hy : ¬ y.1 = k := by rw [← q.1]; exact hx
              simp only [hx, hy, if_false]
              exact ⟨⟨q.1, i1⟩, .cons a1 i2⟩
    exact key q r
  · refine ⟨?_, ?_⟩
    · simp only [List.map_append, List.map_cons, List.map_nil, q]
    · simp only [List.map_append, List.map_cons, List.map_nil]
      exact r.append (.cons rv .nil)
theorem c_seti {i : Nat} {k e : E} {st : Stmt} (h : chkSt G N (.seti i k e) sc st = true) (g : Gs T G N n sc X) (tk : Takes X W) : PS X st (tSt T n X.w X.K W (.seti i k e)) := by
  simp only [chkSt] at h
  split at h
  · rename_i t ex p e1
    have := asAsg_some e1; subst this
    split at h
    · rename_i o j e2
      obtain ⟨ps, rfl⟩ := asSub_some e2
      simp only [Bool.and_eq_true] at h
      obtain ⟨⟨⟨⟨h1, h5⟩, h2⟩, h3⟩, h4⟩ := h
      have hsw : swapsWithSole [.Subscript o j ps] ex p.line X.env = pure false := by
        show swapsWith ex (some (.Subscript o j ps)) p.line X.env = pure false
        cases ex <;> first | rfl | cases h3
      have hss : swappedStores [.Subscript o j ps] ex X.env = pure none := by
        cases ex <;> rfl
      have hu : X.A.units + 64 < cLine := by have := g.toGd.un; omega
      refine PS_imp (ps_asg (sE e h4 g.toGd tk).v (pg_sub (vis_pe h1 g.toGd) (sE k h2 g.toGd tk).v (set_all hu) (by intro v; cases j <;> first | rfl | cases h5)) hsw hss rfl) fun D σ H hh => ?_
      obtain ⟨ρ, Z, O, rl, hh⟩ := hh
      simp only [evS] at hh
      split at hh
      · rename_i ho
        obtain ⟨d0, ho⟩ := isOwnM_some ho
        obtain ⟨a, oa, sa, ra⟩ := rl.own i _ ho
        refine ⟨ρ, Z, O, rl, WpR.mono (WpR.bind hh) (fun d _ hd v H1 p => ?_) fun c fs z => wsX.toE z⟩
        refine ⟨_, sa, ρ, Z, O, rl.ext p.1, WpR.mono (WpR.bind hd) (fun y _ hy w H2 p2 => ?_) fun c fs z cls dd H' q x => z cls dd σ H' (KeepR.ext (p.1.trans q)) x⟩
        obtain ⟨Ok, r1, r2, r3, _⟩ := rl.kept p
        have x12 := p.1.trans p2.1
        cases hk : (kept e d ρ)[i]? with
        | none => rw [hk] at hy; exact hy.elim
        | some s =>
          rw [hk] at hy
          cases s with
          | no => exact hy.elim
          | slf _ _ => exact hy.elim
          | val x => exact hy.elim
          | own x =>
            obtain ⟨b, ob, sb, rb⟩ := (r1.ext x12).own i _ hk
            rw [sa] at sb
            cases sb
            have up : ∀ {u : HO} c o, H2 c = some o → ¬ AvO Z Ok [] c → upd H2 a u c = some o ∧ ¬ AvO Z Ok [] c := fun {u} c o e n => by
              have hne : c ≠ a := fun z => n (.inr ⟨i, (fun z => nomatch z), by rw [z]; exact ob⟩)
              exact ⟨by rw [upd_ne hne]; exact e, n⟩
            have stp : ∀ u : HO, Step [i] O H Ok (upd H2 a u) := fun u => ⟨⟨fun c o e n => by
              have hne : c ≠ a := fun z => n i (List.mem_singleton.mpr rfl) (by rw [z]; exact r2 i a ob)
              rw [upd_ne hne]; exact x12 c o e, fun c o e => by
              by_cases hc : c = a
              · subst hc; exact ⟨_, upd_same⟩
              · exact ⟨o, by rw [upd_ne hc]; exact x12 c o e⟩⟩, fun j c z => .inl (r2 j c z)⟩
            have dict : ∀ {d1 : Ev.D}, (∀ d1', dput x y d = .ok d1' → WpR (R.ok (Fl.nx ((kept e d ρ).set i (.own d1')))) (FlOk X.w X.K D (mutS (.seti i k e)) Z O H) (wsX X.w X.K W (mutS (.seti i k e)) Z O H)) →
                (∃ d1', dput x y d = .ok d1') → anyOwn (lks k) ρ = false → rSetA X.w X.K (.ref a) w v H2 fun H3 => D.nx σ H3 := by
              rintro d1 hq ⟨d1', hp⟩ hown
              have hq := hq d1' hp
              have ry : Rep X.w X.K H2 (AvO Z Ok []) w y := p2.2.1.sub fun b z => (rl.ext p.1).noOwn hown b (by
                rcases z with z | ⟨j, n, z⟩
                · exact .inl z
                · exact .inr ⟨j, n, r2 j b z⟩)
              have rv : Rep X.w X.K H2 (AvO Z Ok []) v d := r3.ext p2.1
              unfold dput at hp
              cases x with
              | dN kvs =>
                simp only at hp
                split at hp
                · rename_i nk hnk
                  split at hp
                  · rename_i hsz
                    cases hp
                    cases rb with
                    | @dN ep xs _ e5 q1 q2 q3 =>
                      obtain ⟨b2, rfl⟩ : ∃ b, w = .ref b := by
                        cases y with
                        | tup ds => cases ry <;> exact ⟨_, rfl⟩
                        | _ => cases hnk
                      have hl := congrArg List.length q3
                      simp only [List.length_map] at hl
                      refine .inr (.inr ⟨a, ep, xs, nk, b2, rfl, ⟨e5, _, _, q1, by rw [List.map_map]; exact q3⟩, rfl, ⟨_, y, ry, hnk⟩, by rw [sizeLine_eq, ← hl]; exact hsz, fun ep' => ?_⟩)
                      obtain ⟨s1, s2, s3⟩ := putN_at q1 q2 q3 ry hnk rv
                      exact hq σ _ Ok ((r1.ext x12).write ob hk (.dN upd_same (s1.to up) (s2.to up) s3)) (stp _)
                  · cases hp
                · cases hp
              | dK kvs =>
                simp only at hp
                split at hp
                · rename_i kk hkk
                  split at hp
                  · rename_i hsz
                    cases hp
                    cases rb with
                    | @dK kv2 _ e5 q1 q2 =>
                      have hl := congrArg List.length q1
                      simp only [List.length_map] at hl
                      have hw := key_V hkk (.inl ry)
                      obtain ⟨s1, s2⟩ := putK_at (k := kk) rv q1 q2
                      refine .inr (.inl ⟨a, _, rfl, by rw [hw]; exact .k e5 (by rw [sizeLine_eq, hl]; exact hsz), ?_⟩)
                      exact hq σ _ Ok ((r1.ext x12).write ob hk (.dK upd_same s1 (s2.to up))) (stp _)
                  · cases hp
                · cases hp
              | _ => cases hp
            have other : (∀ ds, x ≠ .lst ds) → rSetA X.w X.K (.ref a) w v H2 fun H3 => D.nx σ H3 := fun hne => by
              have hy2 : WpR (if anyOwn (lks k) ρ then R.bad else (match dput x y d with
                | .ok x' => R.ok (Fl.nx ((kept e d ρ).set i (.own x')))
                | _ => R.bad)) (FlOk X.w X.K D (mutS (.seti i k e)) Z O H) (wsX X.w X.K W (mutS (.seti i k e)) Z O H) := by
                cases x <;> first | exact absurd rfl (hne _) | exact hy
              split at hy2
              · exact hy2.elim
              · rename_i hown
                cases hp : dput x y d with
                | ok x' =>
                  rw [hp] at hy2
                  exact dict (d1 := x') (fun d1' h => by rw [hp] at h; cases h; exact hy2) ⟨x', hp⟩ (by simpa using hown)
                | exc c fs => rw [hp] at hy2; exact hy2.elim
                | bad => rw [hp] at hy2; exact hy2.elim
            cases x with
            | lst ds =>
              simp only at hy
              cases y with
              | int z =>
                simp only at hy
                cases hx : ixN ds.length z with
                | none => rw [hx] at hy; exact hy.elim
                | some m =>
                  rw [hx] at hy
                  cases rb with
                  | lst hb rs2 =>
                    rename_i xs2
                    have hw : w = .int z := by have := p2.2.1; cases this; rfl
                    subst hw
                    refine .inl ⟨a, xs2, z, m, rfl, rfl, hb, by rw [rs2.length]; exact hx, ?_⟩
                    exact hy σ _ Ok ((r1.ext x12).write ob hk (.lst upd_same ((Reps.set (r3.ext p2.1) m rs2).to up))) (stp _)
              | _ => exact hy.elim
            | _ => exact other fun ds z => by cases z
      · exact hh.elim
    · cases h
  · cases h
theorem c_expr {e : E} {st : Stmt} (h : chkSt G N (.expr e) sc st = true) (g : Gs T G N n sc X) (tk : Takes X W) : PS X st (tSt T n X.w X.K W (.expr e)) := by
  simp only [chkSt] at h
  split at h
  · rename_i ex e1
    obtain ⟨p, rfl⟩ := asX_some e1
    simp only [Bool.and_eq_true] at h
    have hs : swapsWith ex none p.line X.env = pure false := by
      obtain ⟨⟨h1, h2⟩, _⟩ := h
      cases ex <;> first | (cases h1; done) | (cases h2; done) | rfl
    refine PS_imp (ps_expr (sE e h.2 g.toGd tk).v hs) fun D σ H hh => ?_
    obtain ⟨ρ, Z, O, rl, hh⟩ := hh
    exact ⟨ρ, Z, O, rl, WpR.mono (WpR.bind hh) (fun d _ hd v H1 p => hd σ H1 O (rl.ext p.1) (Step.ext p.1 fun i a z => .inl z)) fun c fs z => wsX.toE z⟩
  · cases h
theorem c_ret {e : E} {st : Stmt} (h : chkSt G N (.ret e) sc st = true) (g : Gs T G N n sc X) (tk : Takes X W) : PS X st (tSt T n X.w X.K W (.ret e)) := by
  simp only [chkSt] at h
  split at h
  · rename_i ex e1
    obtain ⟨p, rfl⟩ := asRet_some e1
    by_cases hv : ∃ i, e = .var i
    · obtain ⟨i, rfl⟩ := hv
      refine PS_imp (ps_ret (vis_pe h g.toGd)) fun D σ H hh => ?_
      obtain ⟨ρ, Z, O, rl, hh⟩ := hh
      simp only [evS, evE] at hh
      split at hh
      · rename_i d hd
        obtain ⟨v, q1, q2⟩ := rl.val i d hd
        refine ⟨v, q1, hh v H (KeepR.ext .refl) (q2.sub fun b z => .inl z) fun z => ?_⟩
        simp [fresh, isOwn, hd] at z
      · rename_i d hd
        obtain ⟨a, q0, q1, q2⟩ := rl.own i d hd
        refine ⟨_, q1, hh _ H (KeepR.ext .refl) (q2.rep (rl.nz i a q0) fun b z => .inl z) fun z => ⟨a, rfl, .inl ⟨i, q0⟩, q2.to (fun o e => e) fun b o e n => ⟨e, fun z => n ?_⟩⟩⟩
        rcases z with z | z
        · exact .inl z
        · exact .inr ⟨i, (fun z => nomatch z), by rw [z]; exact q0⟩
      · exact hh.elim
    · refine PS_imp (ps_ret (sE e h g.toGd tk).v) fun D σ H hh => ?_
      obtain ⟨ρ, Z, O, rl, hh⟩ := hh
      have ho : isOwn e ρ = false := by cases e <;> first | rfl | exact absurd ⟨_, rfl⟩ hv
      refine ⟨ρ, Z, O, rl, WpR.mono (WpR.bind hh) (fun d _ hd v H1 p => hd v H1 (KeepR.ext p.1) (p.2.1.sub fun b z => .inl z) fun z => ?_) fun c fs z => wsX.toE z⟩
      rw [ho, Bool.or_false, Bool.and_eq_true] at z
      obtain ⟨q, q1, q2, q3⟩ := p.2.2 z.1 z.2
      exact ⟨q, q1, .inr q2, q3.to (fun o e => e) fun b o e n => ⟨e, fun z => n (z.imp .inl id)⟩⟩
  · rename_i e1
    obtain ⟨p, rfl⟩ := asRet_some e1
    cases e with
    | non =>
      refine PS_imp ps_retN fun D σ H hh => ?_
      obtain ⟨ρ, Z, O, rl, hh⟩ := hh
      refine hh .non H (KeepR.ext .refl) .non fun z => ?_
      simp [fresh, isOwn] at z
    | _ => cases h
  · cases h
theorem if_bind {α β : Type} {m : R α} {f : α → R Bool} {k : Bool → R β} : (m >>= fun x => f x >>= k) = ((m >>= f) >>= k) := by cases m <;> rfl
theorem c_ifs {c : E} {a b : List S} {ex : Expr} {y z : List Stmt} {p : Pos} (hc : PT X ex (tT T n X.w X.K W c)) (ha : PSs X y (tSts T n X.w X.K W a)) (hb : PSs X z (tSts T n X.w X.K W b)) : PS X (.If ex y z p) (tSt T n X.w X.K W (.ifs c a b)) := by
  refine PS_imp (ps_if hc ha hb) fun D σ H hh => ?_
  obtain ⟨ρ, Z, O, rl, hh⟩ := hh
  have e : evS T (ev T n) (.ifs c a b) ρ = ((evE T (ev T n) ρ c >>= truth) >>= fun t => if t = true then evSs T (ev T n) a ρ else evSs T (ev T n) b ρ) := by
    simp only [evS]
    rw [← if_bind]
    cases evE T (ev T n) ρ c with
    | ok x =>
      simp only [ok_bind]
      cases truth x with
      | ok t => cases t <;> rfl
      | exc c fs => rfl
      | bad => rfl
    | exc c fs => rfl
    | bad => rfl
  rw [e] at hh
  refine ⟨ρ, Z, O, rl, WpR.mono (WpR.bind hh) (fun t _ ht H1 x => ?_) fun c fs z => wsX.toE z⟩
  have s0 : Step [] O H O H1 := Step.ext x fun i a z => .inl z
  cases t with
  | true => exact ⟨ρ, Z, O, rl.ext x, WpR.mono ht (fun f _ q => FlOk.pre s0 (fun i hi => nomatch hi) (fun i hi => by simp only [mutS]; exact List.mem_append_left _ hi) q) fun c fs q => wsX.pre s0 (fun i hi => nomatch hi) (fun i hi => by simp only [mutS]; exact List.mem_append_left _ hi) q⟩
  | false => exact ⟨ρ, Z, O, rl.ext x, WpR.mono ht (fun f _ q => FlOk.pre s0 (fun i hi => nomatch hi) (fun i hi => by simp only [mutS]; exact List.mem_append_right _ hi) q) fun c fs q => wsX.pre s0 (fun i hi => nomatch hi) (fun i hi => by simp only [mutS]; exact List.mem_append_right _ hi) q⟩
theorem c_cons {s : S} {r : List S} {st : Stmt} {rest : List Stmt} (h1 : PS X st (tSt T n X.w X.K W s)) (h2 : PSs X rest (tSts T n X.w X.K W r)) : PSs X (st :: rest) (tSts T n X.w X.K W (s :: r)) := by
  refine PSs_imp (pss_cons h1 h2) fun D σ H hh => ?_
  obtain ⟨ρ, Z, O, rl, hh⟩ := hh
  have m1 : ∀ i ∈ mutS s, i ∈ mutSs (s :: r) := fun i hi => by simp only [mutSs]; exact List.mem_append_left _ hi
  have m2 : ∀ i ∈ mutSs r, i ∈ mutSs (s :: r) := fun i hi => by simp only [mutSs]; exact List.mem_append_right _ hi
  refine ⟨ρ, Z, O, rl, ?_⟩
  simp only [evSs] at hh
  cases he : evS T (ev T n) s ρ with
  | bad => rw [he] at hh; exact hh.elim
  | exc c fs =>
    rw [he] at hh
    exact wsX.pre (M1 := []) Step.refl (fun i hi => nomatch hi) m1 hh
  | ok f =>
    rw [he] at hh
    cases f with
    | nx ρ' =>
      intro σ' H' O' r' st
      exact ⟨ρ', Z, O', r', WpR.mono hh (fun f _ q => FlOk.pre st m1 m2 q) fun c fs q => wsX.pre st m1 m2 q⟩
    | brk ρ' => exact FlOk.pre (M1 := []) Step.refl (fun i hi => nomatch hi) m1 (f := .brk ρ') (show FlOk X.w X.K D (mutSs (s :: r)) Z O H (.brk ρ') from hh)
    | cont ρ' => exact FlOk.pre (M1 := []) Step.refl (fun i hi => nomatch hi) m1 (f := .cont ρ') (show FlOk X.w X.K D (mutSs (s :: r)) Z O H (.cont ρ') from hh)
    | ret d own => exact FlOk.pre (M1 := []) Step.refl (fun i hi => nomatch hi) m1 (f := .ret d own) (show FlOk X.w X.K D (mutSs (s :: r)) Z O H (.ret d own) from hh)
end
end Ev

set_option linter.all false
set_option autoImplicit false
set_option maxRecDepth 100000
set_option maxHeartbeats 8000000
/-! Loops; all statements. -/
namespace Ev
open PySem PySem.Spec PyProof.Rows L2

section
variable {T : Tab} {G : Nm} {N : List Str} {n : Nat} {wd : World} {K : PySem.W.Frag} {W : WX} {X : Cx} {sc : Scope} {Z : Zs} {O O1 : Own} {σ : Sta} {H H1 H2 H' : Hp} {ρ : Env} {D : Ends} {M M1 M2 : List Nat}
theorem for_core {set : Env → Ev.D → R Env} {body : List S} {t : Tgt} {ds : List Ev.D} {J : It} {A : Av} (rl : Rl wd K Z O σ H ρ)
    (hA : ∀ b, AvO Z O [] b → A b) (hg : Goes wd K H A (fun b => ∃ i ∈ mutSs body, O i = some b) J ds)
    (h : WpR (forR (fun ρ d => setT ρ t d) (fun ρ => evSs T (ev T n) body ρ) ds ρ) (FlOk wd K D (mutSs body) Z O H) (wsX wd K W (mutSs body) Z O H)) :
    ∃ Wi : Nat → Nat → Sta → Hp → Prop, (∃ m, Wi 0 m σ H) ∧ ∀ i m σ H, Wi i m σ H →
      (J.stop i H ∧ D.nx σ H) ∨ (J.go i H ∧ ∃ Nx : Sta → Hp → Prop, (∀ σ' H', Nx σ' H' → ∃ m', m' < m ∧ Wi (i + 1) m' σ' H') ∧ ∀ x H', J.yld i H x H' → gTgt K t x σ H' fun σ2 H2 => tSts T n wd K W body { D with nx := Nx, ct := Nx, bk := D.nx } σ2 H2) := by
  refine ⟨fun i m σ' H' => m = ds.length - i ∧ i ≤ ds.length ∧ ∃ ρ' O', Rl wd K Z O' σ' H' ρ' ∧ Step (mutSs body) O H O' H' ∧ WpR (forR (fun ρ d => setT ρ t d) (fun ρ => evSs T (ev T n) body ρ) (ds.drop i) ρ') (FlOk wd K D (mutSs body) Z O H) (wsX wd K W (mutSs body) Z O H),
    ⟨ds.length, by omega, by omega, ρ, O, rl, .refl, h⟩, ?_⟩
  rintro i m σ' H' ⟨rfl, hi, ρ', O', r', st, hw⟩
  have keep : ∀ b o, H b = some o → ¬ (∃ i ∈ mutSs body, O i = some b) → H' b = some o := fun b o e n => st.keep b o e fun i hi z => n ⟨i, hi, z⟩
  obtain ⟨j1, j2, j3⟩ := hg H' keep
  by_cases hl : i = ds.length
  · subst hl
    rw [List.drop_length] at hw
    exact .inl ⟨j2 _ (Nat.le_refl _), hw σ' H' O' r' st⟩
  · have hlt : i < ds.length := by omega
    refine .inr ⟨j1 i hlt, fun σ2 H2 => ∃ ρ2 O2, Rl wd K Z O2 σ2 H2 ρ2 ∧ Step (mutSs body) O H O2 H2 ∧ WpR (forR (fun ρ d => setT ρ t d) (fun ρ => evSs T (ev T n) body ρ) (ds.drop (i + 1)) ρ2) (FlOk wd K D (mutSs body) Z O H) (wsX wd K W (mutSs body) Z O H), fun σ2 H2 z => ⟨ds.length - (i + 1), by omega, rfl, by omega, z⟩, fun x H2 y => ?_⟩
    obtain ⟨rfl, d, hd, rx⟩ := j3 i x H2 hlt y
    have hdrop : ds.drop i = d :: ds.drop (i + 1) := by
      obtain ⟨q1, q2⟩ := List.getElem?_eq_some_iff.mp hd
      rw [List.drop_eq_getElem_cons q1, q2]
    rw [hdrop] at hw
    simp only [forR] at hw
    cases hs : setT ρ' t d with
    | exc c fs => rw [hs] at hw; exact hw.elim
    | bad => rw [hs] at hw; exact hw.elim
    | ok ρ1 =>
      rw [hs] at hw
      have hA' : ∀ b, AvO Z O' [] b → AvO Z O [] b ∨ H b = none := fun b z => by
        rcases z with z | ⟨j, _, z⟩
        · exact .inl (.inl z)
        · rcases st.roots j b z with q | q
          · exact .inl (.inr ⟨j, (fun z => nomatch z), q⟩)
          · exact .inr q
      have rx2 : Rep wd K H2 (AvO Z O' []) x d := rx.to fun b o e n => ⟨keep b o e fun ⟨j, hj, z⟩ => n (hA b (.inr ⟨j, (fun z => nomatch z), z⟩)), fun z => by
        rcases hA' b z with q | q
        · exact n (hA b q)
        · rw [e] at q; cases q⟩
      refine setT_ok r' hs rx2 (fun b z => z) fun σ2 O2 r2 q2 => ⟨ρ1, Z, O2, r2, ?_⟩
      have st2 : Step (mutSs body) O H O2 H2 := ⟨st.toKeepR, fun j a e => st.roots j a (q2 j a e)⟩
      have mm : ∀ i ∈ mutSs body, i ∈ mutSs body := fun i h => h
      cases hb : evSs T (ev T n) body ρ1 with
      | bad => simp only [hb] at hw; exact hw.elim
      | exc c fs => simp only [hb] at hw; exact wsX.pre st2 mm mm hw
      | ok f =>
        simp only [hb] at hw
        cases f with
        | nx ρ3 => exact fun σ3 H3 O3 r3 s3 => ⟨ρ3, O3, r3, st2.trans s3, hw⟩
        | cont ρ3 => exact fun σ3 H3 O3 r3 s3 => ⟨ρ3, O3, r3, st2.trans s3, hw⟩
        | brk ρ3 => exact FlOk.pre (f := .brk ρ3) (D := { D with bk := D.nx }) st2 mm mm hw
        | ret d own => exact FlOk.pre (f := .ret d own) (D := { D with nx := _, ct := _, bk := _ }) st2 mm mm (show FlOk wd K _ _ Z O H (.ret d own) from hw)
theorem c_fors {t : Tgt} {src : Src} {b : List S} {x y : Expr} {z : List Stmt} {p : Pos} (g : Gs T G N n sc X) (hS : PI X x y (tS T n X.w X.K W src)) (hf : plainX y = true) (hg : PG X x (gTgt X.K t)) (hb : PSs X z (tSts T n X.w X.K W b)) : PS X (.For x y z [] p) (tSt T n X.w X.K W (.fors t src b)) := by
  refine PS_imp (ps_for g.pass g.calm hS hg hb fun _ => plainFold hf) fun D σ H hh => ?_
  obtain ⟨ρ, Z, O, rl, hh⟩ := hh
  have main : (∀ b, AvO Z O [] b → AvO Z O (lkr src) b) → (∀ y, srcVar src = some y → y ∉ mutSs b) → (∀ i ∈ mutSs b, ∀ c, O i = some c → i ∈ lkr src → False) →
      WpR ((evSrc T (ev T n) ρ src).bind fun items => forR (fun ρ d => setT ρ t d) (fun ρ => evSs T (ev T n) b ρ) items ρ) (FlOk X.w X.K D (mutSs b) Z O H) (wsX X.w X.K W (mutSs b) Z O H) → tFor (tS T n X.w X.K W src) (gTgt X.K t) (tSts T n X.w X.K W b) D σ H := by
    intro ha hy hd hw
    refine ⟨ρ, Z, O, rl, WpR.mono (WpR.bind hw) (fun ds _ hds J H1 x1 hgo => ?_) fun c fs z => wsX.toE z⟩
    have s0 : Step [] O H O H1 := Step.ext x1 fun i a z => .inl z
    have e0 : ∀ i ∈ ([] : List Nat), i ∈ mutSs b := fun i h => nomatch h
    have mm : ∀ i ∈ mutSs b, i ∈ mutSs b := fun i h => h
    refine for_core (set := fun ρ d => setT ρ t d) (rl.ext x1) ha (hgo _ (fun c ⟨i, hi, z⟩ => .inr ⟨i, fun q => hd i hi c z q, z⟩) fun y' c q1 q2 ⟨i, hi, z⟩ => ?_) (WpR.mono hds (fun f _ q => FlOk.pre s0 e0 mm q) fun c fs q => wsX.pre s0 e0 mm q)
    rw [rl.inj y' i c q2 z] at q1
    exact hy i q1 hi
  simp only [evS] at hh
  split at hh
  · rename_i y' e1
    split at hh
    · exact hh.elim
    · rename_i hc
      have hlk : lkr src = [] := by
        cases src with
        | rng es => rfl
        | seq e => cases e <;> first | (cases e1; done) | (simp [lkr, lkb])
      refine main (fun b z => by rw [hlk]; exact z) (fun y2 q => ?_) (fun i _ c _ q => by rw [hlk] at q; exact nomatch q) hh
      rw [e1] at q; cases q
      simpa using hc
  · rename_i e1
    split at hh
    · exact hh.elim
    · rename_i hown
      have hown : anyOwn (lkr src) ρ = false := by simpa using hown
      refine main (rl.noOwn hown) (fun y2 q => by rw [e1] at q; cases q) (fun i hi c e q => ?_) hh
      obtain ⟨d, w⟩ := rl.dom i c e
      have : anyOwn (lkr src) ρ = true := by
        unfold anyOwn
        rw [List.any_eq_true]
        exact ⟨i, q, by rw [w]⟩
      rw [hown] at this; cases this
theorem c_while {c : E} {b : List S} {x : Expr} {z : List Stmt} {p : Pos} (g : Gs T G N n sc X) (hc : PT X x (tT T n X.w X.K W c)) (hb : PSs X z (tSts T n X.w X.K W b)) : PS X (.While x z [] p) (tSt T n X.w X.K W (.while c b)) := by
  refine PS_imp (ps_while g.pass hc hb) fun D σ H hh => ?_
  obtain ⟨ρ, Z, O, rl, hh⟩ := hh
  have hh : WpR (whileR (fun ρ => (evE T (ev T n) ρ c).bind truth) (fun ρ => evSs T (ev T n) b ρ) T.wf ρ) (FlOk X.w X.K D (mutSs b) Z O H) (wsX X.w X.K W (mutSs b) Z O H) := by
    simp only [evS] at hh
    exact hh
  refine ⟨fun m σ' H' => ∃ ρ' O', Rl X.w X.K Z O' σ' H' ρ' ∧ Step (mutSs b) O H O' H' ∧ WpR (whileR (fun ρ => (evE T (ev T n) ρ c).bind truth) (fun ρ => evSs T (ev T n) b ρ) m ρ') (FlOk X.w X.K D (mutSs b) Z O H) (wsX X.w X.K W (mutSs b) Z O H), ⟨T.wf, ρ, O, rl, .refl, hh⟩, ?_⟩
  rintro m σ1 H1 ⟨ρ1, O1, r1, s1, h1⟩
  have mm : ∀ i ∈ mutSs b, i ∈ mutSs b := fun i h => h
  cases m with
  | zero => exact h1.elim
  | succ m =>
    simp only [whileR] at h1
    refine ⟨ρ1, Z, O1, r1, ?_⟩
    show WpR ((evE T (ev T n) ρ1 c).bind truth) _ _
    cases ht : (evE T (ev T n) ρ1 c).bind truth with
    | bad => rw [ht] at h1; exact h1.elim
    | exc k fs =>
      rw [ht] at h1
      exact wsX.toE (wsX.pre s1 mm mm h1)
    | ok t =>
      rw [ht] at h1
      intro H2 x2
      have s2 : Step (mutSs b) O H O1 H2 := s1.trans (Step.ext x2 fun i a z => .inl z)
      cases t with
      | false => exact h1 σ1 H2 O1 (r1.ext x2) s2
      | true =>
        rw [if_pos rfl]
        refine ⟨fun σ' H' => ∃ ρ' O', Rl X.w X.K Z O' σ' H' ρ' ∧ Step (mutSs b) O H O' H' ∧ WpR (whileR (fun ρ => (evE T (ev T n) ρ c).bind truth) (fun ρ => evSs T (ev T n) b ρ) m ρ') (FlOk X.w X.K D (mutSs b) Z O H) (wsX X.w X.K W (mutSs b) Z O H), fun σ' H' z => ⟨m, Nat.lt_succ_self _, z⟩, ρ1, Z, O1, r1.ext x2, ?_⟩
        cases hb : evSs T (ev T n) b ρ1 with
        | bad => simp only [hb] at h1; exact h1.elim
        | exc c fs => simp only [hb] at h1; exact wsX.pre s2 mm mm h1
        | ok f =>
          simp only [hb] at h1
          cases f with
          | nx ρ3 => exact fun σ3 H3 O3 r3 s3 => ⟨ρ3, O3, r3, s2.trans s3, h1⟩
          | cont ρ3 => exact fun σ3 H3 O3 r3 s3 => ⟨ρ3, O3, r3, s2.trans s3, h1⟩
          | brk ρ3 => exact FlOk.pre (f := .brk ρ3) (D := { D with bk := D.nx }) s2 mm mm h1
          | ret d own => exact FlOk.pre (f := .ret d own) (D := { D with nx := _, ct := _, bk := _ }) s2 mm mm (show FlOk X.w X.K _ _ Z O H (.ret d own) from h1)

mutual
theorem sSt : ∀ (s : S) {sc : Scope} {st : Stmt} {X : Cx} {W : WX}, chkSt G N s sc st = true → Gs T G N n sc X → Takes X W → PS X st (tSt T n X.w X.K W s)
  | .asg i e, sc, st, X, W, h, g, tk => c_asg h g tk
  | .unp is e, sc, st, X, W, h, g, tk => c_unp h g tk
  | .app i e, sc, st, X, W, h, g, tk => c_app h g tk
  | .seti i k e, sc, st, X, W, h, g, tk => c_seti h g tk
  | .expr e, sc, st, X, W, h, g, tk => c_expr h g tk
  | .ret e, sc, st, X, W, h, g, tk => c_ret h g tk
  | .ifs c a b, sc, st, X, W, h, g, tk => by
    simp only [chkSt] at h
    split at h
    · rename_i x y z e1
      obtain ⟨p, rfl⟩ := asIfS_some e1
      simp only [Bool.and_eq_true] at h
      exact c_ifs (sE c h.1.1 g.toGd tk).t (sSts a h.1.2 g tk) (sSts b h.2 g tk)
    · cases h
  | .fors t src b, sc, st, X, W, h, g, tk => by
    simp only [chkSt] at h
    split at h
    · rename_i x y z e1
      obtain ⟨p, rfl⟩ := asFor_some e1
      simp only [Bool.and_eq_true] at h
      exact c_fors g (sS src h.1.2 g.toGd tk) (chkS_plain h.1.2) (pg_tgt g h.1.1) (sSts b h.2 g tk)
    · cases h
  | .while c b, sc, st, X, W, h, g, tk => by
    simp only [chkSt] at h
    split at h
    · rename_i x z e1
      obtain ⟨p, rfl⟩ := asWh_some e1
      simp only [Bool.and_eq_true] at h
      exact c_while g (sE c h.1 g.toGd tk).t (sSts b h.2 g tk)
    · cases h
  | .brk, sc, st, X, W, h, g, tk => by
    simp only [chkSt] at h
    split at h
    · exact PS_imp ps_break fun D σ H ⟨ρ, Z, O, rl, hh⟩ => hh σ H O rl .refl
    · cases h
  | .cont, sc, st, X, W, h, g, tk => by
    simp only [chkSt] at h
    split at h
    · exact PS_imp ps_continue fun D σ H ⟨ρ, Z, O, rl, hh⟩ => hh σ H O rl .refl
    · cases h
  | .pass, sc, st, X, W, h, g, tk => by
    simp only [chkSt] at h
    split at h
    · exact PS_imp ps_pass fun D σ H ⟨ρ, Z, O, rl, hh⟩ => hh σ H O rl .refl
    · exact PS_imp ps_doc fun D σ H ⟨ρ, Z, O, rl, hh⟩ => hh σ H O rl .refl
    · cases h
  | .raise, sc, st, X, W, h, g, tk => PS_imp ps_never fun D σ H ⟨ρ, Z, O, rl, hh⟩ => hh
  | .fld _ _, sc, st, X, W, h, g, tk => by simp [chkSt] at h
theorem sSts : ∀ (s : List S) {sc : Scope} {st : List Stmt} {X : Cx} {W : WX}, chkSts G N s sc st = true → Gs T G N n sc X → Takes X W → PSs X st (tSts T n X.w X.K W s)
  | [], sc, [], X, W, h, g, tk => PSs_imp pss_nil fun D σ H ⟨ρ, Z, O, rl, hh⟩ => hh σ H O rl .refl
  | s :: r, sc, st :: rest, X, W, h, g, tk => by
    simp only [chkSts, Bool.and_eq_true] at h
    exact c_cons (sSt s h.1 g tk) (sSts r h.2 g tk)
  | [], sc, _ :: _, X, W, h, g, tk => by simp [chkSts] at h
  | _ :: _, sc, [], X, W, h, g, tk => by simp [chkSts] at h
end
end
end Ev

set_option linter.all false
set_option autoImplicit false
set_option maxRecDepth 100000
set_option maxHeartbeats 8000000
/-! Initializers. -/
namespace Ev
open PySem PySem.Spec PyProof.Rows L2

section
variable {T : Tab} {G : Nm} {N : List Str} {n : Nat} {wd : World} {K : PySem.W.Frag} {W : WX} {X : Cx} {sc : Scope} {Z : Zs} {O O' O1 : Own} {σ : Sta} {H H1 H2 H' : Hp} {ρ : Env} {D : Ends}
/-- what an initializer leaves: all but the instance and the roots -/
structure KI (Z : Zs) (O : Own) (H : Hp) (O' : Own) (H' : Hp) : Prop where
  keep : ∀ b o, H b = some o → Z.self ≠ some b → (∀ i, O i ≠ some b) → H' b = some o
  there : ∀ b o, H b = some o → ∃ o', H' b = some o'
  roots : ∀ i a, O' i = some a → O i = some a ∨ H a = none
theorem KI.refl : KI Z O H O H := ⟨fun _ _ e _ _ => e, fun _ o e => ⟨o, e⟩, fun _ _ e => .inl e⟩
theorem KI.trans (a : KI Z O H O1 H1) (b : KI Z O1 H1 O' H') : KI Z O H O' H' := by
  refine ⟨fun c o e n1 n2 => b.keep c o (a.keep c o e n1 n2) n1 fun i q => ?_, fun c o e => ?_, fun i c q => ?_⟩
  · rcases a.roots i c q with z | z
    · exact n2 i z
    · rw [e] at z; cases z
  · obtain ⟨o', q⟩ := a.there c o e
    exact b.there c o' q
  · rcases b.roots i c q with z | z
    · exact a.roots i c z
    · refine .inr ?_
      cases e : H c with
      | none => rfl
      | some o =>
        obtain ⟨o', q'⟩ := a.there c o e
        rw [z] at q'; cases q'
theorem KI.step {M : List Nat} (s : Step M O H O' H') : KI Z O H O' H' := ⟨fun b o e _ n => s.keep b o e fun i _ => n i, s.there, s.roots⟩
def tI (T : Tab) (n : Nat) (wd : World) (K : PySem.W.Frag) (body : List S) : TS := fun D σ H => ∃ ρ Z O, Rl wd K Z O σ H ρ ∧ WpR (evI T (ev T n) body ρ) (fun ρ' => ∀ σ' H' O', Rl wd K Z O' σ' H' ρ' → KI Z O H O' H' → D.nx σ' H') (fun _ _ => True)
theorem putF_zip {x : Str} {v : V} : ∀ {vs : List V} {l : List Str}, l[vs.length]? = some x → l.Nodup → putF x v (l.zip vs) = l.zip (vs ++ [v])
  | [], [], h, _ => by simp at h
  | [], y :: l, h, _ => by
    simp at h
    subst h
    simp [putF]
  | w :: vs, [], h, _ => by simp at h
  | w :: vs, y :: l, h, hn => by
    rw [List.nodup_cons] at hn
    rw [List.length_cons, List.getElem?_cons_succ] at h
    have hx : x ∈ l := List.mem_of_getElem? h
    have ne : ¬ y = x := fun z => hn.1 (z ▸ hx)
    rw [List.zip_cons_cons, putF, if_neg ne, putF_zip h hn.2, List.cons_append, List.zip_cons_cons]
/-- a field is stored -/
theorem Rl.slfW {c : Cl} {fs : List Ev.D} {d : Ev.D} {a dx : Addr} {vs : List V} {v : V} (r : Rl wd K Z O σ H ρ) (h0 : (ρ[(0 : Nat)]? : Option Sl) = some (.slf c fs)) (hs : Z.self = some a) (hσ : (σ[(0 : Nat)]? : Option (Option V)) = some (some (.ref a))) (hz : Z a)
    (hl : vs.length = fs.length) (hlt : vs.length < c.flds.length) (rs : Reps wd K H (AvO Z O []) vs fs) (rv : Rep wd K H (AvO Z O []) v d) :
    Rl wd K Z O σ (upd H a (.ins (He.ga K c.name) dx (c.flds.zip (vs ++ [v])))) (ρ.set 0 (.slf c (fs ++ [d]))) := by
  have up : ∀ b u, H b = some u → ¬ AvO Z O [] b → upd H a (.ins (He.ga K c.name) dx (c.flds.zip (vs ++ [v]))) b = some u ∧ ¬ AvO Z O [] b := fun b u e n => by
    have hne : b ≠ a := fun z => n (.inl (by rw [z]; exact hz))
    exact ⟨by rw [upd_ne hne]; exact e, n⟩
  refine ⟨by rw [List.length_set, r.len], fun j e q => ?_, fun j e q => ?_, fun j b q => ?_, r.inj, r.nz, fun b z => ?_, fun j c' fs' q => ?_⟩
  · rcases set_get q with ⟨rfl, q0⟩ | ⟨h1, q0⟩
    · cases q0
    · obtain ⟨w, w1, w2⟩ := r.val j e q0
      exact ⟨w, w1, w2.to up⟩
  · rcases set_get q with ⟨rfl, q0⟩ | ⟨h1, q0⟩
    · cases q0
    · obtain ⟨b, w0, w1, w2⟩ := r.own j e q0
      have hne : b ≠ a := fun z => r.nz j b w0 (by rw [z]; exact hz)
      exact ⟨b, w0, w1, w2.to (fun u e => by rw [upd_ne hne]; exact e) up⟩
  · obtain ⟨e, w⟩ := r.dom j b q
    have hj : 0 ≠ j := fun z => by subst z; rw [h0] at w; cases w
    exact ⟨e, by rw [List.getElem?_set_ne hj]; exact w⟩
  · obtain ⟨u, e⟩ := r.zt b z
    by_cases hb : b = a
    · subst hb; exact ⟨_, upd_same⟩
    · exact ⟨u, by rw [upd_ne hb]; exact e⟩
  · rcases set_get q with ⟨rfl, q0⟩ | ⟨h1, q0⟩
    · cases q0
      exact ⟨a, ⟨rfl, hs⟩, hσ, hz, dx, vs ++ [v], upd_same, by simp [hl], by rw [List.length_append, List.length_singleton]; omega, (rs.append (.cons rv .nil)).to up⟩
    · obtain ⟨b, w0, w1, w2, dx', vs', w3, w4, w5, w6⟩ := r.slf j c' fs' q0
      exact absurd w0.1.symm h1
theorem sI (g : Gs T G N n sc X) (tk : Takes X W) : ∀ (body : List S) {st : List Stmt}, chkI G N body sc st = true → PSs X st (tI T n X.w X.K body)
  | [], [], _ => PSs_imp pss_nil fun D σ H ⟨ρ, Z, O, rl, hh⟩ => hh σ H O rl .refl
  | [], _ :: _, h => by simp [chkI] at h
  | _ :: _, [], h => by simp [chkI] at h
  | s :: r, st :: rest, h => by
    simp only [chkI, Bool.and_eq_true] at h
    have ih := sI g tk r h.2
    by_cases hf : ∃ x e, s = .fld x e
    · obtain ⟨x, e, rfl⟩ := hf
      have h1 := h.1
      simp only [chkF] at h1
      split at h1
      · rename_i t ex p e1
        have := asAsg_some e1; subst this
        split at h1
        · rename_i y z e2
          obtain ⟨py, rfl⟩ := asAtt_some e2
          simp only [Bool.and_eq_true, decide_eq_true_eq] at h1
          obtain ⟨⟨rfl, h3⟩, h4⟩ := h1
          split at h3
          · rename_i w e3
            obtain ⟨pw, rfl⟩ := asName_some e3
            simp only [Bool.and_eq_true, decide_eq_true_eq, nodebug, Bool.not_eq_true'] at h3
            obtain ⟨⟨w1, w2⟩, w3, w4⟩ := h3
            have base : PE X (.Name w pw) (tVar 0) := pe_var (by rw [g.N]; exact w1) (by have := vis_of w2; rw [← g.sc] at this; exact this) w3 w4
            have hsw : swapsWith ex (some (.Attribute (.Name w pw) z py)) p.line X.env = pure false := by cases ex <;> rfl
            refine PSs_imp (pss_cons (ps_fld base (sE e h4 g.toGd tk).v hsw) ih) fun D σ H hh => ?_
            obtain ⟨ρ, Z, O, rl, hh⟩ := hh
            simp only [evI] at hh
            cases e0 : (ρ[(0 : Nat)]? : Option Sl) with
            | none => rw [e0] at hh; exact hh.elim
            | some sl =>
              rw [e0] at hh
              cases sl with
              | slf c fs =>
                simp only at hh
                refine ⟨ρ, Z, O, rl, ?_⟩
                cases ee : evE T (ev T n) ρ e with
                | bad => rw [ee] at hh; exact hh.elim
                | exc c' fs' => exact fun cls dd H' _ x => x.elim
                | ok d =>
                  rw [ee] at hh
                  simp only at hh
                  by_cases hc : noMut d = true ∧ c ∈ T.cls ∧ c.flds[fs.length]? = some z ∧ c.flds.length ≤ 100 ∧ c.flds.Nodup
                  · rw [if_pos hc] at hh
                    obtain ⟨c1, c2, c3, c4, c5⟩ := hc
                    intro v H1 p1
                    obtain ⟨Ok, r1, r2, r3, _⟩ := rl.kept p1
                    have hk : kept e d ρ = ρ := by unfold kept; rw [c1]; simp
                    rw [hk] at r1
                    have rl1 := r1.ext p1.1
                    obtain ⟨a, ⟨_, q0⟩, q1, q2, dx, vs, q3, q4, q5, q6⟩ := rl1.slf 0 c fs e0
                    have k := g.toGd.cs.cls c c2
                    have hz : z ∈ c.flds := List.mem_of_getElem? c3
                    have hlt : vs.length < c.flds.length := by rw [q4]; exact (List.getElem?_eq_some_iff.mp c3).1
                    refine ⟨.ref a, q1, a, _, dx, _, rfl, q3, k.cl, k.na z hz, by rw [List.length_zip]; omega, ?_⟩
                    rw [putF_zip (by rw [q4]; exact c3) c5]
                    refine ⟨_, Z, Ok, rl1.slfW e0 q0 q1 q2 q4 hlt q6 r3, WpR.mono hh (fun ρ' _ q σ' H' O' rl' k' => q σ' H' O' rl' ?_) fun _ _ z => z⟩
                    refine KI.trans ⟨fun b o e n1 n2 => ?_, fun b o e => ?_, fun i b e => .inl (r2 i b e)⟩ k'
                    · have hne : b ≠ a := fun z => n1 (by rw [q0, z])
                      rw [upd_ne hne]; exact p1.1 b o e
                    · by_cases hb : b = a
                      · subst hb; exact ⟨_, upd_same⟩
                      · exact ⟨o, by rw [upd_ne hb]; exact p1.1 b o e⟩
                  · rw [if_neg hc] at hh; exact hh.elim
              | _ => exact hh.elim
          · cases h3
        · cases h1
      · cases h1
    · have hs : chkSt G N s sc st = true := by
        have := h.1
        cases s <;> first | exact this | exact absurd ⟨_, _, rfl⟩ hf
      refine PSs_imp (pss_cons (sSt s hs g tk) ih) fun D σ H hh => ?_
      obtain ⟨ρ, Z, O, rl, hh⟩ := hh
      refine ⟨ρ, Z, O, rl, ?_⟩
      have he : evI T (ev T n) (s :: r) ρ = (match evS T (ev T n) s ρ with
        | .ok (.nx ρ') => evI T (ev T n) r ρ'
        | .exc c fs => .exc c fs
        | _ => .bad) := by
        cases s <;> first | rfl | exact absurd ⟨_, _, rfl⟩ hf
      rw [he] at hh
      cases hv : evS T (ev T n) s ρ with
      | bad => rw [hv] at hh; exact hh.elim
      | exc c fs => exact fun cls dd σ' H' _ x => x.elim
      | ok f =>
        rw [hv] at hh
        cases f with
        | nx ρ' =>
          intro σ' H' O' r' st'
          exact ⟨ρ', Z, O', r', WpR.mono hh (fun ρ'' _ q σ'' H'' O'' rl'' k => q σ'' H'' O'' rl'' ((KI.step st').trans k)) fun _ _ z => z⟩
        | _ => exact hh.elim
end
end Ev

set_option linter.all false
set_option autoImplicit false
set_option maxRecDepth 100000
set_option maxHeartbeats 8000000
/-! Functions; a law's end. -/
namespace Ev
open PySem PySem.Spec PyProof.Rows L2

/-- a def against its form in the small language -/
def chkFn (G : Nm) (fn : Fn) (N ps : List Str) (scope : Scope) (body : List Stmt) : Bool :=
  C8.scC N ps scope && decide (ps.length = fn.np) && decide (N.length = fn.nl) && fn.ini.isNone && chkSts G N fn.body scope body
/-- an initializer against its form -/
def chkFnI (G : Nm) (fn : Fn) (N ps : List Str) (scope : Scope) (body : List Stmt) : Bool :=
  C8.scC N ps scope && decide (ps.length = fn.np + 1) && decide (N.length = fn.nl) && chkI G N fn.body scope body
structure FnD (T : Tab) (G : Nm) (K : PySem.W.Frag) (mg : Str → Option Value) (f : Nat) (x : Str) : Prop where
  ex : ∃ (a : Addr) (fd : FuncData) (fn : Fn) (N ps : List Str) (nm qual : Str) (params : Arguments) (body : List Stmt) (scope : Scope),
    T.fn f = some fn ∧ mg x = some (.ref a) ∧ FunD K nm qual params body scope [] [] a fd ∧ Binds K fd ps [] ∧ chkFn G fn N ps scope body = true
structure Md (T : Tab) (G : Nm) (wd : World) (K : PySem.W.Frag) (mg : Str → Option Value) : Prop where
  fns : ∀ f x, G.fn f = some x → FnD T G K mg f x
  blt : ∀ x ∈ bltNames, mg x = none
  szo : G.sz = true → ∃ (f : Addr) (fd : FuncData) (nm qual : Str) (params : Arguments) (body : List Stmt) (scope : Scope), mg "size_order" = some (.ref f) ∧ FunD K nm qual params body scope [] [] f fd ∧ Binds K fd ["quorum"] [] ∧ szB scope body = true
  cls : ∀ c ∈ T.cls, ClsOk K mg c
  met : ∀ c ∈ T.cls, ∀ m f, T.meth c.name m = some f → ∃ (a : Addr) (fd : FuncData) (fn : Fn) (N ps : List Str) (nm qual : Str) (params : Arguments) (body : List Stmt) (scope : Scope),
    T.fn f = some fn ∧ PySem.W.findIn K (.ref (He.ga K c.name)) m = some (some (.ref a)) ∧ PySem.W.isFn K (.ref a) = true ∧ PySem.W.fnIn K a = true ∧ FunD K nm qual params body scope [] [] a fd ∧ Binds K fd ps [] ∧ chkFn G fn N ps scope body = true
  mks : ∀ f x, G.mkr f = some x → ∃ (c : Cl) (a : Addr) (fd : FuncData) (fn : Fn) (N ps : List Str) (nm qual : Str) (params : Arguments) (body : List Stmt) (scope : Scope),
    T.fn f = some fn ∧ fn.ini = some c ∧ c.name = x ∧ mg x = some (.ref (He.ga K x)) ∧ Mk K (He.ga K x) a ∧ FunD K nm qual params body scope [] [] a fd ∧ Binds K fd ps [] ∧ chkFnI G fn N ps scope body = true
  neq : ∀ c ∈ T.cls, ∀ k ∈ T.cls, PySem.W.notFirst K (He.ga K c.name) (.ref (He.ga K k.name)) = true
  kit : ∀ c ∈ T.cls, ∀ k ∈ T.cls, PySem.W.kitOne K (.ref (He.ga K c.name)) (.ref (He.ga K k.name)) = some (decide (c = k))
  globs : ∀ g x d, G.glob g = some x → T.glob g = some d → ∃ v u, mg x = some u ∧ RelV v u ∧ ∀ H A, Rep wd K H A v d

section
variable {T : Tab} {G : Nm} {P : Program} {wd : World} {K : PySem.W.Frag} {mg : Str → Option Value} {base : Heap}
theorem start_get {N : List Str} {vs : List V} {i : Nat} {v : V} (h : vs[i]? = some v) : (L2.start N vs)[i]? = some (some v) := by
  unfold L2.start
  have hl := (List.getElem?_eq_some_iff.mp h).1
  rw [List.getElem?_append_left (by rw [List.length_map]; exact hl), List.getElem?_map, h]; rfl
theorem startE_get {fn : Fn} {ds : List D} {i : Nat} {s : Sl} (h : (startE fn ds)[i]? = some s) : s = .no ∨ ∃ d, ds[i]? = some d ∧ s = .val d := by
  unfold startE at h
  by_cases hl : i < ds.length
  · rw [List.getElem?_append_left (by rw [List.length_map]; exact hl), List.getElem?_map] at h
    cases e : ds[i]? with
    | none => rw [e] at h; cases h
    | some d => rw [e] at h; cases h; exact .inr ⟨d, rfl, rfl⟩
  · rw [List.getElem?_append_right (by rw [List.length_map]; omega)] at h
    obtain ⟨_, h⟩ := List.getElem?_eq_some_iff.mp h
    rw [List.getElem_replicate] at h
    exact .inl h.symm
theorem ext_of_keep {M : List Nat} {H H' : Hp} (h : KeepR M (fun _ => none) H H') : Ext H H' := fun b o e => h.keep b o e fun i _ z => by cases z
theorem fn_zero {f : Nat} {a : Addr} {fd : FuncData} {fn : Fn} {N ps : List Str} {nm qual : Str} {params : Arguments} {body : List Stmt} {scope : Scope} (h1 : T.fn f = some fn) (h3 : FunD K nm qual params body scope [] [] a fd) (h5 : chkFn G fn N ps scope body = true) :
    FnOk P wd K mg base (L2.CX P wd) (4 * 0) a fd ps (spF T 0 f wd K) := by
  simp only [chkFn, Bool.and_eq_true, decide_eq_true_eq] at h5
  refine ⟨fun vs H Q E hs => ?_, fun A outer s H args us vs Q E hr e0 hb r hsp => ?_⟩
  · have := hs.1
    rw [this]; unfold npOf; rw [h1]; exact h5.1.1.1.2.symm
  · obtain ⟨_, ds, A, _, _, hw⟩ := hsp
    exact hw.elim
theorem fn_succ (m : Md T G wd K mg) {n : Nat} (ih : Fns T G n P wd K mg base) (ihc : Cs T G n P wd K mg base) {f : Nat} {a : Addr} {fd : FuncData} {fn : Fn} {N ps : List Str} {nm qual : Str} {params : Arguments} {body : List Stmt} {scope : Scope} (h1 : T.fn f = some fn) (h3 : FunD K nm qual params body scope [] [] a fd) (h5 : chkFn G fn N ps scope body = true) :
    FnOk P wd K mg base (L2.CX P wd) (4 * (n + 1)) a fd ps (spF T (n + 1) f wd K) := by
  simp only [chkFn, Bool.and_eq_true, decide_eq_true_eq] at h5
  obtain ⟨⟨⟨⟨h6, h7⟩, h8⟩, hi⟩, h9⟩ := h5
  have hi : fn.ini = none := by simpa using hi
  have S : FnScope N ps scope := C8.fnScope_by h6
  show FnOk P wd K mg base (L2.CX P wd) (4 * n + 3 + 1) a fd ps (spF T (n + 1) f wd K)
  refine h3.ok S (fun vs H Q E hs => ?_) fun cdv A outer s H vs Q E hr hs => ?_
  · rw [hs.1]; unfold npOf; rw [h1]; exact h7.symm
  · have g : Gs T G N n scope (cxOf (L2.CX P wd) P wd K mg base N qual scope a cdv A outer s H E) :=
      { N := rfl, nd := S.nd, sc := rfl, calm := rfl, room := hr, fns := ih, blt := m.blt, szo := m.szo, globs := m.globs, cs := ihc, fnx := fun _ => rfl, pass := passes_of rfl, knd := S.kind }
    have tk : Takes (cxOf (L2.CX P wd) P wd K mg base N qual scope a cdv A outer s H E) (fun cls d _ H => E cls d H) := takes_of rfl rfl rfl rfl
    refine ⟨_, sSts fn.body h9 g tk, ?_⟩
    obtain ⟨hl, ds, Av, tA, rs, hw⟩ := hs
    have hnp : npOf T f = fn.np := by unfold npOf; rw [h1]
    have hfr : frOf T f = fn.fr := by unfold frOf; rw [h1]
    rw [hnp] at hl
    rw [hfr] at hw
    have hd : ds.length = fn.np := by rw [← rs.length]; exact hl
    have np_nl : fn.np ≤ fn.nl := by
      rw [← h7, ← h8, ← S.pre, List.length_take]; omega
    simp only [ev, h1, hd, hi, if_true] at hw
    refine ⟨startE fn ds, ⟨Av, none⟩, fun _ => none, ⟨?_, fun i d h => ?_, fun i d h => ?_, (fun i a h => nomatch h), (fun i j a h => nomatch h), (fun i a h => nomatch h), tA, fun i c fs h => ?_⟩, ?_⟩
    · simp only [L2.start, startE, List.length_append, List.length_map, List.length_replicate, hl, hd, h8]
    · rcases startE_get h with z | ⟨d', e, z⟩
      · cases z
      · cases z
        obtain ⟨v, q1, q2⟩ := rs.get e
        exact ⟨v, start_get q1, q2.sub fun b z => by
          rcases z with z | ⟨_, _, z⟩
          · exact z
          · cases z⟩
    · rcases startE_get h with z | ⟨d', e, z⟩ <;> cases z
    · rcases startE_get h with z | ⟨d', e, z⟩ <;> cases z
    · cases he : evSs T (ev T n) fn.body (startE fn ds) with
      | bad => rw [he] at hw; exact hw.elim
      | exc c fs => rw [he] at hw; exact fun cls dd σ' H' q x => hw cls dd H' (ext_of_keep q) x
      | ok f =>
        rw [he] at hw
        cases f with
        | nx ρ' =>
          intro σ' H' O' _ st
          cases hf : fn.fr with
          | true => simp only [hf, if_true] at hw; exact hw.elim
          | false =>
            simp only [hf] at hw
            exact hw .non H' (ext_of_keep st.toKeepR) .non fun z => by cases z
        | brk ρ' => exact hw.elim
        | cont ρ' => exact hw.elim
        | ret d own =>
          intro v H' st r q
          cases hf : fn.fr && !own with
          | true => simp only [hf, if_true] at hw; exact hw.elim
          | false =>
            simp only [hf] at hw
            refine hw v H' (ext_of_keep st) r fun z => ?_
            have ho : own = true := by rw [z] at hf; simpa using hf
            obtain ⟨p, q1, q2, q3⟩ := q ho
            refine ⟨p, q1, ?_, q3⟩
            rcases q2 with ⟨i, q2⟩ | q2
            · cases q2
            · exact q2
theorem mk_zero {f : Nat} {a : Addr} {fd : FuncData} {fn : Fn} {N ps : List Str} {nm qual : Str} {params : Arguments} {body : List Stmt} {scope : Scope} (h1 : T.fn f = some fn) (h3 : FunD K nm qual params body scope [] [] a fd) (h5 : chkFnI G fn N ps scope body = true) :
    FnOk P wd K mg base (L2.CX P wd) (4 * 0) a fd ps (spI T 0 f wd K) := by
  simp only [chkFnI, Bool.and_eq_true, decide_eq_true_eq] at h5
  refine ⟨fun vs H Q E hs => ?_, fun A outer s H args us vs Q E hr e0 hb r hsp => ?_⟩
  · obtain ⟨x, dx, ws, c, fn', ds, A, rfl, q1, _, q2, _⟩ := hs
    rw [h1] at q1; cases q1
    rw [List.length_cons, q2]; exact h5.1.1.2.symm
  · obtain ⟨x, dx, ws, c, fn', ds, A, _, _, _, _, _, _, _, _, hw⟩ := hsp
    exact hw.elim
theorem mk_succ (m : Md T G wd K mg) {n : Nat} (ih : Fns T G n P wd K mg base) (ihc : Cs T G n P wd K mg base) {f : Nat} {a : Addr} {fd : FuncData} {fn : Fn} {N ps : List Str} {nm qual : Str} {params : Arguments} {body : List Stmt} {scope : Scope} (h1 : T.fn f = some fn) (h3 : FunD K nm qual params body scope [] [] a fd) (h5 : chkFnI G fn N ps scope body = true) :
    FnOk P wd K mg base (L2.CX P wd) (4 * (n + 1)) a fd ps (spI T (n + 1) f wd K) := by
  simp only [chkFnI, Bool.and_eq_true, decide_eq_true_eq] at h5
  obtain ⟨⟨⟨h6, h7⟩, h8⟩, h9⟩ := h5
  have S : FnScope N ps scope := C8.fnScope_by h6
  show FnOk P wd K mg base (L2.CX P wd) (4 * n + 3 + 1) a fd ps (spI T (n + 1) f wd K)
  refine h3.ok S (fun vs H Q E hs => ?_) fun cdv A outer s H vs Q E hr hs => ?_
  · obtain ⟨x, dx, ws, c, fn', ds, A, rfl, q1, _, q2, _⟩ := hs
    rw [h1] at q1; cases q1
    rw [List.length_cons, q2]; exact h7.symm
  · have g : Gs T G N n scope (cxOf (L2.CX P wd) P wd K mg base N qual scope a cdv A outer s H E) :=
      { N := rfl, nd := S.nd, sc := rfl, calm := rfl, room := hr, fns := ih, blt := m.blt, szo := m.szo, globs := m.globs, cs := ihc, fnx := fun _ => rfl, pass := passes_of rfl, knd := S.kind }
    have tk : Takes (cxOf (L2.CX P wd) P wd K mg base N qual scope a cdv A outer s H E) (fun cls d _ H => E cls d H) := takes_of rfl rfl rfl rfl
    refine ⟨_, sI g tk fn.body h9, ?_⟩
    obtain ⟨x, dx, ws, c, fn', ds, Av, rfl, q1, q2, q3, q4, tA, nA, rs, hw⟩ := hs
    rw [h1] at q1; cases q1
    have hd : ds.length = fn.np := by rw [← rs.length]; exact q3
    have np_nl : fn.np + 1 ≤ fn.nl := by
      rw [← h7, ← h8, ← S.pre, List.length_take]; omega
    simp only [ev, h1, hd, q2, if_true] at hw
    have tZ : Trk H (fun b => Av b ∨ b = x) := fun b z => by
      rcases z with z | z
      · exact tA b z
      · subst z; exact ⟨_, q4⟩
    have get : ∀ {i : Nat} {s : Sl}, (startI c fn ds)[i]? = some s → (i = 0 ∧ s = .slf c []) ∨ s = .no ∨ ∃ j d, i = j + 1 ∧ ds[j]? = some d ∧ s = .val d := fun {i s} h => by
      unfold startI at h
      cases i with
      | zero => simp at h; exact .inl ⟨rfl, h.symm⟩
      | succ j =>
        rw [List.getElem?_cons_succ] at h
        by_cases hl : j < ds.length
        · rw [List.getElem?_append_left (by rw [List.length_map]; exact hl), List.getElem?_map] at h
          cases e : ds[j]? with
          | none => rw [e] at h; cases h
          | some d => rw [e] at h; cases h; exact .inr (.inr ⟨j, d, rfl, e, rfl⟩)
        · rw [List.getElem?_append_right (by rw [List.length_map]; omega)] at h
          obtain ⟨_, h⟩ := List.getElem?_eq_some_iff.mp h
          rw [List.getElem_replicate] at h
          exact .inr (.inl h.symm)
    refine ⟨startI c fn ds, ⟨fun b => Av b ∨ b = x, some x⟩, fun _ => none, ⟨?_, fun i d h => ?_, fun i d h => ?_, (fun i a h => nomatch h), (fun i j a h => nomatch h), (fun i a h => nomatch h), tZ, fun i c' fs h => ?_⟩, ?_⟩
    · simp only [L2.start, startI, List.length_append, List.length_map, List.length_replicate, List.length_cons, q3, hd, h8]
      omega
    · rcases get h with ⟨_, z⟩ | z | ⟨j, d', rfl, e, z⟩
      · cases z
      · cases z
      · cases z
        obtain ⟨v, w1, w2⟩ := rs.get e
        exact ⟨v, start_get (by simpa using w1), w2.sub fun b z => by
          rcases z with z | ⟨_, _, z⟩
          · exact z
          · cases z⟩
    · rcases get h with ⟨_, z⟩ | z | ⟨j, d', rfl, e, z⟩ <;> cases z
    · rcases get h with ⟨rfl, z⟩ | z | ⟨j, d', rfl, e, z⟩
      · cases z
        refine ⟨x, ⟨rfl, rfl⟩, start_get (by simp), .inr rfl, dx, [], ?_, rfl, Nat.zero_le _, .nil⟩
        rw [q4, List.zip_nil_right]; rfl
      · cases z
      · cases z
    · cases he : evI T (ev T n) fn.body (startI c fn ds) with
      | bad => rw [he] at hw; exact hw.elim
      | exc c fs => trivial
      | ok ρ' =>
        rw [he] at hw
        simp only at hw
        intro σ' H' O' rl k
        cases e0 : (ρ'[(0 : Nat)]? : Option Sl) with
        | none => rw [e0] at hw; exact hw.elim
        | some sl =>
          rw [e0] at hw
          cases sl with
          | slf c' fs =>
            simp only at hw
            by_cases hc : c' = c ∧ fs.length = c.flds.length
            · rw [if_pos hc] at hw
              obtain ⟨rfl, hl⟩ := hc
              obtain ⟨a', ⟨_, z0⟩, z1, z2, dx', vs, z3, z4, z5, z6⟩ := rl.slf 0 c' fs e0
              cases z0
              refine hw H' (fun b o e n => k.keep b o e (fun z => n (Option.some.inj z).symm) fun i z => by cases z) (.ins z3 ⟨dx', rfl, by rw [z4, hl]⟩ nA (z6.sub fun b z => .inl (.inl z)))
            · rw [if_neg hc] at hw; exact hw.elim
          | _ => exact hw.elim
theorem all_lev (m : Md T G wd K mg) : ∀ n, Fns T G n P wd K mg base ∧ Cs T G n P wd K mg base
  | 0 => ⟨fun f x hx => by
    obtain ⟨a, fd, fn, N, ps, nm, qual, params, body, scope, h1, h2, h3, h4, h5⟩ := (m.fns f x hx).ex
    exact ⟨a, fd, ps, h2, h3.kp, h4, fn_zero h1 h3 h5⟩, ⟨m.cls, fun c hc mm f hm => by
    obtain ⟨a, fd, fn, N, ps, nm, qual, params, body, scope, h1, h2, h3, h4, h5, h6, h7⟩ := m.met c hc mm f hm
    exact ⟨a, fd, ps, h2, h3, h5.kp, h4, h6, fn_zero h1 h5 h7⟩, fun f x hx => by
    obtain ⟨c, a, fd, fn, N, ps, nm, qual, params, body, scope, h1, h2, h3, h4, h5, h6, h7, h8⟩ := m.mks f x hx
    exact ⟨c, fn, a, fd, ps, h1, h2, h3, h4, h5, h7, mk_zero h1 h6 h8⟩, m.neq, m.kit⟩⟩
  | n + 1 => ⟨fun f x hx => by
    obtain ⟨a, fd, fn, N, ps, nm, qual, params, body, scope, h1, h2, h3, h4, h5⟩ := (m.fns f x hx).ex
    exact ⟨a, fd, ps, h2, h3.kp, h4, fn_succ m (all_lev m n).1 (all_lev m n).2 h1 h3 h5⟩, ⟨m.cls, fun c hc mm f hm => by
    obtain ⟨a, fd, fn, N, ps, nm, qual, params, body, scope, h1, h2, h3, h4, h5, h6, h7⟩ := m.met c hc mm f hm
    exact ⟨a, fd, ps, h2, h3, h5.kp, h4, h6, fn_succ m (all_lev m n).1 (all_lev m n).2 h1 h5 h7⟩, fun f x hx => by
    obtain ⟨c, a, fd, fn, N, ps, nm, qual, params, body, scope, h1, h2, h3, h4, h5, h6, h7, h8⟩ := m.mks f x hx
    exact ⟨c, fn, a, fd, ps, h1, h2, h3, h4, h5, h7, mk_succ m (all_lev m n).1 (all_lev m n).2 h1 h6 h8⟩, m.neq, m.kit⟩⟩
theorem fn_lev (m : Md T G wd K mg) {f : Nat} {a : Addr} {fd : FuncData} {fn : Fn} {N ps : List Str} {nm qual : Str} {params : Arguments} {body : List Stmt} {scope : Scope} (h1 : T.fn f = some fn) (h3 : FunD K nm qual params body scope [] [] a fd) (h5 : chkFn G fn N ps scope body = true) :
    ∀ n, FnOk P wd K mg base (L2.CX P wd) (4 * n) a fd ps (spF T n f wd K)
  | 0 => fn_zero h1 h3 h5
  | n + 1 => fn_succ m (all_lev m n).1 (all_lev m n).2 h1 h3 h5
end
end Ev

set_option linter.all false
set_option autoImplicit false
set_option maxRecDepth 100000
set_option maxHeartbeats 8000000
/-! The head: what stands behind the top of the module. -/
namespace Ev
open PySem PySem.Spec PyProof.Rows L2

/-! ### constants of the module -/
mutual
def repB (K : PySem.W.Frag) : D → Value → Bool
  | .non, u => (match u with
    | .none => true
    | _ => false)
  | .bl b, u => (match u with
    | .bool c => b == c
    | _ => false)
  | .int i, u => (match u with
    | .int j _ => decide (i = j)
    | _ => false)
  | .str x, u => (match u with
    | .str y _ => decide (x = y)
    | _ => false)
  | .tup ds, u => (match u with
    | .ref a => (match K.lookup a with
      | some ⟨.type c, _, .seq its _, _⟩ => decide (c = "tuple") && (decide (its.size ≤ sizeLine) && repBs K ds its.toList)
      | _ => false)
    | _ => false)
  | _, _ => false
def repBs (K : PySem.W.Frag) : List D → List Value → Bool
  | [], [] => true
  | d :: ds, u :: us => repB K d u && repBs K ds us
  | _, _ => false
end
mutual
theorem repB_ok {wd : World} {K : PySem.W.Frag} : ∀ (d : D) (u : Value), repB K d u = true → ∃ v, RelV v u ∧ ∀ H A, Rep wd K H A v d
  | .non, u, h => by
    simp only [repB] at h
    split at h
    · exact ⟨.non, rfl, fun _ _ => .non⟩
    · cases h
  | .bl b, u, h => by
    simp only [repB] at h
    split at h
    · exact ⟨.bl b, by rw [eq_of_beq h]; rfl, fun _ _ => .bl b⟩
    · cases h
  | .int i, u, h => by
    simp only [repB] at h
    split at h
    · exact ⟨.int i, ⟨_, by rw [of_decide_eq_true h]⟩, fun _ _ => .int i⟩
    · cases h
  | .str x, u, h => by
    simp only [repB] at h
    split at h
    · exact ⟨.str x, ⟨_, by rw [of_decide_eq_true h]⟩, fun _ _ => .str x⟩
    · cases h
  | .tup ds, u, h => by
    simp only [repB] at h
    split at h
    · rename_i a
      split at h
      · rename_i c od its n sl e
        simp only [Bool.and_eq_true, decide_eq_true_eq] at h
        obtain ⟨h1, h2, h3⟩ := h
        obtain ⟨vs, q1, q2⟩ := repBs_ok (wd := wd) ds its.toList h3
        exact ⟨.ref a, rfl, fun H A => .tupK ⟨_, its, n, e, by rw [h1], rfl, h2, q1⟩ (q2 H A)⟩
      · cases h
    · cases h
  | .lst _, _, h => by simp [repB] at h
  | .scr _, _, h => by simp [repB] at h
  | .ins _ _, _, h => by simp [repB] at h
  | .dK _, _, h => by simp [repB] at h
  | .dN _, _, h => by simp [repB] at h
theorem repBs_ok {wd : World} {K : PySem.W.Frag} : ∀ (ds : List D) (us : List Value), repBs K ds us = true → ∃ vs, Vals vs us ∧ ∀ H A, Reps wd K H A vs ds
  | [], [], _ => ⟨[], .nil, fun _ _ => .nil⟩
  | d :: ds, u :: us, h => by
    simp only [repBs, Bool.and_eq_true] at h
    obtain ⟨v, q1, q2⟩ := repB_ok (wd := wd) d u h.1
    obtain ⟨vs, p1, p2⟩ := repBs_ok (wd := wd) ds us h.2
    exact ⟨v :: vs, .cons q1 p1, fun H A => .cons (q2 H A) (p2 H A)⟩
  | [], _ :: _, h => by simp [repBs] at h
  | _ :: _, [], h => by simp [repBs] at h
end
/-- constants of the module: id, name, data -/
structure CR where
  id : Nat
  x : Str
  d : D
def conB (cs : List CR) (K : PySem.W.Frag) : Bool := cs.all fun c => match PySem.W.nsIn K mainGlobals c.x with
  | some (some u) => repB K c.d u
  | _ => false

/-! ### the Hook -/
def obsX (n : Nat) (fa : List He.Fa) (fn : List He.DefD) (cs : List CR) (ex : PySem.W.Frag → Bool) (g : Addr → Option Obj) : He.AlD × Bool := (He.obsD fa fn (He.frG g (He.asD g n)), conB cs (He.frG g (He.asD g n)) && ex (He.frG g (He.asD g n)))
def hookX (n : Nat) (fa : List He.Fa) (fn : List He.DefD) (cs : List CR) (ex : PySem.W.Frag → Bool) : PySem.W.Hook where
  α := He.AlD × Bool
  obs := fun s => obsX n fa fn cs ex s.heap.get?
  val := fun _ => (He.valD fn, true)
  says := fun _ h => ∃ K : PySem.W.Frag, K.In h ∧ He.SaysD fa fn K ∧ (conB cs K && ex K) = true
  of := fun _ _ e => ⟨_, He.frG_in, congrArg Prod.fst e, congrArg Prod.snd e⟩
  keeps := fun _ _ _ ⟨K, hK, c⟩ k => ⟨K, PySem.W.Frag.In.keeps hK k, c⟩
theorem obsX_eq {n : Nat} {fa : List He.Fa} {fn : List He.DefD} {cs : List CR} {ex : PySem.W.Frag → Bool} {g : Addr → Option Obj} {s : Shared} (h : ∀ a, g a = s.heap.get? a) : obsX n fa fn cs ex g = (hookX n fa fn cs ex).obs s := by
  have e : g = s.heap.get? := funext h
  rw [e] <;> rfl

/-! ### functions of the module -/
structure FR where
  id : Nat
  x : Str
  fn : Fn
  st : Stmt
  N : List Str
  ps : List Str
  cl : Option Cl := none
  q : Str := x
def defArgs : Stmt → Arguments
  | .FunctionDef (args := a) .. => a
  | _ => ⟨[], [], none, [], [], none, []⟩
def defBody : Stmt → List Stmt
  | .FunctionDef (body := b) .. => b
  | _ => []
def defScope : Stmt → Scope
  | .FunctionDef (scope := s) .. => s
  | _ => ⟨.function, [], false, false, []⟩
/-- a def within a class -/
def inCls (s : Stmt) (j : Nat) : Stmt := match s with
  | .ClassDef (body := b) .. => b.getD j (.Pass ⟨0, 0, 0, 0⟩)
  | _ => s
def FR.at_ (r : FR) : Str × Option Str := match r.cl with
  | none => (r.x, none)
  | some c => (c.name, some r.x)
def FR.dd (r : FR) : He.DefD := ⟨r.at_, r.x, r.q, defArgs r.st, defBody r.st, defScope r.st, [], []⟩
/-- the def size_order -/
def isSzR (r : FR) : Bool := r.cl.isNone && decide (r.x = ("size_order" : Str)) && decide (r.ps = [("quorum" : Str)]) && szB (defScope r.st) (defBody r.st)
def isIni (r : FR) : Bool := r.cl.isSome && decide (r.x = ("__init__" : Str))
def metId (rows : List FR) (c m : Str) : Option Nat := (rows.find? fun r => match r.cl with
  | some k => decide (k.name = c) && decide (r.x = m) && !isIni r
  | none => false).map (·.id)
def gOf (rows : List FR) (cs : List CR) : Nm := { fn := fun i => (rows.find? (fun r => r.id == i)).bind fun r => if r.cl.isNone then some r.x else none, glob := fun i => (cs.find? (fun r => r.id == i)).map (·.x), sz := rows.any isSzR, mkr := fun i => (rows.find? (fun r => r.id == i)).bind fun r => if isIni r then r.cl.map (·.name) else none }
def tOf (rows : List FR) (cs : List CR) (wf : Nat) : Tab := { fn := fun i => (rows.find? (fun r => r.id == i)).map (·.fn), glob := fun i => (cs.find? (fun r => r.id == i)).map (·.d), wf := wf, cls := rows.filterMap (·.cl), meth := metId rows }
/-- a row of the table is right -/
structure OkFR (G : Nm) (r : FR) : Prop where
  chk : (if isIni r then chkFnI G r.fn r.N r.ps (defScope r.st) (defBody r.st) && decide (r.fn.ini = r.cl) else chkFn G r.fn r.N r.ps (defScope r.st) (defBody r.st)) = true
  bind : ∀ (K : PySem.W.Frag) (a : Addr) (fd : FuncData), FunD K r.x r.q (defArgs r.st) (defBody r.st) (defScope r.st) [] [] a fd → Binds K fd r.ps []
def AllOk (G : Nm) : List FR → Prop
  | [] => True
  | r :: rs => OkFR G r ∧ AllOk G rs
theorem AllOk.mem {G : Nm} : ∀ {rs : List FR} {r : FR}, AllOk G rs → r ∈ rs → OkFR G r
  | _ :: _, r, h, m => by
    rcases List.mem_cons.mp m with rfl | m
    · exact h.1
    · exact AllOk.mem h.2 m
def faOf (rows : List FR) : List He.Fa := (rows.filter (·.cl.isNone)).map (fun r => .glo r.x) ++ bltNames.map .free
/-- what is asked of a class -/
def clB (K : PySem.W.Frag) (c : Cl) : Bool := (He.Fa.cls c.name).ok K && c.flds.all (fun f => (He.Fa.noat c.name f).ok K) && He.eqO (PySem.W.findIn K (.ref (He.ga K c.name)) "__class__") (some (some (.builtin "object.__class__"))) &&
  He.eqO (PySem.W.specialIn K (.builtin "object.__class__") "__get__") (some (some (.builtin "getset_descriptor.__get__"))) && decide (PySem.W.takesIn K (.builtin "object.__class__") = some true) && decide (PySem.W.mroIn K (He.ga K c.name) (.type "object") = some true) &&
  (He.Fa.glo c.name).ok K && ["NoneType", "bool", "int", "str", "tuple", "list"].all fun t => decide (PySem.W.kitOne K (.type t) (.ref (He.ga K c.name)) = some false)
def clsB (rows : List FR) (K : PySem.W.Frag) : Bool := (rows.all fun r => match r.cl with
    | none => true
    | some c => clB K c && (if isIni r then (He.Fa.mkr c.name).ok K else (He.Fa.meth c.name r.x).ok K && PySem.W.fnIn K (He.ma K (He.ga K c.name) r.x))) &&
  (rows.filterMap (·.cl)).all fun c => (rows.filterMap (·.cl)).all fun k => PySem.W.notFirst K (He.ga K c.name) (.ref (He.ga K k.name)) && decide (PySem.W.kitOne K (.ref (He.ga K c.name)) (.ref (He.ga K k.name)) = some (decide (c = k)))
section
variable {rows : List FR} {cs : List CR} {wf : Nat} {K : PySem.W.Frag} {h : Heap} {mg : Str → Option Value} {wd : World}
theorem mem_glo (c : He.SaysD (faOf rows) (rows.map FR.dd) K) {r : FR} (m : r ∈ rows) (hc : r.cl = none) : (He.Fa.glo r.x).ok K = true := by
  have hm : He.Fa.glo r.x ∈ faOf rows := List.mem_append_left _ (List.mem_map.mpr ⟨r, List.mem_filter.mpr ⟨m, by simp [hc]⟩, rfl⟩)
  obtain ⟨i, hi⟩ := List.getElem?_of_mem hm
  exact c.fact i hi
theorem mem_free (c : He.SaysD (faOf rows) (rows.map FR.dd) K) {x : Str} (m : x ∈ bltNames) : (He.Fa.free x).ok K = true := by
  have hm : He.Fa.free x ∈ faOf rows := List.mem_append_right _ (List.mem_map.mpr ⟨x, m, rfl⟩)
  obtain ⟨i, hi⟩ := List.getElem?_of_mem hm
  exact c.fact i hi
theorem mem_def (c : He.SaysD (faOf rows) (rows.map FR.dd) K) {r : FR} (m : r ∈ rows) : ∃ fd, FunD K r.x r.q (defArgs r.st) (defBody r.st) (defScope r.st) [] [] (He.fAd K r.at_) fd := by
  have hm : r.dd ∈ rows.map FR.dd := List.mem_map.mpr ⟨r, m, rfl⟩
  obtain ⟨i, hi⟩ := List.getElem?_of_mem hm
  exact c.def_ i hi
theorem find_of {rows : List FR} (un : (rows.map (·.id)).Nodup) {r : FR} (m : r ∈ rows) : rows.find? (fun s => s.id == r.id) = some r := by
  induction rows with
  | nil => cases m
  | cons s rows ih =>
    rw [List.map_cons, List.nodup_cons] at un
    rcases List.mem_cons.mp m with rfl | m
    · rw [List.find?_cons_of_pos (by simp)]
    · have hne : ¬ (s.id == r.id) = true := fun z => un.1 (by
        rw [show s.id = r.id by simpa using z]
        exact List.mem_map.mpr ⟨r, m, rfl⟩)
      have h2 : (s.id == r.id) = false := by simpa using hne
      simp only [List.find?_cons, h2]
      exact ih un.2 m
theorem cl_of {c : Cl} (hc : c ∈ rows.filterMap (·.cl)) : ∃ r ∈ rows, r.cl = some c := by
  obtain ⟨r, h1, h2⟩ := List.mem_filterMap.mp hc
  exact ⟨r, h1, h2⟩
theorem md_of (X : K.In h) (Gn : h.Ns mainGlobals mg) (c : He.SaysD (faOf rows) (rows.map FR.dd) K) (cc : (conB cs K && clsB rows K) = true) (ok : AllOk (gOf rows cs) rows) (un : (rows.map (·.id)).Nodup) : Md (tOf rows cs wf) (gOf rows cs) wd K mg where
  cls := fun k hk => by
    obtain ⟨r, m, hr⟩ := cl_of hk
    have c2 := (Bool.and_eq_true_iff.mp (Bool.and_eq_true_iff.mp cc).2).1
    have := List.all_eq_true.mp c2 r m
    rw [hr] at this
    have := (Bool.and_eq_true_iff.mp this).1
    unfold clB at this
    simp only [Bool.and_eq_true, decide_eq_true_eq] at this
    obtain ⟨⟨⟨⟨⟨⟨⟨h1, h2⟩, h3⟩, h4⟩, h5⟩, h6⟩, h7⟩, h8⟩ := this
    exact ⟨He.cls_ok h1, fun x hx => He.noat_ok (List.all_eq_true.mp h2 x hx), He.eqO_ok h3, He.eqO_ok h4, h5, h6, He.glo_ok X Gn h7, fun t ht => of_decide_eq_true (List.all_eq_true.mp h8 t ht)⟩
  met := fun k hk mm f hf => by
    have hf : metId rows k.name mm = some f := hf
    unfold metId at hf
    cases hr : rows.find? (fun r => match r.cl with
      | some k' => decide (k'.name = k.name) && decide (r.x = mm) && !isIni r
      | none => false) with
    | none => rw [hr] at hf; cases hf
    | some r =>
      rw [hr] at hf
      cases hf
      have m := List.mem_of_find?_eq_some hr
      have p := List.find?_some hr
      cases hcl : r.cl with
      | none => rw [hcl] at p; cases p
      | some k' =>
        rw [hcl] at p
        simp only [Bool.and_eq_true, decide_eq_true_eq, Bool.not_eq_true'] at p
        obtain ⟨⟨p1, p2⟩, p3⟩ := p
        have c2 := (Bool.and_eq_true_iff.mp (Bool.and_eq_true_iff.mp cc).2).1
        have q := List.all_eq_true.mp c2 r m
        rw [hcl] at q
        have q := (Bool.and_eq_true_iff.mp q).2
        rw [if_neg (by rw [p3]; decide)] at q
        obtain ⟨q1, q2⟩ := Bool.and_eq_true_iff.mp q
        have mt := He.meth_ok q1
        obtain ⟨fd, F⟩ := mem_def c m
        have ea : He.fAd K r.at_ = He.ma K (He.ga K k'.name) r.x := by unfold FR.at_; rw [hcl]; rfl
        rw [ea] at F
        have o := ok.mem m
        have ch := o.chk
        rw [if_neg (by rw [p3]; decide)] at ch
        rw [p1] at mt q2 F
        rw [p2] at mt q2 F
        exact ⟨_, fd, r.fn, r.N, r.ps, _, _, _, _, _, by unfold tOf; simp only [find_of un m, Option.map_some], mt.at_, mt.fn, q2, F, o.bind K _ fd (by rw [p2]; exact F), ch⟩
  mks := fun f x hx => by
    unfold gOf at hx
    simp only at hx
    cases hr : rows.find? (fun r => r.id == f) with
    | none => rw [hr] at hx; cases hx
    | some r =>
      rw [hr] at hx
      have m := List.mem_of_find?_eq_some hr
      by_cases hi : isIni r = true
      · simp only [Option.bind_some, hi, if_true] at hx
        cases hcl : r.cl with
        | none => rw [hcl] at hx; cases hx
        | some k =>
          rw [hcl] at hx
          cases hx
          have hx : r.x = "__init__" := by
            unfold isIni at hi
            simp only [Bool.and_eq_true, decide_eq_true_eq] at hi
            exact hi.2
          have c2 := (Bool.and_eq_true_iff.mp (Bool.and_eq_true_iff.mp cc).2).1
          have q := List.all_eq_true.mp c2 r m
          rw [hcl] at q
          have q0 := (Bool.and_eq_true_iff.mp q).1
          have q := (Bool.and_eq_true_iff.mp q).2
          rw [if_pos hi] at q
          unfold clB at q0
          simp only [Bool.and_eq_true, decide_eq_true_eq] at q0
          obtain ⟨fd, F⟩ := mem_def c m
          have ea : He.fAd K r.at_ = He.ma K (He.ga K k.name) "__init__" := by unfold FR.at_; rw [hcl, hx]; rfl
          rw [ea] at F
          have o := ok.mem m
          have ch := o.chk
          rw [if_pos hi] at ch
          obtain ⟨ch, ci⟩ := Bool.and_eq_true_iff.mp ch
          exact ⟨k, _, fd, r.fn, r.N, r.ps, _, _, _, _, _, by unfold tOf; simp only [hr, Option.map_some], by rw [of_decide_eq_true ci, hcl], rfl, He.glo_ok X Gn q0.1.2, He.mkr_ok q, F, o.bind K _ fd F, ch⟩
      · simp only [Option.bind_some, hi] at hx; cases hx
  neq := fun k hk k' hk' => by
    have c2 := (Bool.and_eq_true_iff.mp (Bool.and_eq_true_iff.mp cc).2).2
    exact (Bool.and_eq_true_iff.mp (List.all_eq_true.mp (List.all_eq_true.mp c2 k hk) k' hk')).1
  kit := fun k hk k' hk' => by
    have c2 := (Bool.and_eq_true_iff.mp (Bool.and_eq_true_iff.mp cc).2).2
    exact of_decide_eq_true (Bool.and_eq_true_iff.mp (List.all_eq_true.mp (List.all_eq_true.mp c2 k hk) k' hk')).2
  fns := fun f x hx => by
    unfold gOf at hx
    simp only at hx
    cases hr : rows.find? (fun r => r.id == f) with
    | none => rw [hr] at hx; cases hx
    | some r =>
      rw [hr] at hx
      have m := List.mem_of_find?_eq_some hr
      cases hcl : r.cl with
      | some k => simp [hcl] at hx
      | none =>
        simp only [Option.bind_some, hcl, Option.isNone_none, if_true] at hx
        cases hx
        obtain ⟨fd, F⟩ := mem_def c m
        have ea : He.fAd K r.at_ = He.ga K r.x := by unfold FR.at_; rw [hcl]; rfl
        rw [ea] at F
        have o := ok.mem m
        have ch := o.chk
        rw [if_neg (by unfold isIni; rw [hcl]; simp)] at ch
        refine ⟨He.ga K r.x, fd, r.fn, r.N, r.ps, _, _, _, _, _, ?_, He.glo_ok X Gn (mem_glo c m hcl), F, o.bind K _ fd F, ch⟩
        unfold tOf
        simp only [hr, Option.map_some]
  blt := fun x m => He.free_ok X Gn (mem_free c m)
  szo := fun hz => by
    obtain ⟨r, m, hr⟩ := List.any_eq_true.mp (show rows.any isSzR = true from hz)
    simp only [isSzR, Bool.and_eq_true, decide_eq_true_eq] at hr
    obtain ⟨⟨⟨e0, e1⟩, e2⟩, e3⟩ := hr
    have hcl : r.cl = none := by simpa using e0
    obtain ⟨fd, F⟩ := mem_def c m
    have ea : He.fAd K r.at_ = He.ga K r.x := by unfold FR.at_; rw [hcl]; rfl
    rw [ea] at F
    have o := ok.mem m
    have b := o.bind K _ fd F
    rw [e2] at b
    have gl := He.glo_ok X Gn (mem_glo c m hcl)
    rw [e1] at gl
    rw [e1] at F
    exact ⟨_, fd, _, _, _, _, _, gl, F, b, e3⟩
  globs := fun g x d hx hd => by
    unfold gOf at hx
    unfold tOf at hd
    simp only at hx hd
    cases hr : cs.find? (fun r => r.id == g) with
    | none => rw [hr] at hx; cases hx
    | some r =>
      rw [hr] at hx hd
      cases hx; cases hd
      have m := List.mem_of_find?_eq_some hr
      have cc := (Bool.and_eq_true_iff.mp cc).1
      unfold conB at cc
      have := List.all_eq_true.mp cc r m
      cases e : PySem.W.nsIn K mainGlobals r.x with
      | none => rw [e] at this; cases this
      | some o =>
        rw [e] at this
        cases o with
        | none => cases this
        | some u =>
          obtain ⟨v, q1, q2⟩ := repB_ok (wd := wd) r.d u this
          exact ⟨v, u, PySem.W.mg_of X Gn e, q1, q2⟩
/-- what may be let out, whatever the world -/
def CXa (P : Program) : CXT := fun outer H s E u s' => ∃ w, L2.CX P w outer H s E u s'
theorem cxa_ok {P : Program} {w : World} {base : Heap} {k : Nat} {f : Addr} {fd : FuncData} {ps : List Str} {sp : Sp} (F : FnOk P w K mg base (L2.CX P w) k f fd ps sp) : FnOk P w K mg base (CXa P) k f fd ps sp :=
  ⟨F.len, fun A outer s H args us vs Q E hr e0 hb r h => codeAny_mono (F.run A outer s H args us vs Q E hr e0 hb r h) fun r s' q => by
    cases r with
    | ok fl => cases fl <;> exact q
    | error e => exact ⟨w, q⟩⟩
theorem cxa_no {P : Program} (H : Hp) (s : Shared) (e : Value) (s' : Shared) (z : CXa P [] H s (fun _ _ _ => False) e s') : False := by
  obtain ⟨w, _, _, _, _, _, _, _, _, _, _, _, _, z⟩ := z
  exact z
/-- the law's promise -/
theorem law_facts {P : Program} {w : World} {n f : Nat} {r : FR} {x : Str} {fa : Addr} (X : K.In h) (Gn : h.Ns mainGlobals mg) (c : He.SaysD (faOf rows) (rows.map FR.dd) K) (cc : (conB cs K && clsB rows K) = true) (ok : AllOk (gOf rows cs) rows) (un : (rows.map (·.id)).Nodup)
    (hr : rows.find? (fun r => r.id == f) = some r) (hcl : r.cl = none) (hps : r.ps = [x]) (hfa : mg r.x = some (.ref fa))
    (hA : ∀ (K : PySem.W.Frag) (a : Addr) (fd : FuncData), FunD K r.x r.q (defArgs r.st) (defBody r.st) (defScope r.st) [] [] a fd → ∀ (s : Shared) (v : Value), BindsTo s fd ⟨[v], []⟩ [(x, v)])
    (hv : ∀ ns : List Int, ns.length ≤ 63 → ev (tOf rows cs wf) n f [.scr (ns.map .int)] = .ok (.bl true)) :
    ∃ fd : FuncData, (∀ (s : Shared) (v : Value), BindsTo s fd ⟨[v], []⟩ [(x, v)]) ∧
      (∀ (H : Hp) (a : Addr) (ns : List Int), ns.length ≤ 63 → Only H → SqL K H a (ns.map V.int) → spF (tOf rows cs wf) n f w K [.ref a] H (fun v _ => v = .bl true) fun _ _ _ => False) ∧
      ∀ base : Heap, K.In base → base.Ns mainGlobals mg → FnOk P w K mg base (CXa P) (4 * n) fa fd [x] (spF (tOf rows cs wf) n f w K) := by
  have m := List.mem_of_find?_eq_some hr
  have md : Md (tOf rows cs wf) (gOf rows cs) w K mg := md_of X Gn c cc ok un
  have tf : (tOf rows cs wf).fn f = some r.fn := by unfold tOf; simp only [hr, Option.map_some]
  obtain ⟨fd, F⟩ := mem_def c m
  have ea : He.fAd K r.at_ = He.ga K r.x := by unfold FR.at_; rw [hcl]; rfl
  rw [ea] at F
  have e := hfa.symm.trans (He.glo_ok X Gn (mem_glo c m hcl))
  cases e
  have ch := (ok.mem m).chk
  rw [if_neg (by unfold isIni; rw [hcl]; simp)] at ch
  have o := ch
  simp only [chkFn, Bool.and_eq_true, decide_eq_true_eq] at o
  refine ⟨fd, hA K _ fd F, fun H a ns hl _ hS => ?_, fun base X2 G2 => ?_⟩
  · refine ⟨by unfold npOf; rw [tf]; show 1 = r.fn.np; rw [← o.1.1.1.2, hps]; rfl, [.scr (ns.map .int)], fun _ => False, fun b z => z.elim, .cons ?_ .nil, ?_⟩
    · have ri : ∀ ns : List Int, Reps w K H (fun _ => False) (ns.map V.int) (ns.map D.int) := by
        intro ns
        induction ns with
        | nil => exact .nil
        | cons i is ih => exact .cons (.int i) ih
      rcases hS with hS | hS
      · exact .scr hS (fun z => z) (ri ns)
      · exact .scrK hS (ri ns)
    · rw [hv ns hl]
      intro v H' _ rv _
      cases rv; rfl
  · have := fn_lev (P := P) (base := base) md tf F ch n
    rw [hps] at this
    exact cxa_ok this
end
end Ev

set_option linter.all false
set_option autoImplicit false
/-! Plain laws: what the evaluator's pieces do, for rewriting. -/
namespace Ev
open PySem

/-! ### clean data: no truth values, no depth beyond 60; == is equality there -/
mutual
def clean : Nat → D → Bool
  | _, .non => true
  | _, .int _ => true
  | _, .str x => PyData.strOk x
  | n + 1, .tup ds => cleans n ds
  | n + 1, .lst ds => cleans n ds
  | _, _ => false
def cleans : Nat → List D → Bool
  | _, [] => true
  | n, d :: ds => clean n d && cleans n ds
end
mutual
def sameD : D → D → Bool
  | .non, .non => true
  | .int i, .int j => decide (i = j)
  | .str x, .str y => decide (x = y)
  | .tup a, .tup b => sameDs a b
  | .lst a, .lst b => sameDs a b
  | _, _ => false
def sameDs : List D → List D → Bool
  | [], [] => true
  | a :: as, b :: bs => sameD a b && sameDs as bs
  | _, _ => false
end
mutual
theorem clean_py : ∀ (n : Nat) (d : D), clean n d = true → ∃ p, py d = some p ∧ PyData.canLay0 p = true ∧ PyData.depth p ≤ n
  | n, .non, _ => ⟨.none, rfl, by simp [PyData.canLay0], by simp [PyData.depth]⟩
  | n, .int i, _ => ⟨.int i, rfl, by simp [PyData.canLay0], by simp [PyData.depth]⟩
  | n, .str x, h => ⟨.str x, rfl, by simpa [PyData.canLay0, clean] using h, by simp [PyData.depth]⟩
  | n + 1, .tup ds, h => by
    simp only [clean] at h
    obtain ⟨p, h1, h2, h3⟩ := cleans_py n ds h
    exact ⟨.tuple p, by simp [py, h1], by simpa [PyData.canLay0] using h2, by simp [PyData.depth]; omega⟩
  | n + 1, .lst ds, h => by
    simp only [clean] at h
    obtain ⟨p, h1, h2, h3⟩ := cleans_py n ds h
    exact ⟨.list p, by simp [py, h1], by simpa [PyData.canLay0] using h2, by simp [PyData.depth]; omega⟩
  | 0, .tup ds, h => by simp [clean] at h
  | 0, .lst ds, h => by simp [clean] at h
  | n, .bl b, h => by cases n <;> simp [clean] at h
  | n, .scr _, h => by cases n <;> simp [clean] at h
  | n, .ins _ _, h => by cases n <;> simp [clean] at h
  | n, .dK _, h => by cases n <;> simp [clean] at h
  | n, .dN _, h => by cases n <;> simp [clean] at h
theorem cleans_py : ∀ (n : Nat) (ds : List D), cleans n ds = true → ∃ p, pys ds = some p ∧ PyData.canLayAll0 p = true ∧ PyData.depthAll p ≤ n
  | n, [], _ => ⟨[], rfl, by simp [PyData.canLayAll0], by simp [PyData.depthAll]⟩
  | n, d :: ds, h => by
    simp only [cleans, Bool.and_eq_true] at h
    obtain ⟨p, h1, h2, h3⟩ := clean_py n d h.1
    obtain ⟨ps, q1, q2, q3⟩ := cleans_py n ds h.2
    exact ⟨p :: ps, by simp [pys, h1, q1], by simp [PyData.canLayAll0, h2, q2], by simp [PyData.depthAll]; omega⟩
end
mutual
theorem eqv_same : ∀ (n : Nat) (d e : D) (p q : PyData), clean n d = true → clean n e = true → py d = some p → py e = some q → PyData.eqv p q = sameD d e
  | n, .non, e, p, q, hd, he, h1, h2 => by
    cases h1
    cases e <;> simp [py] at h2 <;> (try (obtain ⟨a, _, rfl⟩ := h2)) <;> (try subst h2) <;> simp [PyData.eqv, sameD] <;> (cases n <;> simp [clean] at he)
  | n, .int i, e, p, q, hd, he, h1, h2 => by
    cases h1
    cases e with
    | non => cases h2; simp [PyData.eqv, sameD]
    | int j => cases h2; simp only [PyData.eqv, sameD]; first | done | (rw [Bool.eq_iff_iff]; simp)
    | str j => cases h2; simp only [PyData.eqv, sameD]; first | done | (rw [Bool.eq_iff_iff]; simp)
    | tup es =>
      cases e1 : pys es with
      | none => simp [py, e1] at h2
      | some qs => simp [py, e1] at h2; subst h2; simp [PyData.eqv, sameD]
    | lst es =>
      cases e1 : pys es with
      | none => simp [py, e1] at h2
      | some qs => simp [py, e1] at h2; subst h2; simp [PyData.eqv, sameD]
    | _ => cases n <;> simp [clean] at he
  | n, .str i, e, p, q, hd, he, h1, h2 => by
    cases h1
    cases e with
    | non => cases h2; simp [PyData.eqv, sameD]
    | int j => cases h2; simp only [PyData.eqv, sameD]; first | done | (rw [Bool.eq_iff_iff]; simp)
    | str j => cases h2; simp only [PyData.eqv, sameD]; first | done | (rw [Bool.eq_iff_iff]; simp)
    | tup es =>
      cases e1 : pys es with
      | none => simp [py, e1] at h2
      | some qs => simp [py, e1] at h2; subst h2; simp [PyData.eqv, sameD]
    | lst es =>
      cases e1 : pys es with
      | none => simp [py, e1] at h2
      | some qs => simp [py, e1] at h2; subst h2; simp [PyData.eqv, sameD]
    | _ => cases n <;> simp [clean] at he
  | n + 1, .tup ds, e, p, q, hd, he, h1, h2 => by
    simp only [clean] at hd
    obtain ⟨ps, e1, _⟩ := cleans_py n ds hd
    simp [py, e1] at h1; subst h1
    cases e with
    | tup es =>
      simp only [clean] at he
      obtain ⟨qs, e2, _⟩ := cleans_py n es he
      simp [py, e2] at h2; subst h2
      simp only [PyData.eqv, sameD]
      exact eqvs_same n ds es ps qs hd he e1 e2
    | lst es =>
      simp only [clean] at he
      obtain ⟨qs, e2, _⟩ := cleans_py n es he
      simp [py, e2] at h2; subst h2
      simp [PyData.eqv, sameD]
    | non => cases h2; simp [PyData.eqv, sameD]
    | int i => cases h2; simp [PyData.eqv, sameD]
    | str i => cases h2; simp [PyData.eqv, sameD]
    | _ => simp [clean] at he
  | n + 1, .lst ds, e, p, q, hd, he, h1, h2 => by
    simp only [clean] at hd
    obtain ⟨ps, e1, _⟩ := cleans_py n ds hd
    simp [py, e1] at h1; subst h1
    cases e with
    | lst es =>
      simp only [clean] at he
      obtain ⟨qs, e2, _⟩ := cleans_py n es he
      simp [py, e2] at h2; subst h2
      simp only [PyData.eqv, sameD]
      exact eqvs_same n ds es ps qs hd he e1 e2
    | tup es =>
      simp only [clean] at he
      obtain ⟨qs, e2, _⟩ := cleans_py n es he
      simp [py, e2] at h2; subst h2
      simp [PyData.eqv, sameD]
    | non => cases h2; simp [PyData.eqv, sameD]
    | int i => cases h2; simp [PyData.eqv, sameD]
    | str i => cases h2; simp [PyData.eqv, sameD]
    | _ => simp [clean] at he
  | 0, .tup ds, e, p, q, h, _, _, _ => by simp [clean] at h
  | 0, .lst ds, e, p, q, h, _, _, _ => by simp [clean] at h
  | n, .bl b, e, p, q, h, _, _, _ => by cases n <;> simp [clean] at h
  | n, .scr _, e, p, q, h, _, _, _ => by cases n <;> simp [clean] at h
  | n, .ins _ _, e, p, q, h, _, _, _ => by cases n <;> simp [clean] at h
  | n, .dK _, e, p, q, h, _, _, _ => by cases n <;> simp [clean] at h
  | n, .dN _, e, p, q, h, _, _, _ => by cases n <;> simp [clean] at h
theorem eqvs_same : ∀ (n : Nat) (ds es : List D) (ps qs : List PyData), cleans n ds = true → cleans n es = true → pys ds = some ps → pys es = some qs → PyData.eqvAll ps qs = sameDs ds es
  | n, [], [], ps, qs, _, _, h1, h2 => by cases h1; cases h2; simp [PyData.eqvAll, sameDs]
  | n, [], e :: es, ps, qs, _, he, h1, h2 => by
    obtain ⟨q', e1, _⟩ := cleans_py n _ he
    rw [e1] at h2; cases h2
    cases h1
    cases qs with
    | nil => simp [pys] at e1; split at e1 <;> cases e1
    | cons => simp [PyData.eqvAll, sameDs]
  | n, d :: ds, [], ps, qs, hd, _, h1, h2 => by
    obtain ⟨q', e1, _⟩ := cleans_py n _ hd
    rw [e1] at h1; cases h1
    cases h2
    cases ps with
    | nil => simp [pys] at e1; split at e1 <;> cases e1
    | cons => simp [PyData.eqvAll, sameDs]
  | n, d :: ds, e :: es, ps, qs, hd, he, h1, h2 => by
    simp only [cleans, Bool.and_eq_true] at hd he
    obtain ⟨a, a1, _⟩ := clean_py n d hd.1
    obtain ⟨as, b1, _⟩ := cleans_py n ds hd.2
    obtain ⟨a', a1', _⟩ := clean_py n e he.1
    obtain ⟨as', b1', _⟩ := cleans_py n es he.2
    simp [pys, a1, b1] at h1; subst h1
    simp [pys, a1', b1'] at h2; subst h2
    simp only [PyData.eqvAll, sameDs]
    rw [eqv_same n d e a a' hd.1 he.1 a1 a1', eqvs_same n ds es as as' hd.2 he.2 b1 b1']
end
theorem eqD_clean {d e : D} (hd : clean 60 d = true) (he : clean 60 e = true) : eqD d e = .ok (sameD d e) := by
  obtain ⟨p, h1, h2, h3⟩ := clean_py 60 d hd
  obtain ⟨q, g1, g2, g3⟩ := clean_py 60 e he
  have s1 : SeqAt.shaped p = true := by simp [SeqAt.shaped, h2]; omega
  have s2 : SeqAt.shaped q = true := by simp [SeqAt.shaped, g2]; omega
  unfold eqD
  simp only [h1, g1, s1, s2, Bool.and_self, if_true]
  rw [eqv_same 60 d e p q hd he h1 g1]
theorem inD_clean {d : D} {ds : List D} (hd : clean 59 d = true) (he : cleans 59 ds = true) : inD d ds = .ok (ds.any fun z => sameD z d) := by
  obtain ⟨p, h1, h2, h3⟩ := clean_py 59 d hd
  obtain ⟨q, g1, g2, g3⟩ := cleans_py 59 ds he
  have s1 : SeqAt.shaped p = true := by simp [SeqAt.shaped, h2]; omega
  have s2 : SeqAt.shaped (.list q) = true := by simp [SeqAt.shaped, PyData.canLay0, PyData.depth, g2]; omega
  unfold inD
  simp only [h1, g1, s1, s2, Bool.and_self, if_true]
  congr 1
  clear s2 g2 g3
  induction ds generalizing q with
  | nil => cases g1; rfl
  | cons e es ih =>
    simp only [cleans, Bool.and_eq_true] at he
    obtain ⟨a, a1, _⟩ := clean_py 59 e he.1
    obtain ⟨as, b1, _⟩ := cleans_py 59 es he.2
    simp [pys, a1, b1] at g1; subst g1
    simp only [List.any_cons]
    rw [eqv_same 59 e d a p he.1 hd a1 h1, ih he.2 as b1]
end Ev

set_option linter.all false
set_option autoImplicit false
/-! Plain laws: expressions, statements, loops. -/
namespace Ev
open PySem

/-! ### data -/
mutual
theorem sameD_to : ∀ {d e : D}, sameD d e = true → d = e
  | .non, e, h => by cases e <;> simp [sameD] at h; rfl
  | .int i, e, h => by cases e <;> simp [sameD] at h; rw [h]
  | .str i, e, h => by cases e <;> simp [sameD] at h; rw [h]
  | .tup a, e, h => by
    cases e <;> simp [sameD] at h
    rw [sameDs_to h]
  | .lst a, e, h => by
    cases e <;> simp [sameD] at h
    rw [sameDs_to h]
  | .bl b, e, h => by simp [sameD] at h
  | .scr _, e, h => by simp [sameD] at h
  | .ins _ _, e, h => by simp [sameD] at h
  | .dK _, e, h => by simp [sameD] at h
  | .dN _, e, h => by simp [sameD] at h
theorem sameDs_to : ∀ {ds es : List D}, sameDs ds es = true → ds = es
  | [], [], _ => rfl
  | d :: ds, e :: es, h => by
    simp only [sameDs, Bool.and_eq_true] at h
    rw [sameD_to h.1, sameDs_to h.2]
  | [], _ :: _, h => by simp [sameDs] at h
  | _ :: _, [], h => by simp [sameDs] at h
end
mutual
theorem sameD_self : ∀ {n : Nat} {d : D}, clean n d = true → sameD d d = true
  | n, .non, h => rfl
  | n, .int i, h => by simp [sameD]
  | n, .str i, h => by simp [sameD]
  | n + 1, .tup a, h => by simp only [clean] at h; simp only [sameD]; exact sameDs_self h
  | n + 1, .lst a, h => by simp only [clean] at h; simp only [sameD]; exact sameDs_self h
  | 0, .tup _, h => by simp [clean] at h
  | 0, .lst _, h => by simp [clean] at h
  | n, .bl b, h => by cases n <;> simp [clean] at h
  | n, .scr _, h => by cases n <;> simp [clean] at h
  | n, .ins _ _, h => by cases n <;> simp [clean] at h
  | n, .dK _, h => by cases n <;> simp [clean] at h
  | n, .dN _, h => by cases n <;> simp [clean] at h
theorem sameDs_self : ∀ {n : Nat} {ds : List D}, cleans n ds = true → sameDs ds ds = true
  | n, [], h => rfl
  | n, d :: ds, h => by
    simp only [cleans, Bool.and_eq_true] at h
    simp only [sameDs, Bool.and_eq_true]
    exact ⟨sameD_self h.1, sameDs_self h.2⟩
end
theorem sameD_iff {n : Nat} {d e : D} (h : clean n d = true) : sameD d e = true ↔ d = e := ⟨sameD_to, fun z => by subst z; exact sameD_self h⟩
/-- encodings of plain data that are clean and say all -/
structure Enc {α : Type} (enc : α → D) : Prop where
  cl : ∀ a, clean 10 (enc a) = true
  inj : ∀ a b, enc a = enc b → a = b
mutual
theorem clean_mono : ∀ {n m : Nat} {d : D}, clean n d = true → n ≤ m → clean m d = true
  | n, m, .non, h, l => by cases m <;> rfl
  | n, m, .int i, h, l => by cases m <;> rfl
  | n, m, .str i, h, l => by
    have h2 : PyData.strOk i = true := by cases n <;> exact h
    cases m <;> exact h2
  | n + 1, m, .tup a, h, l => by
    cases m with
    | zero => omega
    | succ m => simp only [clean] at h ⊢; exact cleans_mono h (by omega)
  | n + 1, m, .lst a, h, l => by
    cases m with
    | zero => omega
    | succ m => simp only [clean] at h ⊢; exact cleans_mono h (by omega)
  | 0, m, .tup _, h, l => by simp [clean] at h
  | 0, m, .lst _, h, l => by simp [clean] at h
  | n, m, .bl b, h, l => by cases n <;> simp [clean] at h
  | n, m, .scr _, h, l => by cases n <;> simp [clean] at h
  | n, m, .ins _ _, h, l => by cases n <;> simp [clean] at h
  | n, m, .dK _, h, l => by cases n <;> simp [clean] at h
  | n, m, .dN _, h, l => by cases n <;> simp [clean] at h
theorem cleans_mono : ∀ {n m : Nat} {ds : List D}, cleans n ds = true → n ≤ m → cleans m ds = true
  | n, m, [], h, l => by cases m <;> rfl
  | n, m, d :: ds, h, l => by
    simp only [cleans, Bool.and_eq_true] at h ⊢
    exact ⟨clean_mono h.1 l, cleans_mono h.2 l⟩
end
theorem cleans_map {α : Type} {enc : α → D} {n : Nat} : ∀ {xs : List α}, (∀ a ∈ xs, clean n (enc a) = true) → cleans n (xs.map enc) = true
  | [], _ => by simp [cleans]
  | x :: xs, h => by
    simp only [List.map_cons, cleans, Bool.and_eq_true]
    exact ⟨h x List.mem_cons_self, cleans_map fun a ha => h a (List.mem_cons_of_mem _ ha)⟩
section
variable {α β : Type} {ea : α → D} {eb : β → D} [DecidableEq α] [DecidableEq β]
theorem sameD_enc (E : Enc ea) (a b : α) : sameD (ea a) (ea b) = decide (a = b) := by
  rw [Bool.eq_iff_iff, sameD_iff (E.cl a), decide_eq_true_iff]
  exact ⟨E.inj a b, fun z => by rw [z]⟩
theorem eqD_enc (E : Enc ea) (a b : α) : eqD (ea a) (ea b) = .ok (decide (a = b)) := by
  rw [eqD_clean (clean_mono (E.cl a) (by decide)) (clean_mono (E.cl b) (by decide)), sameD_enc E]
theorem inD_enc (E : Enc ea) (a : α) (xs : List α) : inD (ea a) (xs.map ea) = .ok (decide (a ∈ xs)) := by
  rw [inD_clean (clean_mono (E.cl a) (by decide)) (cleans_map fun b _ => clean_mono (E.cl b) (by decide))]
  congr 1
  rw [List.any_map, Bool.eq_iff_iff, List.any_eq_true, decide_eq_true_iff]
  constructor
  · rintro ⟨x, h1, h2⟩
    simp only [Function.comp_apply, sameD_enc E, decide_eq_true_iff] at h2
    rw [← h2]; exact h1
  · intro h
    exact ⟨a, h, by simp only [Function.comp_apply, sameD_enc E]; simp⟩
end
theorem enc_int : Enc D.int := ⟨fun a => rfl, fun a b h => by cases h; rfl⟩
abbrev ti (xs : List Int) : D := .tup (xs.map .int)
abbrev li (xs : List Int) : D := .lst (xs.map .int)
theorem map_inj {α : Type} {e : α → D} (h : ∀ a b, e a = e b → a = b) : ∀ {xs ys : List α}, xs.map e = ys.map e → xs = ys
  | [], [], _ => rfl
  | [], _ :: _, z => by simp at z
  | _ :: _, [], z => by simp at z
  | x :: xs, y :: ys, z => by
    simp only [List.map_cons, List.cons.injEq] at z
    rw [h _ _ z.1, map_inj h z.2]
theorem enc_ti : Enc ti := ⟨fun a => by
  simp only [ti, clean]
  exact cleans_map fun b _ => rfl, fun a b h => by
  simp only [ti, D.tup.injEq] at h
  exact map_inj enc_int.inj h⟩

/-! ### expressions -/
def andE (T : Tab) (cf : Nat → List D → R D) (ρ : Env) (x : R D) (b : E) : R D := match x with
  | .ok (.bl true) => evE T cf ρ b
  | .ok (.bl false) => .ok (.bl false)
  | .exc c fs => .exc c fs
  | _ => .bad
def orE (T : Tab) (cf : Nat → List D → R D) (ρ : Env) (x : R D) (b : E) : R D := match x with
  | .ok (.bl true) => .ok (.bl true)
  | .ok (.bl false) => evE T cf ρ b
  | .exc c fs => .exc c fs
  | _ => .bad
def iteE (T : Tab) (cf : Nat → List D → R D) (ρ : Env) (x : R Bool) (a b : E) : R D := match x with
  | .ok true => evE T cf ρ a
  | .ok false => evE T cf ρ b
  | .exc c fs => .exc c fs
  | .bad => .bad
def chnE (T : Tab) (cf : Nat → List D → R D) (ρ : Env) (x : R Bool) (o : COp) (y : D) (c : E) : R D := match x with
  | .ok true => evE T cf ρ c >>= fun z => cmpD o y z >>= fun r => .ok (.bl r)
  | .ok false => .ok (.bl false)
  | .exc c fs => .exc c fs
  | .bad => .bad
section
variable {T : Tab} {cf : Nat → List D → R D} {ρ : Env}
@[simp] theorem andE_t {b : E} : andE T cf ρ (.ok (.bl true)) b = evE T cf ρ b := nrfl rfl
@[simp] theorem andE_f {b : E} : andE T cf ρ (.ok (.bl false)) b = .ok (.bl false) := nrfl rfl
@[simp] theorem orE_t {b : E} : orE T cf ρ (.ok (.bl true)) b = .ok (.bl true) := nrfl rfl
@[simp] theorem orE_f {b : E} : orE T cf ρ (.ok (.bl false)) b = evE T cf ρ b := nrfl rfl
@[simp] theorem iteE_t {a b : E} : iteE T cf ρ (.ok true) a b = evE T cf ρ a := nrfl rfl
@[simp] theorem iteE_f {a b : E} : iteE T cf ρ (.ok false) a b = evE T cf ρ b := nrfl rfl
@[simp] theorem chnE_t {o : COp} {y : D} {c : E} : chnE T cf ρ (.ok true) o y c = (evE T cf ρ c >>= fun z => cmpD o y z >>= fun r => .ok (.bl r)) := nrfl rfl
@[simp] theorem chnE_f {o : COp} {y : D} {c : E} : chnE T cf ρ (.ok false) o y c = .ok (.bl false) := nrfl rfl
theorem andE_b {b : E} {p q : Bool} (h : evE T cf ρ b = .ok (.bl q)) : andE T cf ρ (.ok (.bl p)) b = .ok (.bl (p && q)) := by cases p <;> simp [h]
theorem orE_b {b : E} {p q : Bool} (h : evE T cf ρ b = .ok (.bl q)) : orE T cf ρ (.ok (.bl p)) b = .ok (.bl (p || q)) := by cases p <;> simp [h]
@[simp] theorem evE_and {a b : E} : evE T cf ρ (.and a b) = andE T cf ρ (evE T cf ρ a) b := by
  simp only [evE]
  cases evE T cf ρ a with
  | ok x => cases x with
    | bl c => cases c <;> rfl
    | _ => rfl
  | _ => rfl
@[simp] theorem evE_or {a b : E} : evE T cf ρ (.or a b) = orE T cf ρ (evE T cf ρ a) b := by
  simp only [evE]
  cases evE T cf ρ a with
  | ok x => cases x with
    | bl c => cases c <;> rfl
    | _ => rfl
  | _ => rfl
@[simp] theorem evE_ife {c a b : E} : evE T cf ρ (.ife c a b) = iteE T cf ρ (evE T cf ρ c >>= truth) a b := by
  simp only [evE]
  cases evE T cf ρ c with
  | ok x => simp only [ok_bind]; cases truth x with
    | ok c => cases c <;> rfl
    | _ => rfl
  | _ => rfl
@[simp] theorem evE_chain {o o' : COp} {a b c : E} : evE T cf ρ (.chain o o' a b c) = (evE T cf ρ a >>= fun x => evE T cf ρ b >>= fun y => chnE T cf ρ (cmpD o x y) o' y c) := by
  simp only [evE]
  cases evE T cf ρ a with
  | ok x =>
    simp only [ok_bind]
    cases evE T cf ρ b with
    | ok y =>
      simp only [ok_bind]
      cases cmpD o x y with
      | ok c => cases c <;> rfl
      | _ => rfl
    | _ => rfl
  | _ => rfl
end
section
variable {T : Tab} {cf : Nat → List D → R D} {ρ : Env}
@[simp] theorem evE_var {i : Nat} : evE T cf ρ (.var i) = match ρ[i]? with
  | some (.val d) => .ok d
  | some (.own d) => .ok d
  | _ => .bad := by simp only [evE]; try rfl
@[simp] theorem evE_non : evE T cf ρ .non = .ok .non := by simp only [evE]
@[simp] theorem evE_bl {b : Bool} : evE T cf ρ (.bl b) = .ok (.bl b) := by simp only [evE]
@[simp] theorem evE_int {b : Int} : evE T cf ρ (.int b) = .ok (.int b) := by simp only [evE]
@[simp] theorem evE_str {b : Str} : evE T cf ρ (.str b) = .ok (.str b) := by simp only [evE]
@[simp] theorem evE_glob {g : Nat} : evE T cf ρ (.glob g) = ofO (T.glob g) := by simp only [evE]
@[simp] theorem evE_bin {o : BOp} {a b : E} : evE T cf ρ (.bin o a b) = (evE T cf ρ a >>= fun x => evE T cf ρ b >>= fun y => binD o x y) := by simp only [evE]
@[simp] theorem evE_neg {a : E} : evE T cf ρ (.neg a) = (evE T cf ρ a >>= fun x => match x with
  | .int i => .ok (.int (-i))
  | _ => .bad) := by simp only [evE]; try rfl
@[simp] theorem evE_not {a : E} : evE T cf ρ (.not a) = (evE T cf ρ a >>= fun x => truth x >>= fun b => .ok (.bl (!b))) := by simp only [evE]
@[simp] theorem evE_cmp {o : COp} {a b : E} : evE T cf ρ (.cmp o a b) = (evE T cf ρ a >>= fun x => evE T cf ρ b >>= fun y => cmpD o x y >>= fun c => .ok (.bl c)) := by simp only [evE]
@[simp] theorem evE_tup {es : List E} : evE T cf ρ (.tup es) = (evEs T cf ρ es >>= fun ds => .ok (.tup ds)) := by simp only [evE]
@[simp] theorem evE_lst {es : List E} : evE T cf ρ (.lst es) = (evEs T cf ρ es >>= fun ds => .ok (.lst ds)) := by simp only [evE]
@[simp] theorem evE_dnewT : evE T cf ρ (.dnew true) = .ok (.dN []) := by simp [evE]
@[simp] theorem evE_dnewF : evE T cf ρ (.dnew false) = .ok (.dK []) := by simp [evE]
@[simp] theorem evE_ddisp {k v : E} : evE T cf ρ (.ddisp true k v) = (evE T cf ρ k >>= fun x => evE T cf ρ v >>= fun y => dput (.dN []) x y) := by simp [evE]
@[simp] theorem evE_idx {a i : E} : evE T cf ρ (.idx a i) = (evE T cf ρ a >>= fun x => evE T cf ρ i >>= fun y => idxD x y) := by simp only [evE]
@[simp] theorem evE_slc {a : E} {lo hi : Option E} : evE T cf ρ (.slc a lo hi) = (evE T cf ρ a >>= fun x => evO T cf ρ lo >>= fun l => evO T cf ρ hi >>= fun h => slcD x l h) := by simp only [evE]
@[simp] theorem evE_rev {a : E} : evE T cf ρ (.rev a) = (evE T cf ρ a >>= fun x => revD x) := by simp only [evE]
@[simp] theorem evE_call {f : Nat} {es : List E} : evE T cf ρ (.call f es) = (evEs T cf ρ es >>= fun ds => cf f ds) := by simp only [evE]
@[simp] theorem evE_bi {b : Bi} {es : List E} : evE T cf ρ (.bi b es) = (evEs T cf ρ es >>= fun ds => biD b ds) := by simp only [evE]
@[simp] theorem evE_isi {a : E} {t : Ty} : evE T cf ρ (.isi a t) = (evE T cf ρ a >>= fun x => isTy x t >>= fun b => .ok (.bl b)) := by simp only [evE]
@[simp] theorem evEs_nil : evEs T cf ρ [] = .ok [] := by simp only [evEs]
@[simp] theorem evEs_cons {e : E} {es : List E} : evEs T cf ρ (e :: es) = (evE T cf ρ e >>= fun d => evEs T cf ρ es >>= fun ds => .ok (d :: ds)) := by simp only [evEs]
@[simp] theorem evO_none : evO T cf ρ none = .ok none := by simp only [evO]
@[simp] theorem evO_some {e : E} : evO T cf ρ (some e) = (evE T cf ρ e >>= fun x => match x with
  | .int i => .ok (some i)
  | _ => .bad) := by simp only [evO]; try rfl
@[simp] theorem evSrc_rng {es : List E} : evSrc T cf ρ (.rng es) = (evEs T cf ρ es >>= fun ds => ofO (rangeD ds)) := by simp only [evSrc]
@[simp] theorem evSrc_seq {e : E} : evSrc T cf ρ (.seq e) = (evE T cf ρ e >>= fun d => ofO (seqOf d)) := by simp only [evSrc]
/-! ### comprehensions -/
theorem compR_filter {α : Type} {c : D → R Bool} {f : D → R D} {e : α → D} {p : α → Bool} {g : α → D} : ∀ {xs : List α}, (∀ x ∈ xs, c (e x) = .ok (p x)) → (∀ x ∈ xs, p x = true → f (e x) = .ok (g x)) → compR c f (xs.map e) = .ok ((xs.filter p).map g)
  | [], _, _ => rfl
  | x :: xs, hc, hf => by
    have ih := compR_filter (xs := xs) (fun y hy => hc y (List.mem_cons_of_mem _ hy)) fun y hy => hf y (List.mem_cons_of_mem _ hy)
    simp only [List.map_cons, compR, hc x List.mem_cons_self, ih]
    cases hp : p x
    · simp [hp]
    · simp [hp, hf x List.mem_cons_self hp]
theorem comp_if {α : Type} {elt c : E} {x : Nat} {src : Src} {e : α → D} {p : α → Bool} {g : α → D} {xs : List α} (hs : evSrc T cf ρ src = .ok (xs.map e)) (ho : anyOwn (x :: lkr src) ρ = false) (hl : xs.length ≤ lineSz)
    (hc : ∀ a ∈ xs, evE T cf (ρ.set x (.val (e a))) c = .ok (.bl (p a))) (hf : ∀ a ∈ xs, p a = true → evE T cf (ρ.set x (.val (e a))) elt = .ok (g a)) :
    evE T cf ρ (.comp elt x src (some c)) = .ok (.lst ((xs.filter p).map g)) := by
  simp only [evE, ho, hs, ok_bind]
  rw [compR_filter (e := e) (p := p) (g := g) (fun a ha => by rw [hc a ha]; rfl) hf]
  simp [hl]
theorem comp_map {α : Type} {elt : E} {x : Nat} {src : Src} {e : α → D} {g : α → D} {xs : List α} (hs : evSrc T cf ρ src = .ok (xs.map e)) (ho : anyOwn (x :: lkr src) ρ = false) (hl : xs.length ≤ lineSz)
    (hf : ∀ a ∈ xs, evE T cf (ρ.set x (.val (e a))) elt = .ok (g a)) :
    evE T cf ρ (.comp elt x src none) = .ok (.lst (xs.map g)) := by
  simp only [evE, ho, hs, ok_bind]
  have := compR_filter (e := e) (p := fun _ => true) (g := g) (c := fun d => .ok true) (f := fun d => evE T cf (ρ.set x (.val d)) elt) (xs := xs) (fun a ha => rfl) (fun a ha _ => hf a ha)
  rw [List.filter_eq_self.mpr (fun a _ => rfl)] at this
  rw [this]
  simp [hl]
end

/-! ### statements -/
section
variable {T : Tab} {cf : Nat → List D → R D} {ρ : Env}
@[simp] theorem evSs_nil : evSs T cf [] ρ = .ok (.nx ρ) := by simp only [evSs]
/-- one statement done, the rest -/
def seqS (T : Tab) (cf : Nat → List D → R D) (x : R Fl) (r : List S) : R Fl := match x with
  | .ok (.nx ρ') => evSs T cf r ρ'
  | x => x
@[simp] theorem seqS_nx {r : List S} : seqS T cf (.ok (.nx ρ)) r = evSs T cf r ρ := nrfl rfl
@[simp] theorem seqS_ret {r : List S} {d : D} {o : Bool} : seqS T cf (.ok (.ret d o)) r = .ok (.ret d o) := nrfl rfl
@[simp] theorem seqS_brk {r : List S} : seqS T cf (.ok (.brk ρ)) r = .ok (.brk ρ) := nrfl rfl
@[simp] theorem seqS_cont {r : List S} : seqS T cf (.ok (.cont ρ)) r = .ok (.cont ρ) := nrfl rfl
@[simp] theorem seqS_exc {r : List S} {c : Cl} {fs : List D} : seqS T cf (.exc c fs) r = .exc c fs := nrfl rfl
@[simp] theorem evSs_cons {s : S} {r : List S} : evSs T cf (s :: r) ρ = seqS T cf (evS T cf s ρ) r := by simp only [evSs]; rfl
def asgS (T : Tab) (i : Nat) (e : E) (ρ : Env) (x : R D) : R Fl := match x with
  | .ok d => .ok (.nx (bindTo T i e d ρ))
  | .exc c fs => .exc c fs
  | .bad => .bad
@[simp] theorem asgS_ok {i : Nat} {e : E} {d : D} : asgS T i e ρ (.ok d) = .ok (.nx (bindTo T i e d ρ)) := nrfl rfl
@[simp] theorem evS_asg {i : Nat} {e : E} : evS T cf (.asg i e) ρ = asgS T i e ρ (evE T cf ρ e) := by
  simp only [evS]; cases evE T cf ρ e <;> rfl
def retS (T : Tab) (e : E) (ρ : Env) (x : R D) : R Fl := match x with
  | .ok d => .ok (.ret d ((fresh T e && isRoot d) || isOwn e ρ))
  | .exc c fs => .exc c fs
  | .bad => .bad
@[simp] theorem retS_ok {e : E} {d : D} : retS T e ρ (.ok d) = .ok (.ret d ((fresh T e && isRoot d) || isOwn e ρ)) := nrfl rfl
@[simp] theorem evS_ret {e : E} : evS T cf (.ret e) ρ = retS T e ρ (evE T cf ρ e) := by
  simp only [evS]; cases evE T cf ρ e <;> rfl
def ifS (T : Tab) (cf : Nat → List D → R D) (ρ : Env) (x : R Bool) (a b : List S) : R Fl := match x with
  | .ok true => evSs T cf a ρ
  | .ok false => evSs T cf b ρ
  | .exc c fs => .exc c fs
  | .bad => .bad
@[simp] theorem ifS_t {a b : List S} : ifS T cf ρ (.ok true) a b = evSs T cf a ρ := nrfl rfl
@[simp] theorem ifS_f {a b : List S} : ifS T cf ρ (.ok false) a b = evSs T cf b ρ := nrfl rfl
@[simp] theorem evS_ifs {c : E} {a b : List S} : evS T cf (.ifs c a b) ρ = ifS T cf ρ (evE T cf ρ c >>= truth) a b := by
  simp only [evS]
  cases evE T cf ρ c with
  | ok x => simp only [ok_bind]; cases truth x with
    | ok c => cases c <;> rfl
    | _ => rfl
  | _ => rfl
/-- a value without lists and dicts is kept as it is -/
theorem kept_pure {e : E} {d : D} (h : noMut d = true) : kept e d ρ = ρ := by
  unfold kept; split <;> simp [h]
theorem bind_pure {T : Tab} {i : Nat} {e : E} {d : D} (h : noMut d = true) : bindTo T i e d ρ = ρ.set i (.val d) := by
  unfold bindTo
  rw [kept_pure h]
  have : isRoot d = false := by cases d <;> first | rfl | (simp [noMut] at h)
  rw [this, Bool.and_false]; rfl
@[simp] theorem bind_int {T : Tab} {i : Nat} {e : E} {k : Int} : bindTo T i e (.int k) ρ = ρ.set i (.val (.int k)) := bind_pure rfl
@[simp] theorem bind_bl {T : Tab} {i : Nat} {e : E} {k : Bool} : bindTo T i e (.bl k) ρ = ρ.set i (.val (.bl k)) := bind_pure rfl
@[simp] theorem bind_str {T : Tab} {i : Nat} {e : E} {k : Str} : bindTo T i e (.str k) ρ = ρ.set i (.val (.str k)) := bind_pure rfl
@[simp] theorem bind_non {T : Tab} {i : Nat} {e : E} : bindTo T i e .non ρ = ρ.set i (.val .non) := bind_pure rfl
theorem noMuts_map {α : Type} {e : α → D} : ∀ {xs : List α}, (∀ a ∈ xs, noMut (e a) = true) → noMuts (xs.map e) = true
  | [], _ => rfl
  | x :: xs, h => by simp [noMuts, h x List.mem_cons_self, noMuts_map fun a ha => h a (List.mem_cons_of_mem _ ha)]
@[simp] theorem noMut_ti {xs : List Int} : noMut (ti xs) = true := noMuts_map fun _ _ => rfl
@[simp] theorem bind_ti {T : Tab} {i : Nat} {e : E} {xs : List Int} : bindTo T i e (ti xs) ρ = ρ.set i (.val (ti xs)) := bind_pure noMut_ti
/-- a new list goes to a name that owns it -/
theorem bind_new {T : Tab} {i : Nat} {e : E} {ds : List D} (h : anyOwn (lks e) ρ = false) (hf : fresh T e = true) : bindTo T i e (.lst ds) ρ = ρ.set i (.own (.lst ds)) := by
  unfold bindTo kept
  simp [h, hf]
@[simp] theorem bind_nil {T : Tab} {i : Nat} : bindTo T i (.lst []) (.lst []) ρ = ρ.set i (.own (.lst [])) := by
  apply bind_new
  · simp [lks, lksL, anyOwn]
  · simp [fresh]
@[simp] theorem bind_dict {T : Tab} {i : Nat} {t : Bool} : bindTo T i (.dnew t) (.dN []) ρ = ρ.set i (.own (.dN [])) := by
  unfold bindTo kept
  simp [lks, anyOwn, fresh]
def appS (i : Nat) (e : E) (ρ : Env) (s : Option Sl) (x : R D) : R Fl := match s with
  | some (.own (.lst _)) => (match x with
    | .ok d => (match (kept e d ρ)[i]? with
      | some (.own (.lst ds)) => if ds.length < lineSz then .ok (.nx ((kept e d ρ).set i (.own (.lst (ds ++ [d]))))) else .bad
      | _ => .bad)
    | .exc c fs => .exc c fs
    | .bad => .bad)
  | _ => .bad
@[simp] theorem evS_app {i : Nat} {e : E} : evS T cf (.app i e) ρ = appS i e ρ ρ[i]? (evE T cf ρ e) := by
  cases h : ρ[i]? with
  | none => simp [evS, isOwnL, appS, h]
  | some s => cases s with
    | own d => cases d with
      | lst ds =>
        simp only [evS, isOwnL, appS, h, if_true]
        cases evE T cf ρ e <;> rfl
      | _ => simp [evS, isOwnL, appS, h]
    | _ => simp [evS, isOwnL, appS, h]
/-- a value without lists and dicts is appended -/
theorem app_pure {i : Nat} {e : E} {ds : List D} {d : D} (h1 : ρ[i]? = some (.own (.lst ds))) (h : noMut d = true) (h2 : ds.length < lineSz) : appS i e ρ (some (.own (.lst ds))) (.ok d) = .ok (.nx (ρ.set i (.own (.lst (ds ++ [d]))))) := by
  simp only [appS]
  rw [kept_pure h, h1]
  simp [h2]
@[simp] theorem evS_expr {e : E} : evS T cf (.expr e) ρ = (evE T cf ρ e >>= fun _ => .ok (.nx ρ)) := by simp only [evS]
@[simp] theorem evS_brk : evS T cf .brk ρ = .ok (.brk ρ) := by simp only [evS]
@[simp] theorem evS_cont : evS T cf .cont ρ = .ok (.cont ρ) := by simp only [evS]
@[simp] theorem evS_pass : evS T cf .pass ρ = .ok (.nx ρ) := by simp only [evS]
/-- how a body ends for plain states -/
inductive St (σ : Type) where
  | nx (s : σ)
  | brk (s : σ)
  | ret (d : D) (own : Bool)
def St.fl {σ : Type} (env : σ → Env) : St σ → Fl
  | .nx s => .nx (env s)
  | .brk s => .brk (env s)
  | .ret d o => .ret d o
/-- a loop over plain states -/
def loopS {σ α : Type} (step : σ → α → St σ) : List α → σ → St σ
  | [], s => .nx s
  | x :: xs, s => match step s x with
    | .nx s' => loopS step xs s'
    | .brk s' => .nx s'
    | .ret d o => .ret d o
theorem forR_loop {σ α : Type} {set : Env → D → R Env} {body : Env → R Fl} {e : α → D} {env : σ → Env} {step : σ → α → St σ} (P : Nat → σ → Prop) :
    ∀ {xs : List α} {k : Nat} {s : σ}, P k s → (∀ i s x, xs[i]? = some x → P (k + i) s → ∃ ρ1, set (env s) (e x) = .ok ρ1 ∧ (body ρ1 = .ok ((step s x).fl env) ∨ ∃ s', step s x = .nx s' ∧ body ρ1 = .ok (.cont (env s')))) →
      (∀ i s x s', xs[i]? = some x → P (k + i) s → step s x = .nx s' → P (k + i + 1) s') →
      forR set body (xs.map e) (env s) = .ok ((loopS step xs s).fl env)
  | [], k, s, _, _, _ => rfl
  | x :: xs, k, s, hP, hb, hp => by
    obtain ⟨ρ1, h1, h2⟩ := hb 0 s x rfl hP
    have ih : ∀ s', step s x = .nx s' → forR set body (xs.map e) (env s') = .ok ((loopS step xs s').fl env) := fun s' h =>
      forR_loop P (k := k + 1) (hp 0 s x s' rfl hP h) (fun i s y hy hP => hb (i + 1) s y (by simpa using hy) (by rw [show k + (i + 1) = k + 1 + i by omega]; exact hP)) fun i s y s' hy hP q => by
        have := hp (i + 1) s y s' (by simpa using hy) (by rw [show k + (i + 1) = k + 1 + i by omega]; exact hP) q
        rw [show k + (i + 1) + 1 = k + 1 + i + 1 by omega] at this
        exact this
    simp only [List.map_cons, forR, h1, loopS]
    rcases h2 with h2 | ⟨s', h3, h2⟩
    · rw [h2]
      cases h : step s x with
      | nx s' => simp only [St.fl]; exact ih s' h
      | brk s' => rfl
      | ret d o => rfl
    · rw [h2, h3]; exact ih s' h3
theorem evS_for {σ α : Type} {t : Tgt} {src : Src} {b : List S} {e : α → D} {env : σ → Env} {step : σ → α → St σ} {xs : List α} {s : σ} (P : Nat → σ → Prop) (hs : evSrc T cf (env s) src = .ok (xs.map e))
    (ho : (match srcVar src with
      | some y => (mutSs b).contains y
      | none => anyOwn (lkr src) (env s)) = false) (hP : P 0 s)
    (hb : ∀ i s x, xs[i]? = some x → P i s → ∃ ρ1, setT (env s) t (e x) = .ok ρ1 ∧ (evSs T cf b ρ1 = .ok ((step s x).fl env) ∨ ∃ s', step s x = .nx s' ∧ evSs T cf b ρ1 = .ok (.cont (env s')))) (hp : ∀ i s x s', xs[i]? = some x → P i s → step s x = .nx s' → P (i + 1) s') :
    evS T cf (.fors t src b) (env s) = .ok ((loopS step xs s).fl env) := by
  simp only [evS]
  have key := forR_loop (set := fun ρ d => setT ρ t d) (body := fun ρ => evSs T cf b ρ) (e := e) (env := env) (step := step) P (xs := xs) (k := 0) (s := s) hP (fun i s x hx hP => hb i s x hx (by rw [Nat.zero_add] at hP; exact hP)) (fun i s x s' hx hP q => by
    rw [Nat.zero_add] at hP ⊢
    exact hp i s x s' hx hP q)
  cases hv : srcVar src with
  | some y =>
    rw [hv] at ho
    simp only at ho ⊢
    rw [ho, hs]
    exact key
  | none =>
    rw [hv] at ho
    simp only at ho ⊢
    rw [ho, hs]
    exact key
theorem fold_inv {σ α : Type} {f : σ → α → σ} {P : Nat → σ → Prop} : ∀ {xs : List α} {k : Nat} {s : σ}, P k s → (∀ i s x, xs[i]? = some x → P (k + i) s → P (k + i + 1) (f s x)) → P (k + xs.length) (xs.foldl f s)
  | [], k, s, h, _ => h
  | x :: xs, k, s, h, hp => by
    have := fold_inv (f := f) (P := P) (xs := xs) (k := k + 1) (s := f s x) (hp 0 s x rfl h) fun i s y hy hP => by
      have := hp (i + 1) s y (by simpa using hy) (by rw [show k + (i + 1) = k + 1 + i by omega]; exact hP)
      rw [show k + (i + 1) + 1 = k + 1 + i + 1 by omega] at this
      exact this
    rw [List.length_cons, show k + (xs.length + 1) = k + 1 + xs.length by omega]
    exact this
/-- a loop that only goes on -/
theorem evS_fold {σ α : Type} {t : Tgt} {src : Src} {b : List S} {e : α → D} {env : σ → Env} {f : σ → α → σ} {xs : List α} {s : σ} (P : Nat → σ → Prop) (hs : evSrc T cf (env s) src = .ok (xs.map e))
    (ho : (match srcVar src with
      | some y => (mutSs b).contains y
      | none => anyOwn (lkr src) (env s)) = false) (hP : P 0 s)
    (hb : ∀ i s x, xs[i]? = some x → P i s → ∃ ρ1, setT (env s) t (e x) = .ok ρ1 ∧ (evSs T cf b ρ1 = .ok (.nx (env (f s x))) ∨ evSs T cf b ρ1 = .ok (.cont (env (f s x))))) (hp : ∀ i s x, xs[i]? = some x → P i s → P (i + 1) (f s x)) :
    evS T cf (.fors t src b) (env s) = .ok (.nx (env (xs.foldl f s))) ∧ P xs.length (xs.foldl f s) := by
  refine ⟨?_, ?_⟩
  · have := evS_for (step := fun s x => .nx (f s x)) P hs ho hP (fun i s x hx hP => by
      obtain ⟨ρ1, h1, h2⟩ := hb i s x hx hP
      refine ⟨ρ1, h1, ?_⟩
      rcases h2 with h2 | h2
      · exact .inl h2
      · exact .inr ⟨_, rfl, h2⟩) (fun i s x s' hx hP q => by cases q; exact hp i s x hx hP)
    rw [this]
    have e2 : ∀ (xs : List α) (s : σ), loopS (fun s x => St.nx (f s x)) xs s = .nx (xs.foldl f s) := by
      intro xs
      induction xs with
      | nil => exact fun s => rfl
      | cons x xs ih => exact fun s => ih _
    rw [e2]; rfl
  · have := fold_inv (f := f) (P := P) (xs := xs) (k := 0) (s := s) hP fun i s x hx hP => by
      rw [Nat.zero_add] at hP ⊢
      exact hp i s x hx hP
    rw [Nat.zero_add] at this
    exact this
theorem loopS_fold {σ α : Type} {step : σ → α → St σ} {f : σ → α → σ} : ∀ {xs : List α} {s : σ}, (∀ s x, x ∈ xs → step s x = .nx (f s x)) → loopS step xs s = .nx (xs.foldl f s)
  | [], _, _ => rfl
  | x :: xs, s, h => by
    simp only [loopS, h s x List.mem_cons_self, List.foldl_cons]
    exact loopS_fold fun s y hy => h s y (List.mem_cons_of_mem _ hy)
end
end Ev

set_option linter.all false
set_option autoImplicit false
set_option maxRecDepth 100000
/-! Plain laws: operations; the helpers that all laws share. -/
namespace Ev
open PySem

/-! ### operations -/
@[simp] theorem bin_add {i j : Int} : binD .add (.int i) (.int j) = .ok (.int (i + j)) := nrfl rfl
@[simp] theorem bin_sub {i j : Int} : binD .sub (.int i) (.int j) = .ok (.int (i - j)) := nrfl rfl
theorem bin_mul {i j : Int} (h : (-(2 ^ 64) < i ∧ i < 2 ^ 64) ∨ (-(2 ^ 64) < j ∧ j < 2 ^ 64)) : binD .mul (.int i) (.int j) = .ok (.int (i * j)) := by simp only [binD, if_pos h]
theorem bin_fdiv {i j : Int} (h : 0 < j) (h2 : j < 1073741824) : binD .fdiv (.int i) (.int j) = .ok (.int (i / j)) := by simp only [binD, if_pos (And.intro h h2)]
theorem bin_mod {i j : Int} (h : 0 < j) : binD .mod (.int i) (.int j) = .ok (.int (i % j)) := by simp only [binD, if_pos h]
@[simp] theorem bin_pow18 : binD .pow (.int 10) (.int 18) = .ok (.int 1000000000000000000) := by
  simp only [binD]; rw [if_pos (by decide)]; rfl
theorem bin_addL {a b : List D} (h : a.length + b.length ≤ lineSz) : binD .add (.lst a) (.lst b) = .ok (.lst (a ++ b)) := by simp only [binD, if_pos h]
theorem bin_addT {a b : List D} (h : a.length + b.length ≤ lineSz) : binD .add (.tup a) (.tup b) = .ok (.tup (a ++ b)) := by simp only [binD, if_pos h]
@[simp] theorem cmp_lt {i j : Int} : cmpD .lt (.int i) (.int j) = .ok (decide (i < j)) := nrfl rfl
@[simp] theorem cmp_le {i j : Int} : cmpD .le (.int i) (.int j) = .ok (decide (i ≤ j)) := nrfl rfl
@[simp] theorem cmp_gt {i j : Int} : cmpD .gt (.int i) (.int j) = .ok (decide (j < i)) := nrfl rfl
@[simp] theorem cmp_ge {i j : Int} : cmpD .ge (.int i) (.int j) = .ok (decide (j ≤ i)) := nrfl rfl
@[simp] theorem cmp_eqI {i j : Int} : cmpD .eq (.int i) (.int j) = .ok (decide (i = j)) := by simp only [cmpD]; exact eqD_enc enc_int i j
@[simp] theorem cmp_neI {i j : Int} : cmpD .ne (.int i) (.int j) = .ok (!decide (i = j)) := by simp only [cmpD]; rw [eqD_enc enc_int i j]
@[simp] theorem cmp_eqT {i j : List Int} : cmpD .eq (ti i) (ti j) = .ok (decide (i = j)) := by simp only [cmpD]; exact eqD_enc enc_ti i j
@[simp] theorem cmp_neT {i j : List Int} : cmpD .ne (ti i) (ti j) = .ok (!decide (i = j)) := by simp only [cmpD]; rw [eqD_enc enc_ti i j]
@[simp] theorem is_nn : cmpD .is_ .non .non = .ok true := nrfl rfl
@[simp] theorem is_in {i : Int} : cmpD .is_ (.int i) .non = .ok false := nrfl rfl
@[simp] theorem is_bn {i : Bool} : cmpD .is_ (.bl i) .non = .ok false := nrfl rfl
@[simp] theorem is_sn {i : Str} : cmpD .is_ (.str i) .non = .ok false := nrfl rfl
@[simp] theorem is_tn {i : List D} : cmpD .is_ (.tup i) .non = .ok false := nrfl rfl
@[simp] theorem is_ln {i : List D} : cmpD .is_ (.lst i) .non = .ok false := nrfl rfl
@[simp] theorem isnot_nn : cmpD .isnot .non .non = .ok false := nrfl rfl
@[simp] theorem isnot_tn {i : List D} : cmpD .isnot (.tup i) .non = .ok true := nrfl rfl
@[simp] theorem isnot_in {i : Int} : cmpD .isnot (.int i) .non = .ok true := nrfl rfl
@[simp] theorem truth_bl {b : Bool} : truth (.bl b) = .ok b := nrfl rfl
@[simp] theorem truth_int {b : Int} : truth (.int b) = .ok (b != 0) := nrfl rfl
@[simp] theorem bi_lenT {a : List D} : biD .len [.tup a] = .ok (.int a.length) := nrfl rfl
@[simp] theorem bi_lenL {a : List D} : biD .len [.lst a] = .ok (.int a.length) := nrfl rfl
@[simp] theorem bi_lenS {a : List D} : biD .len [.scr a] = .ok (.int a.length) := nrfl rfl
@[simp] theorem bi_int {i : Int} : biD .int [.int i] = .ok (.int i) := nrfl rfl
@[simp] theorem bi_intB {b : Bool} : biD .int [.bl b] = .ok (.int (if b then 1 else 0)) := nrfl rfl
@[simp] theorem bi_tupL {a : List D} : biD .tuple [.lst a] = .ok (.tup a) := nrfl rfl
@[simp] theorem bi_tupT {a : List D} : biD .tuple [.tup a] = .ok (.tup a) := nrfl rfl
@[simp] theorem bi_lstT {a : List D} : biD .list [.tup a] = .ok (.lst a) := nrfl rfl
@[simp] theorem bi_lstL {a : List D} : biD .list [.lst a] = .ok (.lst a) := nrfl rfl
@[simp] theorem bi_lstN {a : List (D × D)} : biD .list [.dN a] = .ok (.lst (a.map (·.1))) := nrfl rfl
@[simp] theorem bi_max2 {i j : Int} : biD .max [.int i, .int j] = .ok (.int (max i j)) := by
  show R.ok (D.int (if j > i then j else i)) = _
  congr 2; omega
@[simp] theorem bi_min2 {i j : Int} : biD .min [.int i, .int j] = .ok (.int (min i j)) := by
  show R.ok (D.int (if j < i then j else i)) = _
  congr 2; omega
@[simp] theorem seqOf_tup {a : List D} : seqOf (.tup a) = some a := nrfl rfl
@[simp] theorem seqOf_lst {a : List D} : seqOf (.lst a) = some a := nrfl rfl
@[simp] theorem seqOf_scr {a : List D} : seqOf (.scr a) = some a := nrfl rfl
theorem idx_tup {a : List D} {i : Nat} {d : D} (h : a[i]? = some d) : idxD (.tup a) (.int i) = .ok d := by
  obtain ⟨hl, h2⟩ := List.getElem?_eq_some_iff.mp h
  show ofO (L2.atI a i) = _
  unfold L2.atI L2.ixN
  simp [hl, h2]
theorem idx_lst {a : List D} {i : Nat} {d : D} (h : a[i]? = some d) : idxD (.lst a) (.int i) = .ok d := by
  obtain ⟨hl, h2⟩ := List.getElem?_eq_some_iff.mp h
  show ofO (L2.atI a i) = _
  unfold L2.atI L2.ixN
  simp [hl, h2]
theorem idx_scr {a : List D} {i : Nat} {d : D} (h : a[i]? = some d) : idxD (.scr a) (.int i) = .ok d := by
  obtain ⟨hl, h2⟩ := List.getElem?_eq_some_iff.mp h
  show ofO (L2.atI a i) = _
  unfold L2.atI L2.ixN
  simp [hl, h2]
theorem range1 {m : Nat} (h : m ≤ lineSz) : rangeD [.int m] = some ((List.range m).map fun (k : Nat) => .int (k : Int)) := by
  unfold lineSz at h
  have h1 : -(2 ^ 62 : Int) ≤ (m : Int) ∧ (m : Int) < 2 ^ 62 := by omega
  simp only [rangeD, if_pos h1, Int.toNat_natCast]
theorem loopS_nil {σ α : Type} {step : σ → α → St σ} {s : σ} : loopS step [] s = .nx s := rfl
end Ev

set_option linter.all false
set_option autoImplicit false
set_option maxRecDepth 100000
/-! Plain laws: the helpers that all laws share. -/
namespace Ev
open PySem
def fn__law_whole : Fn := { np := 1, nl := 1, fr := false, body := [.ret (.and (.isi (.var 0) .int) (.not (.isi (.var 0) .bool)))] }
def fn__law_same : Fn := { np := 2, nl := 3, fr := false, body := [.ifs (.isi (.var 1) .tuple) [.ifs (.or (.not (.isi (.var 0) .tuple)) (.cmp .ne (.bi .len [(.var 0)]) (.bi .len [(.var 1)]))) [.ret (.bl false)] [], .fors (.one 2) (.rng [(.bi .len [(.var 1)])]) [.ifs (.not (.call 8 [(.idx (.var 0) (.var 2)), (.idx (.var 1) (.var 2))])) [.ret (.bl false)] []], .ret (.bl true)] [], .ifs (.cmp .is_ (.var 1) .non) [.ret (.cmp .is_ (.var 0) .non)] [], .ifs (.isi (.var 1) .bool) [.ret (.and (.isi (.var 0) .bool) (.cmp .eq (.var 0) (.var 1)))] [], .ifs (.isi (.var 1) .int) [.ret (.and (.call 7 [(.var 0)]) (.cmp .eq (.var 0) (.var 1)))] [], .ret (.and (.isi (.var 0) .str) (.cmp .eq (.var 0) (.var 1)))] }
def fn__law_cell : Fn := { np := 2, nl := 4, fr := false, body := [.ifs (.cmp .lt (.var 1) (.bi .len [(.var 0)])) [.ret (.idx (.var 0) (.var 1))] [], .asg 2 (.int 17), .fors (.one 3) (.seq (.var 0)) [.asg 2 (.bin .mod (.bi .int [(.bin .add (.bin .mul (.var 2) (.int 31)) (.bin .mod (.bi .int [(.var 3)]) (.int 1000003)))]) (.int 1000003))], .ret (.bin .mod (.bi .int [(.bin .mul (.bin .mul (.bin .add (.var 2) (.int 7)) (.bin .add (.var 1) (.int 3))) (.int 69621))]) (.int 2147483647))] }
def fn__law_digits : Fn := { np := 2, nl := 8, fr := true, body := [.asg 2 (.lst []), .asg 3 (.bi .int [(.var 0)]), .ifs (.cmp .ge (.var 3) (.bin .pow (.int 10) (.int 18))) [.asg 3 (.bin .sub (.var 3) (.bin .pow (.int 10) (.int 18))), .fors (.one 6) (.seq (.var 1)) [.app 2 (.bin .mod (.bi .int [(.var 3)]) (.var 6)), .asg 3 (.bin .fdiv (.bi .int [(.var 3)]) (.var 6))], .ret (.var 2)] [], .asg 4 (.bin .mod (.bi .int [(.var 3)]) (.int 2147483629)), .fors (.one 5) (.rng [(.bi .len [(.var 1)])]) [.asg 4 (.bin .mod (.bi .int [(.bin .add (.bin .add (.bin .mul (.var 4) (.int 48271)) (.bin .mul (.int 974711) (.var 5))) (.int 12345))]) (.int 2147483647)), .asg 7 (.bin .mod (.bi .int [(.bin .mul (.var 4) (.bin .add (.bin .fdiv (.var 4) (.int 65537)) (.int 3)))]) (.int 2147483629)), .app 2 (.bin .mod (.bin .fdiv (.var 7) (.int 19)) (.idx (.var 1) (.var 5)))], .ret (.var 2)] }

/-- what evaluates in a def -/
theorem ev_eq {T : Tab} {n f : Nat} {fn : Fn} {ds : List D} (h : T.fn f = some fn) (hl : ds.length = fn.np) (hi : fn.ini = none := by rfl) : ev T (n + 1) f ds = match evSs T (ev T n) fn.body (startE fn ds) with
  | .ok (.nx _) => if fn.fr then .bad else .ok .non
  | .ok (.ret d own) => if fn.fr && !own then .bad else .ok d
  | .exc c fs => .exc c fs
  | _ => .bad := by simp only [ev, h, hl, hi, if_true]; try rfl
section
variable {T : Tab} {n : Nat}
/-! ### _law_whole -/
def wholeD : D → Bool
  | .int _ => true
  | _ => false
/- data that the laws compare -/
mutual
def lawD : Nat → D → Bool
  | _, .non => true
  | _, .bl _ => true
  | _, .int _ => true
  | _, .str x => PyData.strOk x
  | n + 1, .tup ds => decide (ds.length ≤ lineSz) && lawDs n ds
  | _, _ => false
def lawDs : Nat → List D → Bool
  | _, [] => true
  | n, d :: ds => lawD n d && lawDs n ds
end
theorem ev_whole (h : T.fn 7 = some fn__law_whole) {d : D} {m : Nat} (hd : lawD m d = true) : ev T (n + 1) 7 [d] = .ok (.bl (wholeD d)) := by
  rw [ev_eq h rfl]
  cases d with
  | lst _ => cases m <;> simp [lawD] at hd
  | scr _ => cases m <;> simp [lawD] at hd
  | ins _ _ => cases m <;> simp [lawD] at hd
  | dK _ => cases m <;> simp [lawD] at hd
  | dN _ => cases m <;> simp [lawD] at hd
  | _ => simp [fn__law_whole, startE, isTy, wholeD, fresh, isOwn]
/-! ### _law_same -/
mutual
def lsame : D → D → Bool
  | .non, .non => true
  | .bl a, .bl b => a == b
  | .int i, .int j => decide (i = j)
  | .str x, .str y => decide (x = y)
  | .tup a, .tup b => lsames a b
  | _, _ => false
def lsames : List D → List D → Bool
  | [], [] => true
  | a :: as, b :: bs => lsame a b && lsames as bs
  | _, _ => false
end
theorem lsames_len : ∀ {a b : List D}, lsames a b = true → a.length = b.length
  | [], [], _ => rfl
  | _ :: _, _ :: _, h => by
    simp only [lsames, Bool.and_eq_true] at h
    simp [lsames_len h.2]
  | [], _ :: _, h => by simp [lsames] at h
  | _ :: _, [], h => by simp [lsames] at h
theorem cmp_eqS {i j : Str} (hi : PyData.strOk i = true) (hj : PyData.strOk j = true) : cmpD .eq (.str i) (.str j) = .ok (decide (i = j)) := by
  simp only [cmpD]
  rw [eqD_clean (by simpa [clean] using hi) (by simpa [clean] using hj)]
  simp [sameD]
@[simp] theorem cmp_eqB {i j : Bool} : cmpD .eq (.bl i) (.bl j) = .ok (i == j) := by
  cases i <;> cases j <;> simp [cmpD, eqD, py, SeqAt.shaped, PyData.canLay0, PyData.depth, PyData.eqv]
theorem lsames_any : ∀ {a b : List D}, a.length = b.length → lsames a b = ((List.range b.length).all fun k => match a[k]?, b[k]? with
    | some x, some y => lsame x y
    | _, _ => true)
  | [], [], _ => rfl
  | x :: a, y :: b, h => by
    simp only [lsames, List.length_cons, List.range_succ_eq_map, List.all_cons, List.all_map]
    rw [lsames_any (a := a) (b := b) (by simpa using h)]
    simp [Function.comp_def]
  | [], _ :: _, h => by simp at h
  | _ :: _, [], h => by simp at h
structure HasSame (T : Tab) : Prop where
  whole : T.fn 7 = some fn__law_whole
  same : T.fn 8 = some fn__law_same
theorem lawDs_get : ∀ {m : Nat} {ds : List D} {k : Nat} {d : D}, lawDs m ds = true → ds[k]? = some d → lawD m d = true
  | m, x :: xs, 0, d, h, e => by
    simp only [lawDs, Bool.and_eq_true] at h
    simp at e; rw [← e]; exact h.1
  | m, x :: xs, k + 1, d, h, e => by
    simp only [lawDs, Bool.and_eq_true] at h
    exact lawDs_get h.2 (by simpa using e)
  | m, [], k, d, h, e => by simp at e
theorem loopS_all {α : Type} {step : Sl → α → St Sl} {p : α → Bool} {f : α → Sl} {d : D} {o : Bool} : ∀ {xs : List α} {s : Sl}, (∀ s x, x ∈ xs → step s x = if p x then .nx (f x) else .ret d o) → (xs.all p = true → ∃ s', loopS step xs s = .nx s') ∧ (xs.all p = false → loopS step xs s = .ret d o)
  | [], s, _ => ⟨fun _ => ⟨s, rfl⟩, fun h => by simp at h⟩
  | x :: xs, s, h => by
    have h1 := h s x List.mem_cons_self
    simp only [loopS, h1, List.all_cons]
    cases hp : p x with
    | true => simpa using loopS_all (xs := xs) (s := f x) fun s y hy => h s y (List.mem_cons_of_mem _ hy)
    | false => simp
theorem startE2 {fn : Fn} {a b : D} (h : fn.np = 2) : startE fn [a, b] = .val a :: .val b :: List.replicate (fn.nl - 2) .no := by simp [startE, h]
theorem ev_same0 (h : HasSame T) {m : Nat} {a d : D} (ha : lawD m a = true) (hd : lawD m d = true) (ht : ∀ ds, d ≠ .tup ds) : ev T (n + 2) 8 [a, d] = .ok (.bl (lsame a d)) := by
  rw [ev_eq h.same rfl]
  have hw : ev T (n + 1) 7 [a] = .ok (.bl (wholeD a)) := ev_whole h.whole ha
  cases d with
  | tup ds => exact absurd rfl (ht ds)
  | lst _ => cases m <;> simp [lawD] at hd
  | scr _ => cases m <;> simp [lawD] at hd
  | ins _ _ => cases m <;> simp [lawD] at hd
  | dK _ => cases m <;> simp [lawD] at hd
  | dN _ => cases m <;> simp [lawD] at hd
  | str b =>
    have hb : PyData.strOk b = true := by cases m <;> exact hd
    cases a with
    | lst _ => cases m <;> simp [lawD] at ha
    | scr _ => cases m <;> simp [lawD] at ha
    | ins _ _ => cases m <;> simp [lawD] at ha
    | dK _ => cases m <;> simp [lawD] at ha
    | dN _ => cases m <;> simp [lawD] at ha
    | str c =>
      have hc : PyData.strOk c = true := by cases m <;> exact ha
      simp [fn__law_same, startE, isTy, fresh, isOwn, lsame, cmp_eqS hc hb]
    | _ => simp [fn__law_same, startE, isTy, fresh, isOwn, lsame]
  | _ =>
    cases a with
    | lst _ => cases m <;> simp [lawD] at ha
    | scr _ => cases m <;> simp [lawD] at ha
    | ins _ _ => cases m <;> simp [lawD] at ha
    | dK _ => cases m <;> simp [lawD] at ha
    | dN _ => cases m <;> simp [lawD] at ha
    | _ => simp [fn__law_same, startE, isTy, fresh, isOwn, lsame, hw, wholeD]
theorem ev_same (h : HasSame T) : ∀ (m : Nat) (a d : D), lawD m a = true → lawD m d = true → ev T (n + m + 2) 8 [a, d] = .ok (.bl (lsame a d)) := by
  intro m
  induction m with
  | zero =>
    intro a d ha hd
    exact ev_same0 h ha hd fun ds z => by subst z; simp [lawD] at hd
  | succ m ih =>
    intro a d ha hd
    by_cases ht : ∃ ds, d = .tup ds
    · obtain ⟨ds, rfl⟩ := ht
      show ev T (n + m + 2 + 1) 8 _ = _
      rw [ev_eq h.same rfl]
      cases a with
      | tup as =>
        simp only [lawD, Bool.and_eq_true, decide_eq_true_iff] at ha hd
        have hdl := hd.1
        replace ha := ha.2
        replace hd := hd.2
        by_cases hl : as.length = ds.length
        · have hloop : ∃ s' : Sl, evS T (ev T (n + m + 2)) (.fors (.one 2) (.rng [(.bi .len [(.var 1)])]) [.ifs (.not (.call 8 [(.idx (.var 0) (.var 2)), (.idx (.var 1) (.var 2))])) [.ret (.bl false)] []]) [.val (.tup as), .val (.tup ds), .no] = .ok (if lsames as ds = true then .nx [.val (.tup as), .val (.tup ds), s'] else .ret (.bl false) false) := by
            have key := evS_for (T := T) (cf := ev T (n + m + 2)) (t := .one 2) (src := .rng [.bi .len [.var 1]]) (b := [.ifs (.not (.call 8 [.idx (.var 0) (.var 2), .idx (.var 1) (.var 2)])) [.ret (.bl false)] []]) (e := fun k : Nat => .int (k : Int)) (env := fun s : Sl => [.val (.tup as), .val (.tup ds), s])
              (step := fun (s : Sl) (k : Nat) => if (match as[k]?, ds[k]? with
                | some x, some y => lsame x y
                | _, _ => true) = true then .nx (.val (.int (k : Int))) else .ret (.bl false) false) (xs := List.range ds.length) (s := .no) (fun _ _ => True) (by simp [range1 hdl]) (by simp [srcVar, lkr, anyOwn]) trivial
              (fun _ s k hk _ => by
                have hk := List.mem_range.mp (List.mem_of_getElem? hk)
                have h1 : as[k]? = some (as[k]'(by omega)) := List.getElem?_eq_getElem (by omega)
                have h2 : ds[k]? = some ds[k] := List.getElem?_eq_getElem hk
                have i1 := ih (as[k]'(by omega)) ds[k] (lawDs_get ha h1) (lawDs_get hd h2)
                refine ⟨_, rfl, .inl ?_⟩
                simp only [h1, h2]
                simp [idx_tup h1, idx_tup h2, i1]
                cases lsame (as[k]'(by omega)) ds[k] <;> simp [St.fl, fresh, isOwn])
              (fun _ _ _ _ _ _ _ => trivial)
            have la := lsames_any hl
            obtain ⟨l1, l2⟩ := loopS_all (d := .bl false) (o := false) (step := fun (s : Sl) (k : Nat) => if (match as[k]?, ds[k]? with
                | some x, some y => lsame x y
                | _, _ => true) = true then .nx (.val (.int (k : Int))) else .ret (.bl false) false) (p := fun (k : Nat) => match as[k]?, ds[k]? with
                | some x, some y => lsame x y
                | _, _ => true) (f := fun k : Nat => Sl.val (.int (k : Int))) (xs := List.range ds.length) (s := .no) (fun s x _ => rfl)
            rw [la]
            cases hp : ((List.range ds.length).all fun k => match as[k]?, ds[k]? with
                | some x, some y => lsame x y
                | _, _ => true) with
            | true =>
              obtain ⟨s', e⟩ := l1 hp
              exact ⟨s', by rw [key, e]; rfl⟩
            | false => exact ⟨.no, by rw [key, l2 hp]; rfl⟩
          obtain ⟨s', hloop⟩ := hloop
          cases hs : lsames as ds with
          | true =>
            rw [hs] at hloop
            simp [fn__law_same, startE, isTy, fresh, isOwn, lsame, hl, hloop, hs]
          | false =>
            rw [hs] at hloop
            simp [fn__law_same, startE, isTy, fresh, isOwn, lsame, hl, hloop, hs]
        · have hl2 : ¬ ((as.length : Int) = (ds.length : Int)) := by omega
          have hs : lsames as ds = false := by
            cases hs : lsames as ds with
            | true => exact absurd (lsames_len hs) hl
            | false => rfl
          simp [fn__law_same, startE, isTy, fresh, isOwn, lsame, hl2, hs]
      | lst _ => simp [lawD] at ha
      | scr _ => simp [lawD] at ha
      | ins _ _ => simp [lawD] at ha
      | dK _ => simp [lawD] at ha
      | dN _ => simp [lawD] at ha
      | _ => simp [fn__law_same, startE, isTy, fresh, isOwn, lsame]
    · have := ev_same0 (n := n + (m + 1)) h ha hd fun ds z => ht ⟨ds, z⟩
      exact this
/-! ### _law_cell -/
theorem ev_cell (h : T.fn 9 = some fn__law_cell) (ns : List Int) (k : Nat) : ∃ c : Int, ev T (n + 1) 9 [.scr (ns.map .int), .int k] = .ok (.int c) := by
  by_cases hk : k < ns.length
  · have h1 : (ns.map D.int)[k]? = some (.int ns[k]) := by rw [List.getElem?_map, List.getElem?_eq_getElem hk]; rfl
    refine ⟨ns[k], ?_⟩
    rw [ev_eq h rfl]
    have hk' : ((k : Int) < (ns.length : Int)) := by omega
    simp [fn__law_cell, startE, hk', idx_scr h1, fresh, isOwn]
  · have hk' : ¬ ((k : Int) < (ns.length : Int)) := by omega
    obtain ⟨key, hb⟩ := evS_fold (T := T) (cf := ev T n) (t := .one 3) (src := .seq (.var 0)) (b := [.asg 2 (.bin .mod (.bi .int [(.bin .add (.bin .mul (.var 2) (.int 31)) (.bin .mod (.bi .int [(.var 3)]) (.int 1000003)))]) (.int 1000003))]) (e := D.int)
      (env := fun s : Int × Sl => [.val (.scr (ns.map .int)), .val (.int k), .val (.int s.1), s.2]) (f := fun (s : Int × Sl) (x : Int) => ((s.1 * 31 + x % 1000003) % 1000003, .val (.int x))) (xs := ns) (s := (17, .no)) (fun _ s => 0 ≤ s.1 ∧ s.1 < 1000003)
      (by simp) (by simp [srcVar, mutSs, mutS]) (by decide)
      (fun _ s x _ hP => by
        refine ⟨_, rfl, .inl ?_⟩
        simp [bin_mul (i := s.1) (j := 31) (.inr (by decide)), bin_mod (j := 1000003) (by decide)])
      (fun _ s x _ hP => ⟨Int.emod_nonneg _ (by decide), Int.emod_lt_of_pos _ (by decide)⟩)
    generalize ns.foldl (fun (s : Int × Sl) (x : Int) => ((s.1 * 31 + x % 1000003) % 1000003, Sl.val (.int x))) (17, .no) = z at key hb
    obtain ⟨z, sl⟩ := z
    refine ⟨(z + 7) * ((k : Int) + 3) * 69621 % 2147483647, ?_⟩
    rw [ev_eq h rfl]
    simp [fn__law_cell, startE, hk', key, fresh, isOwn, bin_mul (i := z + 7) (j := (k : Int) + 3) (.inl (by dsimp only at hb; omega)), bin_mul (i := (z + 7) * ((k : Int) + 3)) (j := 69621) (.inr (by decide)), bin_mod (j := 2147483647) (by decide)]
/-! ### _law_digits -/
/-- digits with their sizes -/
def Dig (ds sizes : List Int) : Prop := ds.length = sizes.length ∧ ∀ (i : Nat) (z : Int), sizes[i]? = some z → ∃ d, ds[i]? = some d ∧ 0 ≤ d ∧ d < z
theorem Dig.get {ds sizes : List Int} (h : Dig ds sizes) {i : Nat} {z : Int} (e : sizes[i]? = some z) : ∃ d, ds[i]? = some d ∧ 0 ≤ d ∧ d < z := h.2 i z e
/-- the first k of them -/
def DigK (ds sizes : List Int) (k : Nat) : Prop := ds.length = k ∧ ∀ (i : Nat) (z : Int), i < k → sizes[i]? = some z → ∃ d, ds[i]? = some d ∧ 0 ≤ d ∧ d < z
theorem DigK.snoc {ds sizes : List Int} {k : Nat} {z d : Int} (h : DigK ds sizes k) (hz : sizes[k]? = some z) (h0 : 0 ≤ d) (h1 : d < z) : DigK (ds ++ [d]) sizes (k + 1) := by
  refine ⟨by simp [h.1], fun i w hi hw => ?_⟩
  by_cases he : i = k
  · subst he
    rw [hz] at hw; cases hw
    exact ⟨d, by rw [List.getElem?_append_right (by rw [h.1]; exact Nat.le_refl _), h.1, Nat.sub_self]; rfl, h0, h1⟩
  · obtain ⟨d', e1, e2⟩ := h.2 i w (by omega) hw
    exact ⟨d', by rw [List.getElem?_append_left (by rw [h.1]; omega)]; exact e1, e2⟩
theorem DigK.all {ds sizes : List Int} (h : DigK ds sizes sizes.length) : Dig ds sizes := ⟨h.1, fun i z e => h.2 i z (List.getElem?_eq_some_iff.mp e).1 e⟩
def Sizes (sizes : List Int) : Prop := sizes.length < lineSz ∧ ∀ z ∈ sizes, 0 < z ∧ z < 1073741824
theorem ev_digits (h : T.fn 10 = some fn__law_digits) (c : Int) (sizes : List Int) (hs : Sizes sizes) : ∃ ds : List Int, ev T (n + 1) 10 [.int c, li sizes] = .ok (li ds) ∧ Dig ds sizes := by
  obtain ⟨hl, hz⟩ := hs
  by_cases hc : (1000000000000000000 : Int) ≤ c
  · obtain ⟨key, hb⟩ := evS_fold (T := T) (cf := ev T n) (t := .one 6) (src := .seq (.var 1)) (b := [.app 2 (.bin .mod (.bi .int [(.var 3)]) (.var 6)), .asg 3 (.bin .fdiv (.bi .int [(.var 3)]) (.var 6))]) (e := D.int)
      (env := fun s : List Int × Int × Sl => [.val (.int c), .val (li sizes), .own (li s.1), .val (.int s.2.1), .no, .no, s.2.2, .no]) (f := fun s z => (s.1 ++ [s.2.1 % z], s.2.1 / z, .val (.int z))) (xs := sizes) (s := ([], c - 1000000000000000000, .no)) (fun k s => DigK s.1 sizes k)
      (by simp) (by simp [srcVar, mutSs, mutS]) ⟨rfl, fun i z hi => by omega⟩
      (fun k s z hk hP => by
        have h0 := (hz z (List.mem_of_getElem? hk))
        have hkl := (List.getElem?_eq_some_iff.mp hk).1
        refine ⟨_, rfl, .inl ?_⟩
        have ha := app_pure (ρ := [.val (.int c), .val (li sizes), .own (li s.1), .val (.int s.2.1), .no, .no, .val (.int z), .no]) (i := 2) (e := .bin .mod (.bi .int [(.var 3)]) (.var 6)) (ds := s.1.map .int) (d := .int (s.2.1 % z)) rfl rfl (by rw [List.length_map, hP.1]; omega)
        simp [bin_mod h0.1, bin_fdiv h0.1 h0.2, ha])
      (fun k s z hk hP => by
        have h0 := (hz z (List.mem_of_getElem? hk))
        exact hP.snoc hk (Int.emod_nonneg _ (by omega)) (Int.emod_lt_of_pos _ h0.1))
    generalize sizes.foldl _ _ = s at key hb
    refine ⟨s.1, ?_, hb.all⟩
    rw [ev_eq h rfl]
    simp only [List.map_nil, li] at key
    simp [fn__law_digits, startE, hc, key, fresh, isOwn]
  · have hb0 : 0 ≤ c % 2147483629 ∧ c % 2147483629 < 2147483647 := ⟨Int.emod_nonneg _ (by decide), by have := Int.emod_lt_of_pos c (show (0 : Int) < 2147483629 by decide); omega⟩
    obtain ⟨key, hb⟩ := evS_fold (T := T) (cf := ev T n) (t := .one 5) (src := .rng [.bi .len [.var 1]]) (b := [.asg 4 (.bin .mod (.bi .int [(.bin .add (.bin .add (.bin .mul (.var 4) (.int 48271)) (.bin .mul (.int 974711) (.var 5))) (.int 12345))]) (.int 2147483647)), .asg 7 (.bin .mod (.bi .int [(.bin .mul (.var 4) (.bin .add (.bin .fdiv (.var 4) (.int 65537)) (.int 3)))]) (.int 2147483629)), .app 2 (.bin .mod (.bin .fdiv (.var 7) (.int 19)) (.idx (.var 1) (.var 5)))]) (e := fun k : Nat => .int (k : Int))
      (env := fun s : List Int × Int × Sl × Sl => [.val (.int c), .val (li sizes), .own (li s.1), .val (.int c), .val (.int s.2.1), s.2.2.1, .no, s.2.2.2])
      (f := fun s k => (s.1 ++ [((s.2.1 * 48271 + 974711 * (k : Int) + 12345) % 2147483647 * ((s.2.1 * 48271 + 974711 * (k : Int) + 12345) % 2147483647 / 65537 + 3)) % 2147483629 / 19 % (sizes[k]?).getD 1], (s.2.1 * 48271 + 974711 * (k : Int) + 12345) % 2147483647, .val (.int (k : Int)), .val (.int (((s.2.1 * 48271 + 974711 * (k : Int) + 12345) % 2147483647 * ((s.2.1 * 48271 + 974711 * (k : Int) + 12345) % 2147483647 / 65537 + 3)) % 2147483629))))
      (xs := List.range sizes.length) (s := ([], c % 2147483629, .no, .no)) (fun k s => DigK s.1 sizes k ∧ 0 ≤ s.2.1 ∧ s.2.1 < 2147483647)
      (by simp [range1 (m := sizes.length) (by omega)]) (by simp [srcVar, lkr, anyOwn]) ⟨⟨rfl, fun i z hi => by omega⟩, hb0⟩
      (fun i s k hk hP => by
        obtain ⟨hi, hk⟩ := List.getElem?_eq_some_iff.mp hk
        rw [List.length_range] at hi
        rw [List.getElem_range] at hk
        subst hk
        obtain ⟨hP, h1, h2⟩ := hP
        have hg : sizes[i]? = some sizes[i] := List.getElem?_eq_getElem hi
        have h0 := hz _ (List.mem_of_getElem? hg)
        have hg2 : (sizes.map D.int)[i]? = some (.int sizes[i]) := by rw [List.getElem?_map, hg]; rfl
        refine ⟨_, rfl, .inl ?_⟩
        rw [hg]
        simp only [Option.getD_some]
        generalize hA : (s.2.1 * 48271 + 974711 * (i : Int) + 12345) % 2147483647 = A
        have hA0 : 0 ≤ A ∧ A < 2147483647 := by rw [← hA]; exact ⟨Int.emod_nonneg _ (by decide), Int.emod_lt_of_pos _ (by decide)⟩
        have ha := app_pure (ρ := [.val (.int c), .val (li sizes), .own (li s.1), .val (.int c), .val (.int A), .val (.int (i : Int)), .no, .val (.int (A * (A / 65537 + 3) % 2147483629))]) (i := 2) (e := .bin .mod (.bin .fdiv (.var 7) (.int 19)) (.idx (.var 1) (.var 5))) (ds := s.1.map .int) (d := .int (A * (A / 65537 + 3) % 2147483629 / 19 % sizes[i])) rfl rfl (by rw [List.length_map, hP.1]; omega)
        simp [bin_mul (i := s.2.1) (j := 48271) (.inr (by decide)), bin_mul (i := 974711) (j := (i : Int)) (.inl (by decide)), bin_mod (j := 2147483647) (by decide), hA, bin_fdiv (j := 65537) (by decide) (by decide),
          bin_mul (i := A) (j := A / 65537 + 3) (.inl (by omega)), bin_mod (j := 2147483629) (by decide), bin_fdiv (j := 19) (by decide) (by decide), idx_lst hg2, bin_mod h0.1, ha])
      (fun i s k hk hP => by
        obtain ⟨hi, hk⟩ := List.getElem?_eq_some_iff.mp hk
        rw [List.length_range] at hi
        rw [List.getElem_range] at hk
        subst hk
        have hg : sizes[i]? = some sizes[i] := List.getElem?_eq_getElem hi
        have h0 := hz _ (List.mem_of_getElem? hg)
        rw [hg]
        exact ⟨hP.1.snoc hg (Int.emod_nonneg _ (by simp only [Option.getD_some]; omega)) (Int.emod_lt_of_pos _ h0.1), Int.emod_nonneg _ (by decide), Int.emod_lt_of_pos _ (by decide)⟩)
    rw [List.length_range] at hb
    generalize (List.range sizes.length).foldl _ _ = s at key hb
    refine ⟨s.1, ?_, hb.1.all⟩
    rw [ev_eq h rfl]
    simp only [List.map_nil, li] at key
    simp [fn__law_digits, startE, hc, key, fresh, isOwn, bin_mod (j := 2147483629) (by decide)]
end
end Ev

set_option linter.all false
set_option autoImplicit false
set_option maxRecDepth 10000
/-! Plain laws: sets of places. -/
namespace Ev
open PySem
def fn_contains_all : Fn := { np := 2, nl := 4, fr := false, body := [.asg 2 (.comp (.var 3) 3 (.seq (.var 1)) (some (.cmp .notin (.var 3) (.var 0)))), .ret (.cmp .eq (.bi .len [(.var 2)]) (.int 0))] }
def fn__law_inside : Fn := { np := 2, nl := 4, fr := false, body := [.asg 2 (.comp (.var 3) 3 (.seq (.var 0)) (some (.cmp .notin (.var 3) (.var 1)))), .ret (.cmp .eq (.bi .len [(.var 2)]) (.int 0))] }
def fn_have_common : Fn := { np := 2, nl := 4, fr := false, body := [.asg 2 (.comp (.var 3) 3 (.seq (.var 0)) (some (.cmp .isin (.var 3) (.var 1)))), .ret (.cmp .gt (.bi .len [(.var 2)]) (.int 0))] }
def fn__law_meet : Fn := { np := 2, nl := 4, fr := false, body := [.asg 2 (.comp (.var 3) 3 (.seq (.var 0)) (some (.cmp .isin (.var 3) (.var 1)))), .ret (.cmp .gt (.bi .len [(.var 2)]) (.int 0))] }

section
variable {T : Tab} {n : Nat}
@[simp] theorem cmp_inI {i : Int} {xs : List Int} : cmpD .isin (.int i) (ti xs) = .ok (decide (i ∈ xs)) := by simp only [cmpD, hasD]; exact inD_enc enc_int i xs
@[simp] theorem cmp_notinI {i : Int} {xs : List Int} : cmpD .notin (.int i) (ti xs) = .ok (!decide (i ∈ xs)) := by simp only [cmpD, hasD]; rw [inD_enc enc_int i xs]
@[simp] theorem cmp_inIL {i : Int} {xs : List Int} : cmpD .isin (.int i) (li xs) = .ok (decide (i ∈ xs)) := by simp only [cmpD, hasD]; exact inD_enc enc_int i xs
@[simp] theorem cmp_notinIL {i : Int} {xs : List Int} : cmpD .notin (.int i) (li xs) = .ok (!decide (i ∈ xs)) := by simp only [cmpD, hasD]; rw [inD_enc enc_int i xs]
/-- all of a stand in b -/
def sub (a b : List Int) : Bool := decide (∀ x ∈ a, x ∈ b)
def meets (a b : List Int) : Bool := decide (∃ x ∈ a, x ∈ b)
theorem sub_len {a b : List Int} : decide ((a.filter fun x => !decide (x ∈ b)).length = 0) = sub a b := by
  rw [Bool.eq_iff_iff, sub, decide_eq_true_iff, decide_eq_true_iff]
  constructor
  · intro h x hx
    have h0 : (a.filter fun x => !decide (x ∈ b)) = [] := List.length_eq_zero_iff.mp (by omega)
    simpa using List.filter_eq_nil_iff.mp h0 x hx
  · intro h
    have h0 : (a.filter fun x => !decide (x ∈ b)) = [] := List.filter_eq_nil_iff.mpr fun x hx => by simpa using h x hx
    rw [h0]; rfl
theorem meets_len {a b : List Int} : decide (0 < (a.filter fun x => decide (x ∈ b)).length) = meets a b := by
  rw [Bool.eq_iff_iff, meets, decide_eq_true_iff, decide_eq_true_iff]
  constructor
  · intro h
    obtain ⟨x, hx⟩ := List.exists_mem_of_length_pos (l := a.filter fun x => decide (x ∈ b)) (by omega)
    exact ⟨x, (List.mem_filter.mp hx).1, by simpa using (List.mem_filter.mp hx).2⟩
  · rintro ⟨x, hx, h2⟩
    have := List.length_pos_of_mem (List.mem_filter (p := fun x => decide (x ∈ b)).mpr ⟨hx, by simpa using h2⟩)
    omega
/-- out = [x for x in a if x not in b]; return len(out) == 0 -/
theorem body_sub {cf : Nat → List D → R D} {ia ib : Nat} {a b : List Int} {s0 s1 : Sl} (hl : a.length ≤ lineSz) (ρ : Env) (h0 : ρ.length = 4) (ha : ρ[ia]? = some (.val (ti a))) (hb : ρ[ib]? = some (.val (ti b))) (hib : ib ≠ 3) (h3 : anyOwn [3] ρ = false) (hia2 : ia ≠ 2) :
    evSs T cf [.asg 2 (.comp (.var 3) 3 (.seq (.var ia)) (some (.cmp .notin (.var 3) (.var ib)))), .ret (.cmp .eq (.bi .len [(.var 2)]) (.int 0))] ρ = .ok (.ret (.bl (sub a b)) false) := by
  have l3 : ∀ d, (ρ.set 3 (.val d))[3]? = some (.val d) := fun d => by rw [List.getElem?_set_self (by omega)]
  have lb : ∀ d, (ρ.set 3 (.val d))[ib]? = some (.val (ti b)) := fun d => by rw [List.getElem?_set_ne (Ne.symm hib)]; exact hb
  have hc := comp_if (T := T) (cf := cf) (ρ := ρ) (elt := .var 3) (c := .cmp .notin (.var 3) (.var ib)) (x := 3) (src := .seq (.var ia)) (e := D.int) (p := fun x => !decide (x ∈ b)) (g := D.int) (xs := a) (by simp [ha]) (by simpa [lkr, lkb] using h3) hl (fun x _ => by simp [l3, lb]) (fun x _ _ => by simp [l3])
  simp only [evSs_cons, evS_asg, hc, asgS_ok]
  rw [bind_new (by simpa [lks] using h3) (by simp [fresh])]
  have l2 : (ρ.set 2 (Sl.own (.lst ((a.filter fun x => !decide (x ∈ b)).map D.int))))[2]? = some (Sl.own (.lst ((a.filter fun x => !decide (x ∈ b)).map D.int))) := by rw [List.getElem?_set_self (by omega)]
  have := sub_len (a := a) (b := b)
  simp [l2, fresh, isOwn, -List.length_eq_zero_iff, this]
theorem body_meets {cf : Nat → List D → R D} {a b : List Int} (hl : a.length ≤ lineSz) (ρ : Env) (h0 : ρ.length = 4) (ha : ρ[0]? = some (.val (ti a)) ∨ ρ[0]? = some (.val (li a))) (hb : ρ[1]? = some (.val (ti b))) (h3 : anyOwn [3] ρ = false) :
    evSs T cf [.asg 2 (.comp (.var 3) 3 (.seq (.var 0)) (some (.cmp .isin (.var 3) (.var 1)))), .ret (.cmp .gt (.bi .len [(.var 2)]) (.int 0))] ρ = .ok (.ret (.bl (meets a b)) false) := by
  have l3 : ∀ d, (ρ.set 3 (.val d))[3]? = some (.val d) := fun d => by rw [List.getElem?_set_self (by omega)]
  have lb : ∀ d, (ρ.set 3 (.val d))[1]? = some (.val (ti b)) := fun d => by rw [List.getElem?_set_ne (by decide)]; exact hb
  have hs : evSrc T cf ρ (.seq (.var 0)) = .ok (a.map .int) := by rcases ha with ha | ha <;> simp [ha]
  have hc := comp_if (T := T) (cf := cf) (ρ := ρ) (elt := .var 3) (c := .cmp .isin (.var 3) (.var 1)) (x := 3) (src := .seq (.var 0)) (e := D.int) (p := fun x => decide (x ∈ b)) (g := D.int) (xs := a) hs (by simpa [lkr, lkb] using h3) hl (fun x _ => by simp [l3, lb]) (fun x _ _ => by simp [l3])
  simp only [evSs_cons, evS_asg, hc, asgS_ok]
  rw [bind_new (by simpa [lks] using h3) (by simp [fresh])]
  have l2 : (ρ.set 2 (Sl.own (.lst ((a.filter fun x => decide (x ∈ b)).map D.int))))[2]? = some (Sl.own (.lst ((a.filter fun x => decide (x ∈ b)).map D.int))) := by rw [List.getElem?_set_self (by omega)]
  simp [l2, fresh, isOwn, meets]
theorem ev_contains (h : T.fn 19 = some fn_contains_all) (p o : List Int) (hl : o.length ≤ lineSz) : ev T (n + 1) 19 [ti p, ti o] = .ok (.bl (sub o p)) := by
  rw [ev_eq h rfl]
  have := body_sub (T := T) (cf := ev T n) (ia := 1) (ib := 0) (a := o) (b := p) (s0 := .no) (s1 := .no) hl [.val (ti p), .val (ti o), .no, .no] rfl rfl rfl (by decide) (by simp [anyOwn]) (by decide)
  simp [fn_contains_all, startE, this, -evSs_cons]
theorem ev_inside (h : T.fn 29 = some fn__law_inside) (a b : List Int) (hl : a.length ≤ lineSz) : ev T (n + 1) 29 [ti a, ti b] = .ok (.bl (sub a b)) := by
  rw [ev_eq h rfl]
  have := body_sub (T := T) (cf := ev T n) (ia := 0) (ib := 1) (a := a) (b := b) (s0 := .no) (s1 := .no) hl [.val (ti a), .val (ti b), .no, .no] rfl rfl rfl (by decide) (by simp [anyOwn]) (by decide)
  simp [fn__law_inside, startE, this, -evSs_cons]
theorem ev_common (h : T.fn 22 = some fn_have_common) (a b : List Int) (hl : a.length ≤ lineSz) : ev T (n + 1) 22 [ti a, ti b] = .ok (.bl (meets a b)) := by
  rw [ev_eq h rfl]
  have := body_meets (T := T) (cf := ev T n) (a := a) (b := b) hl [.val (ti a), .val (ti b), .no, .no] rfl (.inl rfl) rfl (by simp [anyOwn])
  simp [fn_have_common, startE, this, -evSs_cons]
theorem ev_meet (h : T.fn 12 = some fn__law_meet) (a b : List Int) (hl : a.length ≤ lineSz) : ev T (n + 1) 12 [ti a, ti b] = .ok (.bl (meets a b)) := by
  rw [ev_eq h rfl]
  have := body_meets (T := T) (cf := ev T n) (a := a) (b := b) hl [.val (ti a), .val (ti b), .no, .no] rfl (.inl rfl) rfl (by simp [anyOwn])
  simp [fn__law_meet, startE, this, -evSs_cons]
theorem ev_meetL (h : T.fn 12 = some fn__law_meet) (a b : List Int) (hl : a.length ≤ lineSz) : ev T (n + 1) 12 [li a, ti b] = .ok (.bl (meets a b)) := by
  rw [ev_eq h rfl]
  have := body_meets (T := T) (cf := ev T n) (a := a) (b := b) hl [.val (li a), .val (ti b), .no, .no] rfl (.inr rfl) rfl (by simp [anyOwn])
  simp [fn__law_meet, startE, this, -evSs_cons]
end
end Ev

set_option linter.all false
set_option autoImplicit false
set_option maxRecDepth 10000
/-! Plain laws: least families. -/
namespace Ev
open PySem
def fn_least_family : Fn := { np := 1, nl := 5, fr := false, body := [.asg 1 (.dnew true), .fors (.one 2) (.seq (.var 0)) [.asg 3 (.comp (.var 4) 4 (.seq (.var 0)) (some (.and (.cmp .ne (.var 4) (.var 2)) (.call 19 [(.var 2), (.var 4)])))), .ifs (.cmp .eq (.bi .len [(.var 3)]) (.int 0)) [.seti 1 (.var 2) (.bl true)] []], .ret (.bi .tuple [(.sorts (.bi .list [(.var 1)]))])] }
def fn__law_least_sets : Fn := { np := 1, nl := 6, fr := true, body := [.asg 1 (.lst []), .fors (.one 2) (.seq (.var 0)) [.asg 3 (.comp (.var 5) 5 (.seq (.var 0)) (some (.and (.cmp .ne (.var 5) (.var 2)) (.call 29 [(.var 5), (.var 2)])))), .ifs (.and (.cmp .eq (.bi .len [(.var 3)]) (.int 0)) (.cmp .notin (.tup [(.bi .len [(.var 2)]), (.var 2)]) (.var 1))) [.app 1 (.tup [(.bi .len [(.var 2)]), (.var 2)])] []], .ret (.comp (.idx (.var 4) (.int 1)) 4 (.seq (.bi .sorted [(.var 1)])) none)] }

/-! ### dicts with keys that are tuples of whole numbers -/
theorem nkeys_ints : ∀ (q : List Int), nkeys (q.map D.int) = some (q.map NestedKey.num)
  | [] => rfl
  | x :: q => by simp [nkeys, nkey, nkeys_ints q]
theorem depth_nums : ∀ (q : List Int), NestedKey.depthAll (q.map NestedKey.num) = 0
  | [] => by simp [NestedKey.depthAll]
  | x :: q => by simp [NestedKey.depthAll, NestedKey.depth, depth_nums q]
theorem nkeyT_ti (q : List Int) : nkeyT (ti q) = some (.tup (q.map NestedKey.num)) := by
  unfold nkeyT
  simp [ti, nkeys_ints, NestedKey.depth, depth_nums]
theorem num_inj {a b : List Int} (h : a.map NestedKey.num = b.map NestedKey.num) : a = b := by
  induction a generalizing b with
  | nil => cases b <;> simp at h; rfl
  | cons x a ih =>
    cases b with
    | nil => simp at h
    | cons y b =>
      simp only [List.map_cons, List.cons.injEq, NestedKey.num.injEq] at h
      rw [h.1, ih h.2]
theorem key_eq (a q : List Int) : decide (nkeyT (ti a) = some (.tup (q.map NestedKey.num))) = decide (a = q) := by
  rw [nkeyT_ti, decide_eq_decide]
  constructor
  · intro h
    simp only [Option.some.injEq, NestedKey.tup.injEq] at h
    exact num_inj h
  · intro h; rw [h]
/-- a dict of whole-number tuples, by its pairs -/
abbrev dti {α : Type} (e : α → D) (kvs : List (List Int × α)) : List (D × D) := kvs.map fun p => (ti p.1, e p.2)
theorem getN_ti {α : Type} {e : α → D} {kvs : List (List Int × α)} {q : List Int} : getN (dti e kvs) (.tup (q.map NestedKey.num)) = ((kvs.find? fun p => decide (p.1 = q)).map (·.2)).map e := by
  unfold getN dti
  rw [List.find?_map]
  have : ((fun kv : D × D => decide (nkeyT kv.1 = some (.tup (q.map NestedKey.num)))) ∘ fun p : List Int × α => (ti p.1, e p.2)) = fun p => decide (p.1 = q) := by
    funext p
    exact key_eq p.1 q
  rw [this]
  cases kvs.find? fun p => decide (p.1 = q) <;> rfl
/-- the keys of a dict that is a set -/
def ins (acc : List (List Int)) (q : List Int) : List (List Int) := if q ∈ acc then acc else acc ++ [q]
abbrev dset (acc : List (List Int)) : List (D × D) := acc.map fun q => (ti q, .bl true)
theorem put_set {acc : List (List Int)} {q : List Int} (hl : acc.length < lineSz) : dput (.dN (dset acc)) (ti q) (.bl true) = .ok (.dN (dset (ins acc q))) := by
  have hg : getN (dset acc) (.tup (q.map NestedKey.num)) = if q ∈ acc then some (.bl true) else none := by
    have := getN_ti (e := fun _ : Unit => D.bl true) (kvs := acc.map fun q => (q, ())) (q := q)
    simp only [dti, List.map_map] at this
    rw [show dset acc = acc.map ((fun p : List Int × Unit => (ti p.1, D.bl true)) ∘ fun q => (q, ())) from rfl, this, List.find?_map]
    by_cases hq : q ∈ acc
    · rw [if_pos hq]
      have : ∃ x, acc.find? ((fun p : List Int × Unit => decide (p.1 = q)) ∘ fun q => (q, ())) = some x := by
        rw [← Option.isSome_iff_exists, List.find?_isSome]
        exact ⟨q, hq, by simp⟩
      obtain ⟨x, hx⟩ := this
      rw [hx]; rfl
    · rw [if_neg hq]
      have : acc.find? ((fun p : List Int × Unit => decide (p.1 = q)) ∘ fun q => (q, ())) = none := by
        rw [List.find?_eq_none]
        intro x hx z
        simp at z
        exact hq (z ▸ hx)
      rw [this]; rfl
  unfold dput
  simp only [nkeyT_ti]
  rw [if_pos (by rw [List.length_map]; exact hl)]
  congr 2
  unfold putN ins
  rw [hg]
  by_cases hq : q ∈ acc
  · simp only [if_pos hq, Option.isSome_some, if_true]
    rw [List.map_map]
    refine List.map_congr_left fun x hx => ?_
    simp only [Function.comp_apply]
    split <;> rfl
  · simp only [if_neg hq]
    simp [dset]
section
variable {T : Tab} {cf : Nat → List D → R D} {ρ : Env} {n : Nat}
theorem seti_dN {i : Nat} {k e : E} {kvs : List (D × D)} {y d x' : D} (h1 : ρ[i]? = some (.own (.dN kvs))) (he : evE T cf ρ e = .ok d) (hd : noMut d = true) (hk : evE T cf ρ k = .ok y) (ho : anyOwn (lks k) ρ = false) (hp : dput (.dN kvs) y d = .ok x') :
    evS T cf (.seti i k e) ρ = .ok (.nx (ρ.set i (.own x'))) := by
  have : isOwnM ρ i = true := by unfold isOwnM; rw [h1]
  simp only [evS, this, if_true, he, hk, ok_bind, kept_pure hd, h1, ho, hp]
  simp
@[simp] theorem evE_sorts {e : E} : evE T cf ρ (.sorts e) = (evE T cf ρ e >>= fun x => match x with
  | .lst ds => if szOk ds then .ok (.lst (sortSz ds)) else .bad
  | _ => .bad) := by simp only [evE]; try rfl
theorem pys_ints : ∀ (xs : List Int), pys (xs.map .int) = some (xs.map .int)
  | [] => rfl
  | x :: xs => by simp [pys, py, pys_ints xs]
theorem alike_ints : ∀ (a b : List Int), PySem.W.alikeAll (a.map PyData.int) (b.map PyData.int) = true
  | [], _ => by simp [PySem.W.alikeAll]
  | _ :: _, [] => by simp [PySem.W.alikeAll]
  | x :: a, y :: b => by simp [PySem.W.alikeAll, PySem.W.alike, alike_ints a b]
theorem lay_ints : ∀ (xs : List Int), PyData.canLayAll0 (xs.map .int) = true
  | [] => by simp [PyData.canLayAll0]
  | x :: xs => by simp [PyData.canLayAll0, PyData.canLay0, lay_ints xs]
theorem dep_ints : ∀ (xs : List Int), PyData.depthAll (xs.map .int) = 0
  | [] => by simp [PyData.depthAll]
  | x :: xs => by simp [PyData.depthAll, PyData.depth, dep_ints xs]
theorem szKey_ti (q : List Int) : szKey (ti q) = .tuple [.int q.length, .tuple (q.map .int)] := by simp [szKey, ti, pys_ints]
theorem szOk_ti {K : List (List Int)} (hl : K.length ≤ lineSz) : szOk (K.map ti) = true := by
  simp only [szOk, Bool.and_eq_true, List.all_eq_true, decide_eq_true_eq, List.length_map]
  refine ⟨⟨fun d hd => ?_, fun d hd e he => ?_⟩, hl⟩
  · obtain ⟨q, _, rfl⟩ := List.mem_map.mp hd
    have h1 : noMuts (q.map D.int) = true := noMuts_map fun _ _ => rfl
    have h2 := szKey_ti q
    simp only [ti] at h2
    simp [ti, h1, pys_ints, h2, SeqAt.shaped, PyData.canLay0, PyData.canLayAll0, lay_ints, PyData.depth, PyData.depthAll, dep_ints]
  · obtain ⟨q, _, rfl⟩ := List.mem_map.mp hd
    obtain ⟨r, _, rfl⟩ := List.mem_map.mp he
    rw [szKey_ti, szKey_ti]
    simp [PySem.W.alike, PySem.W.alikeAll, alike_ints]
/-- by length, then by places -/
def szLe (a b : List Int) : Bool := PySem.W.dataLe false szKey (ti a) (ti b)
theorem sortSz_ti (K : List (List Int)) : sortSz (K.map ti) = (K.mergeSort szLe).map ti := by
  unfold sortSz
  rw [List.map_mergeSort (s := PySem.W.dataLe false szKey)]
  intro a _ b _; rfl
/-! ### least_family -/
def low (F : List (List Int)) (q : List Int) : Bool := decide (∀ o ∈ F, o ≠ q → sub o q = false)
def leastK (F : List (List Int)) : List (List Int) := F.foldl (fun acc q => if low F q then ins acc q else acc) []
theorem low_len {F : List (List Int)} {q : List Int} : decide ((F.filter fun o => !decide (o = q) && sub o q).length = 0) = low F q := by
  rw [Bool.eq_iff_iff, low, decide_eq_true_iff, decide_eq_true_iff, List.length_eq_zero_iff, List.filter_eq_nil_iff]
  constructor
  · intro h o ho hne
    have := h o ho
    simpa [hne] using this
  · intro h o ho
    by_cases he : o = q
    · simp [he]
    · simp [h o ho he]
/-- families as the laws draw them -/
structure Fam (F : List (List Int)) : Prop where
  len : F.length < lineSz
  short : ∀ q ∈ F, q.length ≤ lineSz
theorem ins_len {acc : List (List Int)} {q : List Int} : (ins acc q).length ≤ acc.length + 1 := by
  unfold ins; split
  · omega
  · simp
structure HasLeast (T : Tab) : Prop where
  con : T.fn 19 = some fn_contains_all
  least : T.fn 21 = some fn_least_family
theorem ev_least (h : HasLeast T) {F : List (List Int)} (hF : Fam F) : ev T (n + 2) 21 [.tup (F.map ti)] = .ok (.tup (((leastK F).mergeSort szLe).map ti)) := by
  rw [ev_eq h.least rfl]
  obtain ⟨key, hb⟩ := evS_fold (T := T) (cf := ev T (n + 1)) (t := .one 2) (src := .seq (.var 0)) (b := [.asg 3 (.comp (.var 4) 4 (.seq (.var 0)) (some (.and (.cmp .ne (.var 4) (.var 2)) (.call 19 [(.var 2), (.var 4)])))), .ifs (.cmp .eq (.bi .len [(.var 3)]) (.int 0)) [.seti 1 (.var 2) (.bl true)] []]) (e := ti)
    (env := fun s : List (List Int) × Sl × Sl => [.val (.tup (F.map ti)), .own (.dN (dset s.1)), s.2.1, s.2.2, .no]) (f := fun s q => (if low F q then ins s.1 q else s.1, .val (ti q), .own (.lst ((F.filter fun o => !decide (o = q) && sub o q).map ti)))) (xs := F) (s := ([], .no, .no)) (fun k s => s.1.length ≤ k)
    (by simp) (by simp [srcVar, mutSs, mutS]) (by simp)
    (fun k s q hk hP => by
      have hq := List.mem_of_getElem? hk
      have hkl := (List.getElem?_eq_some_iff.mp hk).1
      have hFl := hF.len
      refine ⟨_, rfl, .inl ?_⟩
      have hc := comp_if (T := T) (cf := ev T (n + 1)) (ρ := [.val (.tup (F.map ti)), .own (.dN (dset s.1)), .val (ti q), s.2.2, .no]) (elt := .var 4) (c := .and (.cmp .ne (.var 4) (.var 2)) (.call 19 [(.var 2), (.var 4)])) (x := 4) (src := .seq (.var 0)) (e := ti) (p := fun o => !decide (o = q) && sub o q) (g := ti) (xs := F)
        (by simp) (by simp [anyOwn, lkr, lkb]) (by omega)
        (fun o ho => by
          have e1 := ev_contains (n := n) h.con q o (hF.short o ho)
          simp only [evE_and]
          rw [show evE T (ev T (n + 1)) (List.set [Sl.val (.tup (F.map ti)), Sl.own (.dN (dset s.1)), Sl.val (ti q), s.2.2, Sl.no] 4 (.val (ti o))) (.cmp .ne (.var 4) (.var 2)) = .ok (.bl (!decide (o = q))) by simp]
          exact andE_b (by simp [e1]))
        (fun o ho _ => by simp)
      have hlow := low_len (F := F) (q := q)
      have hput := seti_dN (T := T) (cf := ev T (n + 1)) (ρ := [.val (.tup (F.map ti)), .own (.dN (dset s.1)), .val (ti q), .own (.lst ((F.filter fun o => !decide (o = q) && sub o q).map ti)), .no]) (i := 1) (k := .var 2) (e := .bl true) (kvs := dset s.1) (y := ti q) (d := .bl true) (x' := .dN (dset (ins s.1 q))) rfl (by simp) rfl (by simp) (by simp [anyOwn, lks]) (put_set (by omega))
      simp only [evSs_cons, evS_asg, List.set_cons_succ, List.set_cons_zero, hc, asgS_ok]
      rw [bind_new (by simp [lks, anyOwn]) (by simp [fresh])]
      simp only [evS_ifs, evE_cmp, evE_bi, evEs_cons, evEs_nil, evE_var, evE_int, seqS_nx, List.set_cons_succ, List.set_cons_zero]
      cases hl : low F q with
      | true =>
        rw [hl] at hlow
        have hlow := of_decide_eq_true hlow
        simp [hlow, hput]
      | false =>
        rw [hl] at hlow
        have hlow := of_decide_eq_false hlow
        simp [hlow])
    (fun k s q hk hP => by
      dsimp only
      split
      · exact Nat.le_trans ins_len (by omega)
      · omega)
  have hfold : ∀ (xs : List (List Int)) (s : List (List Int) × Sl × Sl), (xs.foldl (fun s q => (if low F q then ins s.1 q else s.1, Sl.val (ti q), Sl.own (.lst ((F.filter fun o => !decide (o = q) && sub o q).map ti)))) s).1 = xs.foldl (fun acc q => if low F q then ins acc q else acc) s.1 := by
    intro xs
    induction xs with
    | nil => exact fun s => rfl
    | cons x xs ih => exact fun s => ih _
  have hk := hfold F ([], .no, .no)
  generalize F.foldl (fun (s : List (List Int) × Sl × Sl) q => (if low F q then ins s.1 q else s.1, Sl.val (ti q), Sl.own (.lst ((F.filter fun o => !decide (o = q) && sub o q).map ti)))) ([], .no, .no) = s at key hb hk
  have hl2 : (leastK F).length ≤ lineSz := by
    have := hF.len
    unfold leastK
    rw [← hk]; omega
  have hk2 : s.1 = leastK F := hk
  rw [hk2] at key
  simp only [dset, List.map_nil] at key
  have hkeys : ((leastK F).map fun q => (ti q, D.bl true)).map (·.1) = (leastK F).map ti := by rw [List.map_map]; rfl
  simp [fn_least_family, startE, key, fresh, isOwn, hkeys, szOk_ti hl2, sortSz_ti]
/-! ### _law_least_sets -/
abbrev pr (q : List Int) : D := .tup [.int q.length, ti q]
theorem enc_pr : Enc pr := ⟨fun a => by
  have h : cleans 8 (a.map D.int) = true := cleans_map fun b _ => rfl
  simp [pr, clean, cleans, ti, h], fun a b h => by
  simp only [pr, D.tup.injEq, List.cons.injEq, ti] at h
  exact map_inj enc_int.inj h.2.1⟩
theorem pyD_pr (q : List Int) : pyD (pr q) = szKey (ti q) := by
  rw [szKey_ti]
  simp [pyD, py, pys, pys_ints]
theorem py_pr (q : List Int) : py (pr q) = some (szKey (ti q)) := by
  rw [szKey_ti]
  simp [py, pys, pys_ints]
theorem pys_prs : ∀ (K : List (List Int)), pys (K.map pr) = some (K.map fun q => szKey (ti q))
  | [] => rfl
  | q :: K => by
    have h := py_pr q
    simp only [List.map_cons, pys, h, pys_prs K]
theorem sorted_pr {K : List (List Int)} (hl : K.length ≤ lineSz) : biD .sorted [.lst (K.map pr)] = .ok (.lst ((K.mergeSort szLe).map pr)) := by
  have hok : sortOk (K.map fun q => szKey (ti q)) = true := by
    simp only [sortOk, Bool.and_eq_true, Bool.or_eq_true, List.all_eq_true]
    refine ⟨⟨fun d hd e he => ?_, .inl (.inl fun d hd => ?_)⟩, fun d hd => ?_⟩
    · obtain ⟨q, _, rfl⟩ := List.mem_map.mp hd
      obtain ⟨r, _, rfl⟩ := List.mem_map.mp he
      simp only [szKey_ti]
      simp [PySem.W.alike, PySem.W.alikeAll, alike_ints]
    · obtain ⟨q, _, rfl⟩ := List.mem_map.mp hd
      simp only [szKey_ti]; rfl
    · obtain ⟨q, _, rfl⟩ := List.mem_map.mp hd
      simp only [szKey_ti]
      simp [SeqAt.shaped, PyData.canLay0, PyData.canLayAll0, lay_ints, PyData.depth, PyData.depthAll, dep_ints]
  have hs : sortD (K.map pr) = (K.mergeSort szLe).map pr := by
    unfold sortD
    rw [List.map_mergeSort (s := PySem.W.dataLe false pyD)]
    intro a _ b _
    show PySem.W.dataLe false szKey (ti a) (ti b) = PySem.W.dataLe false pyD (pr a) (pr b)
    unfold PySem.W.dataLe PySem.W.sortLe
    simp only [pyD_pr]
  simp only [biD, pys_prs, hok, List.length_map]
  rw [if_pos (by simpa using hl), hs]
structure HasLLeast (T : Tab) : Prop where
  ins : T.fn 29 = some fn__law_inside
  least : T.fn 30 = some fn__law_least_sets
theorem ev_lleast (h : HasLLeast T) {F : List (List Int)} (hF : Fam F) : ev T (n + 2) 30 [.lst (F.map ti)] = .ok (.lst (((leastK F).mergeSort szLe).map ti)) := by
  rw [ev_eq h.least rfl]
  obtain ⟨key, hb⟩ := evS_fold (T := T) (cf := ev T (n + 1)) (t := .one 2) (src := .seq (.var 0)) (b := [.asg 3 (.comp (.var 5) 5 (.seq (.var 0)) (some (.and (.cmp .ne (.var 5) (.var 2)) (.call 29 [(.var 5), (.var 2)])))), .ifs (.and (.cmp .eq (.bi .len [(.var 3)]) (.int 0)) (.cmp .notin (.tup [(.bi .len [(.var 2)]), (.var 2)]) (.var 1))) [.app 1 (.tup [(.bi .len [(.var 2)]), (.var 2)])] []]) (e := ti)
    (env := fun s : List (List Int) × Sl × Sl => [.val (.lst (F.map ti)), .own (.lst (s.1.map pr)), s.2.1, s.2.2, .no, .no]) (f := fun s q => (if low F q then ins s.1 q else s.1, .val (ti q), .own (.lst ((F.filter fun o => !decide (o = q) && sub o q).map ti)))) (xs := F) (s := ([], .no, .no)) (fun k s => s.1.length ≤ k)
    (by simp) (by simp [srcVar, mutSs, mutS]) (by simp)
    (fun k s q hk hP => by
      have hq := List.mem_of_getElem? hk
      have hkl := (List.getElem?_eq_some_iff.mp hk).1
      have hFl := hF.len
      refine ⟨_, rfl, .inl ?_⟩
      have hc := comp_if (T := T) (cf := ev T (n + 1)) (ρ := [.val (.lst (F.map ti)), .own (.lst (s.1.map pr)), .val (ti q), s.2.2, .no, .no]) (elt := .var 5) (c := .and (.cmp .ne (.var 5) (.var 2)) (.call 29 [(.var 5), (.var 2)])) (x := 5) (src := .seq (.var 0)) (e := ti) (p := fun o => !decide (o = q) && sub o q) (g := ti) (xs := F)
        (by simp) (by simp [anyOwn, lkr, lkb]) (by omega)
        (fun o ho => by
          have e1 := ev_inside (n := n) h.ins o q (hF.short o ho)
          simp only [evE_and]
          rw [show evE T (ev T (n + 1)) (List.set [Sl.val (.lst (F.map ti)), Sl.own (.lst (s.1.map pr)), Sl.val (ti q), s.2.2, Sl.no, Sl.no] 5 (.val (ti o))) (.cmp .ne (.var 5) (.var 2)) = .ok (.bl (!decide (o = q))) by simp]
          exact andE_b (by simp [e1]))
        (fun o ho _ => by simp)
      have hlow := low_len (F := F) (q := q)
      have hin : cmpD .notin (pr q) (.lst (s.1.map pr)) = .ok (!decide (q ∈ s.1)) := by simp only [cmpD, hasD]; rw [inD_enc enc_pr q s.1]; simp [R.bind]
      have happ := app_pure (ρ := [.val (.lst (F.map ti)), .own (.lst (s.1.map pr)), .val (ti q), .own (.lst ((F.filter fun o => !decide (o = q) && sub o q).map ti)), .no, .no]) (i := 1) (e := .tup [(.bi .len [(.var 2)]), (.var 2)]) (ds := s.1.map pr) (d := pr q) rfl (by simp [pr, noMut, noMuts, noMuts_map (e := D.int) (xs := q) (fun _ _ => rfl)]) (by rw [List.length_map]; omega)
      simp only [evSs_cons, evS_asg, List.set_cons_succ, List.set_cons_zero, hc, asgS_ok]
      rw [bind_new (by simp [lks, anyOwn]) (by simp [fresh])]
      cases hl : low F q with
      | true =>
        rw [hl] at hlow
        have hlow := of_decide_eq_true hlow
        by_cases hm : q ∈ s.1
        · simp [hlow, hin, hm, ins]
        · simp [hlow, hin, hm, ins, happ]
      | false =>
        rw [hl] at hlow
        have hlow := of_decide_eq_false hlow
        simp [hlow])
    (fun k s q hk hP => by
      dsimp only
      split
      · exact Nat.le_trans ins_len (by omega)
      · omega)
  have hfold : ∀ (xs : List (List Int)) (s : List (List Int) × Sl × Sl), (xs.foldl (fun s q => (if low F q then Ev.ins s.1 q else s.1, Sl.val (ti q), Sl.own (.lst ((F.filter fun o => !decide (o = q) && sub o q).map ti)))) s).1 = xs.foldl (fun acc q => if low F q then Ev.ins acc q else acc) s.1 := by
    intro xs
    induction xs with
    | nil => exact fun s => rfl
    | cons x xs ih => exact fun s => ih _
  have hk := hfold F ([], .no, .no)
  generalize F.foldl (fun (s : List (List Int) × Sl × Sl) q => (if low F q then Ev.ins s.1 q else s.1, Sl.val (ti q), Sl.own (.lst ((F.filter fun o => !decide (o = q) && sub o q).map ti)))) ([], .no, .no) = s at key hb hk
  have hl2 : (leastK F).length ≤ lineSz := by
    have := hF.len
    unfold leastK
    rw [← hk]; omega
  have hk2 : s.1 = leastK F := hk
  rw [hk2] at key
  simp only [List.map_nil] at key
  have hcomp := comp_map (T := T) (cf := ev T (n + 1)) (ρ := [.val (.lst (F.map ti)), .own (.lst ((leastK F).map pr)), s.2.1, s.2.2, .no, .no]) (elt := .idx (.var 4) (.int 1)) (x := 4) (src := .seq (.bi .sorted [(.var 1)])) (e := pr) (g := ti) (xs := (leastK F).mergeSort szLe)
    (by simp [sorted_pr hl2]) (by simp [anyOwn, lkr, lkb, lks, lkbL]) (by rw [List.length_mergeSort]; exact hl2) (fun q _ => by
      have : idxD (pr q) (.int ((1 : Nat) : Int)) = .ok (ti q) := idx_tup rfl
      simpa using this)
  simp [fn__law_least_sets, startE, key, hcomp, fresh, isOwn]
end
end Ev

set_option linter.all false
set_option autoImplicit false
set_option maxRecDepth 10000
/-! Plain laws: crossing families. -/
namespace Ev
open PySem
def fn_first_apart : Fn := { np := 1, nl := 3, fr := false, body := [.fors (.one 1) (.rng [(.bi .len [(.var 0)])]) [.fors (.one 2) (.rng [(.bin .add (.var 1) (.int 1)), (.bi .len [(.var 0)])]) [.ifs (.not (.call 22 [(.idx (.var 0) (.var 1)), (.idx (.var 0) (.var 2))])) [.ret (.tup [(.var 1), (.var 2)])] []]], .ret .non] }
def fn_is_crossing : Fn := { np := 1, nl := 1, fr := false, body := [.ret (.cmp .is_ (.call 23 [(.var 0)]) .non)] }
def fn__law_apart_pair : Fn := { np := 1, nl := 3, fr := false, body := [.fors (.one 1) (.rng [(.bi .len [(.var 0)])]) [.fors (.one 2) (.rng [(.bin .add (.var 1) (.int 1)), (.bi .len [(.var 0)])]) [.ifs (.not (.call 12 [(.idx (.var 0) (.var 1)), (.idx (.var 0) (.var 2))])) [.ret (.tup [(.var 1), (.var 2)])] []]], .ret .non] }

abbrev tij (i j : Nat) : D := .tup [.int i, .int j]
theorem loopS_ret {σ : Type} {step : σ → Nat → St σ} {p : Nat → Bool} : ∀ {xs : List Nat} {s : σ}, (∀ s x, x ∈ xs → p x = true → ∃ s', step s x = .nx s') → (∀ s x, x ∈ xs → p x = false → ∃ i j, step s x = .ret (tij i j) false) →
    (xs.all p = true → ∃ s', loopS step xs s = .nx s') ∧ (xs.all p = false → ∃ i j, loopS step xs s = .ret (tij i j) false)
  | [], s, _, _ => ⟨fun _ => ⟨s, rfl⟩, fun h => by simp at h⟩
  | x :: xs, s, h1, h2 => by
    cases hp : p x with
    | true =>
      obtain ⟨s', e⟩ := h1 s x List.mem_cons_self hp
      have := loopS_ret (xs := xs) (s := s') (fun s y hy => h1 s y (List.mem_cons_of_mem _ hy)) (fun s y hy => h2 s y (List.mem_cons_of_mem _ hy))
      simp only [loopS, e, List.all_cons, hp, Bool.true_and]
      exact this
    | false =>
      obtain ⟨i, j, e⟩ := h2 s x List.mem_cons_self hp
      simp only [loopS, e, List.all_cons, hp, Bool.false_and]
      exact ⟨fun z => by simp at z, fun _ => ⟨i, j, rfl⟩⟩
theorem range2 {a : Int} {m : Nat} (h0 : 0 ≤ a) (h1 : a ≤ 16777217) (h : m ≤ lineSz) : rangeD [.int a, .int m] = some ((List.range ((m : Int) - a).toNat).map fun (k : Nat) => .int (a + k)) := by
  unfold lineSz at h
  have h1 : -(2 ^ 62 : Int) ≤ a ∧ a < 2 ^ 62 ∧ -(2 ^ 62 : Int) ≤ (m : Int) ∧ (m : Int) < 2 ^ 62 := by omega
  simp only [rangeD, if_pos h1]
def pm (F : List (List Int)) (i k : Nat) : Bool := match F[i]?, F[i + 1 + k]? with
  | some a, some b => meets a b
  | _, _ => true
/-- all pairs of the family meet -/
def crossing (F : List (List Int)) : Bool := (List.range F.length).all fun i => (List.range (F.length - (i + 1))).all fun k => pm F i k
section
variable {T : Tab} {n : Nat}
abbrev apartBody (c : Nat) : List S := [.fors (.one 1) (.rng [(.bi .len [(.var 0)])]) [.fors (.one 2) (.rng [(.bin .add (.var 1) (.int 1)), (.bi .len [(.var 0)])]) [.ifs (.not (.call c [(.idx (.var 0) (.var 1)), (.idx (.var 0) (.var 2))])) [.ret (.tup [(.var 1), (.var 2)])] []]], .ret .non]
theorem body_apart {cf : Nat → List D → R D} {c : Nat} {F : List (List Int)} {FD : D} (hF : Fam F) (hc : ∀ a b : List Int, a.length ≤ lineSz → cf c [ti a, ti b] = .ok (.bl (meets a b))) (hl : biD .len [FD] = .ok (.int F.length))
    (hi : ∀ (i : Nat) (q : List Int), F[i]? = some q → idxD FD (.int i) = .ok (ti q)) :
    (crossing F = true → evSs T cf (apartBody c) [.val FD, .no, .no] = .ok (.ret .non false)) ∧ (crossing F = false → ∃ i j, evSs T cf (apartBody c) [.val FD, .no, .no] = .ok (.ret (tij i j) false)) := by
  have hFl := hF.len
  let inner : Nat → Sl → Nat → St Sl := fun i s k => if pm F i k = true then .nx (.val (.int ((i : Int) + 1 + k))) else .ret (tij i (i + 1 + k)) false
  have hin : ∀ (i : Nat) (s : Sl), i < F.length → evS T cf (.fors (.one 2) (.rng [(.bin .add (.var 1) (.int 1)), (.bi .len [(.var 0)])]) [.ifs (.not (.call c [(.idx (.var 0) (.var 1)), (.idx (.var 0) (.var 2))])) [.ret (.tup [(.var 1), (.var 2)])] []]) [.val FD, .val (.int i), s] =
      .ok ((loopS (inner i) (List.range (F.length - (i + 1))) s).fl fun s => [.val FD, .val (.int i), s]) := by
    intro i s hil
    have hr : ((F.length : Int) - ((i : Int) + 1)).toNat = F.length - (i + 1) := by omega
    have r2 := range2 (a := (i : Int) + 1) (m := F.length) (by omega) (by unfold lineSz at hFl; omega) (by omega)
    rw [hr] at r2
    refine evS_for (T := T) (cf := cf) (e := fun k : Nat => .int ((i : Int) + 1 + k)) (env := fun s : Sl => [.val FD, .val (.int i), s]) (fun _ _ => True) (by simp [hl, r2]) (by simp [srcVar, lkr, anyOwn]) trivial
      (fun _ s k hk _ => ?_) (fun _ _ _ _ _ _ _ => trivial)
    have hk := List.mem_range.mp (List.mem_of_getElem? hk)
    have g1 : F[i]? = some F[i] := List.getElem?_eq_getElem hil
    have g2 : F[i + 1 + k]? = some (F[i + 1 + k]'(by omega)) := List.getElem?_eq_getElem (by omega)
    have i1 := hi i _ g1
    have i2 := hi (i + 1 + k) _ g2
    have e2 : ((i + 1 + k : Nat) : Int) = (i : Int) + 1 + k := by omega
    rw [e2] at i2
    have hcc := hc F[i] (F[i + 1 + k]'(by omega)) (hF.short _ (List.mem_of_getElem? g1))
    refine ⟨_, rfl, .inl ?_⟩
    simp only [inner, pm, g1, g2]
    cases hm : meets F[i] (F[i + 1 + k]'(by omega)) with
    | true => rw [hm] at hcc; simp [i1, i2, hcc, St.fl]
    | false => rw [hm] at hcc; simp [i1, i2, hcc, St.fl, fresh, isOwn, tij, e2]
  let outer : Sl × Sl → Nat → St (Sl × Sl) := fun s i => match loopS (inner i) (List.range (F.length - (i + 1))) s.2 with
    | .nx s' => .nx (.val (.int i), s')
    | .brk s' => .nx (.val (.int i), s')
    | .ret d o => .ret d o
  have hib : ∀ (i : Nat) (xs : List Nat) (s s' : Sl), loopS (inner i) xs s ≠ .brk s' := by
    intro i xs
    induction xs with
    | nil => intro s s' z; cases z
    | cons x xs ih =>
      intro s s' z
      cases hp : pm F i x with
      | true => simp only [loopS, inner, hp, if_true] at z; exact ih _ _ z
      | false => simp [loopS, inner, hp] at z
  have hout := evS_for (T := T) (cf := cf) (t := .one 1) (src := .rng [(.bi .len [(.var 0)])]) (b := [.fors (.one 2) (.rng [(.bin .add (.var 1) (.int 1)), (.bi .len [(.var 0)])]) [.ifs (.not (.call c [(.idx (.var 0) (.var 1)), (.idx (.var 0) (.var 2))])) [.ret (.tup [(.var 1), (.var 2)])] []]]) (e := fun k : Nat => .int (k : Int)) (env := fun s : Sl × Sl => [.val FD, s.1, s.2]) (step := outer) (xs := List.range F.length) (s := (.no, .no)) (fun _ _ => True)
    (by simp [hl, range1 (m := F.length) (by omega)]) (by simp [srcVar, lkr, anyOwn]) trivial
    (fun _ s i hk _ => by
      have hk := List.mem_range.mp (List.mem_of_getElem? hk)
      refine ⟨_, rfl, .inl ?_⟩
      have := hin i s.2 hk
      simp only [List.set_cons_succ, List.set_cons_zero, evSs_cons, this, outer]
      cases hz : loopS (inner i) (List.range (F.length - (i + 1))) s.2 with
      | nx s' => simp [St.fl]
      | brk s' => exact absurd hz (hib _ _ _ _)
      | ret d o => simp [St.fl])
    (fun _ _ _ _ _ _ _ => trivial)
  have hin2 := fun (i : Nat) (s : Sl) => loopS_ret (step := inner i) (p := fun k => pm F i k) (xs := List.range (F.length - (i + 1))) (s := s) (fun s x _ hp => ⟨_, if_pos hp⟩) (fun s x _ hp => ⟨_, _, if_neg (by rw [hp]; decide)⟩)
  obtain ⟨o1, o2⟩ := loopS_ret (step := outer) (p := fun i => (List.range (F.length - (i + 1))).all fun k => pm F i k) (xs := List.range F.length) (s := (.no, .no)) (fun s i _ hp => by
      obtain ⟨s', e⟩ := (hin2 i s.2).1 hp
      exact ⟨_, by simp only [outer, e]; rfl⟩) (fun s i _ hp => by
      obtain ⟨a, b, e⟩ := (hin2 i s.2).2 hp
      exact ⟨a, b, by simp only [outer, e]⟩)
  refine ⟨fun h => ?_, fun h => ?_⟩
  · obtain ⟨s', e⟩ := o1 h
    rw [e] at hout
    simp only [apartBody, evSs_cons, hout, St.fl]
    simp [fresh, isOwn]
  · obtain ⟨i, j, e⟩ := o2 h
    rw [e] at hout
    exact ⟨i, j, by simp only [apartBody, evSs_cons, hout, St.fl, seqS_ret]⟩
structure HasCross (T : Tab) : Prop where
  com : T.fn 22 = some fn_have_common
  fst : T.fn 23 = some fn_first_apart
  cro : T.fn 24 = some fn_is_crossing
theorem ev_of {f : Nat} {fn : Fn} {ds : List D} {body : List S} {ρ : Env} {d : D} {own : Bool} (h : T.fn f = some fn) (hl : ds.length = fn.np) (e1 : startE fn ds = ρ) (e2 : fn.body = body) (e3 : fn.fr = false) (hb : evSs T (ev T n) body ρ = .ok (.ret d own)) (hi : fn.ini = none := by rfl) : ev T (n + 1) f ds = .ok d := by
  rw [ev_eq h hl hi, e1, e2, hb]
  simp [e3]
theorem ev_crossing (h : HasCross T) {F : List (List Int)} (hF : Fam F) : ev T (n + 3) 24 [.tup (F.map ti)] = .ok (.bl (crossing F)) := by
  obtain ⟨b1, b2⟩ := body_apart (T := T) (cf := ev T (n + 1)) (c := 22) (FD := .tup (F.map ti)) hF (fun a b hl => ev_common h.com a b hl) (by simp) (fun i q e => idx_tup (by rw [List.getElem?_map, e]; rfl))
  have h23 : (crossing F = true → ev T (n + 2) 23 [.tup (F.map ti)] = .ok .non) ∧ (crossing F = false → ∃ i j, ev T (n + 2) 23 [.tup (F.map ti)] = .ok (tij i j)) := by
    refine ⟨fun z => ev_of h.fst rfl (by simp [startE, fn_first_apart]) (by simp only [fn_first_apart]) rfl (b1 z), fun z => ?_⟩
    obtain ⟨i, j, e⟩ := b2 z
    exact ⟨i, j, ev_of h.fst rfl (by simp [startE, fn_first_apart]) (by simp only [fn_first_apart]) rfl e⟩
  rw [ev_eq h.cro rfl]
  cases hz : crossing F with
  | true => simp [fn_is_crossing, startE, h23.1 hz, fresh, isOwn]
  | false =>
    obtain ⟨i, j, e⟩ := h23.2 hz
    simp [fn_is_crossing, startE, e, fresh, isOwn]
theorem ev_apartpair (hm : T.fn 12 = some fn__law_meet) (h : T.fn 31 = some fn__law_apart_pair) {F : List (List Int)} (hF : Fam F) :
    (crossing F = true → ev T (n + 2) 31 [.lst (F.map ti)] = .ok .non) ∧ (crossing F = false → ∃ i j, ev T (n + 2) 31 [.lst (F.map ti)] = .ok (tij i j)) := by
  obtain ⟨b1, b2⟩ := body_apart (T := T) (cf := ev T (n + 1)) (c := 12) (FD := .lst (F.map ti)) hF (fun a b hl => ev_meet hm a b hl) (by simp) (fun i q e => idx_lst (by rw [List.getElem?_map, e]; rfl))
  refine ⟨fun z => ev_of h rfl (by simp [startE, fn__law_apart_pair]) (by simp only [fn__law_apart_pair]) rfl (b1 z), fun z => ?_⟩
  obtain ⟨i, j, e⟩ := b2 z
  exact ⟨i, j, ev_of h rfl (by simp [startE, fn__law_apart_pair]) (by simp only [fn__law_apart_pair]) rfl e⟩
end
end Ev

set_option linter.all false
set_option autoImplicit false
set_option maxRecDepth 10000
/-! Plain laws: all sets of places. -/
namespace Ev
open PySem
def fn_subsets_of : Fn := { np := 1, nl := 4, fr := true, body := [.asg 1 (.lst [(.tup [])]), .fors (.one 2) (.rng [(.var 0)]) [.asg 1 (.bin .add (.var 1) (.comp (.bin .add (.var 3) (.tup [(.var 2)])) 3 (.seq (.var 1)) none))], .ret (.var 1)] }
def fn__law_sets : Fn := { np := 1, nl := 4, fr := true, body := [.asg 1 (.idx (.lst [(.int 1), (.int 2), (.int 4), (.int 8), (.int 16), (.int 32), (.int 64)]) (.var 0)), .ret (.comp (.bi .tuple [(.comp (.var 3) 3 (.rng [(.var 0)]) (some (.cmp .eq (.bin .mod (.bin .fdiv (.var 2) (.idx (.lst [(.int 1), (.int 2), (.int 4), (.int 8), (.int 16), (.int 32)]) (.var 3))) (.int 2)) (.int 1))))]) 2 (.rng [(.var 1)]) none)] }
def fn_count_family : Fn := { np := 2, nl := 3, fr := false, body := [.ret (.bi .tuple [(.bi .sorted [(.comp (.var 2) 2 (.seq (.call 25 [(.var 0)])) (some (.cmp .eq (.bi .len [(.var 2)]) (.var 1))))])])] }
def fn_weight_of : Fn := { np := 2, nl := 3, fr := false, body := [.ret (.bi .sum [(.comp (.idx (.var 1) (.var 2)) 2 (.seq (.var 0)) none)])] }
def fn_weighted_family : Fn := { np := 2, nl := 4, fr := false, body := [.asg 2 (.comp (.var 3) 3 (.seq (.call 25 [(.bi .len [(.var 0)])])) (some (.cmp .ge (.call 27 [(.var 3), (.var 0)]) (.var 1)))), .ret (.call 21 [(.bi .tuple [(.var 2)])])] }

def subs : Nat → List (List Int)
  | 0 => [[]]
  | k + 1 => subs k ++ (subs k).map fun q => q ++ [(k : Int)]
def setsB (p : Nat) : List (List Int) := (List.range (2 ^ p)).map fun m => ((List.range p).filter fun j => decide (m / 2 ^ j % 2 = 1)).map fun (j : Nat) => (j : Int)
theorem sets_eq : ∀ p, p ≤ 6 → setsB p = subs p := by
  intro p hp
  have : p = 0 ∨ p = 1 ∨ p = 2 ∨ p = 3 ∨ p = 4 ∨ p = 5 ∨ p = 6 := by omega
  rcases this with rfl | rfl | rfl | rfl | rfl | rfl | rfl <;> decide +kernel
theorem subs_len : ∀ p, (subs p).length = 2 ^ p
  | 0 => rfl
  | p + 1 => by simp [subs, subs_len p, Nat.pow_succ]; omega
theorem subs_mem : ∀ (p : Nat) (q : List Int), q ∈ subs p → q.length ≤ p ∧ ∀ x ∈ q, 0 ≤ x ∧ x < p
  | 0, q, h => by simp [subs] at h; subst h; simp
  | p + 1, q, h => by
    simp only [subs, List.mem_append, List.mem_map] at h
    rcases h with h | ⟨r, h, rfl⟩
    · obtain ⟨h1, h2⟩ := subs_mem p q h
      exact ⟨by omega, fun x hx => by have := h2 x hx; omega⟩
    · obtain ⟨h1, h2⟩ := subs_mem p r h
      refine ⟨by simp; omega, fun x hx => ?_⟩
      simp only [List.mem_append, List.mem_singleton] at hx
      rcases hx with hx | rfl
      · have := h2 x hx; omega
      · omega
theorem subs_fam {p : Nat} (hp : p ≤ 6) : Fam (subs p) := ⟨by
  rw [subs_len]
  have : 2 ^ p ≤ 2 ^ 6 := Nat.pow_le_pow_right (by decide) hp
  unfold lineSz; omega, fun q hq => by have := (subs_mem p q hq).1; unfold lineSz; omega⟩
theorem Fam.filter {F : List (List Int)} (h : Fam F) (p : List Int → Bool) : Fam (F.filter p) := ⟨Nat.lt_of_le_of_lt (List.length_filter_le _ _) h.len, fun q hq => h.short q (List.mem_filter.mp hq).1⟩
section
variable {T : Tab} {n : Nat}
theorem ti_add (q : List Int) (x : Int) (h : q.length ≤ 100) : binD .add (ti q) (.tup [.int x]) = .ok (ti (q ++ [x])) := by
  have := bin_addT (a := q.map D.int) (b := [.int x]) (by rw [List.length_map]; unfold lineSz; simp; omega)
  rw [this]
  simp [ti]
theorem ev_subs (h : T.fn 25 = some fn_subsets_of) {p : Nat} (hp : p ≤ 6) : ev T (n + 1) 25 [.int p] = .ok (.lst ((subs p).map ti)) := by
  have hpw : ∀ k, k ≤ 6 → (subs k).length ≤ 64 := fun k hk => by
    rw [subs_len]
    have : 2 ^ k ≤ 2 ^ 6 := Nat.pow_le_pow_right (by decide) hk
    omega
  obtain ⟨key, hb⟩ := evS_fold (T := T) (cf := ev T n) (t := .one 2) (src := .rng [(.var 0)]) (b := [.asg 1 (.bin .add (.var 1) (.comp (.bin .add (.var 3) (.tup [(.var 2)])) 3 (.seq (.var 1)) none))]) (e := fun k : Nat => .int (k : Int))
    (env := fun s : List (List Int) × Sl => [.val (.int p), .own (.lst (s.1.map ti)), s.2, .no]) (f := fun s k => (s.1 ++ s.1.map fun q => q ++ [(k : Int)], .val (.int k))) (xs := List.range p) (s := ([[]], .no)) (fun k s => s.1 = subs k)
    (by simp [range1 (m := p) (by unfold lineSz; omega)]) (by simp [srcVar, lkr, anyOwn]) rfl
    (fun i s k hk hP => by
      obtain ⟨hi, hk⟩ := List.getElem?_eq_some_iff.mp hk
      rw [List.length_range] at hi
      rw [List.getElem_range] at hk
      subst hk
      have hl := hpw i (by omega)
      refine ⟨_, rfl, .inl ?_⟩
      have hc := comp_map (T := T) (cf := ev T n) (ρ := [.val (.int p), .own (.lst (s.1.map ti)), .val (.int i), .no]) (elt := .bin .add (.var 3) (.tup [(.var 2)])) (x := 3) (src := .seq (.var 1)) (e := ti) (g := fun q => ti (q ++ [(i : Int)])) (xs := s.1)
        (by simp) (by simp [anyOwn, lkr, lkb]) (by rw [hP]; unfold lineSz; omega) (fun q hq => by
          have hq2 := (subs_mem i q (by rw [← hP]; exact hq)).1
          simp [ti_add q i (by omega)])
      have hadd : binD .add (.lst (s.1.map ti)) (.lst (s.1.map fun q => ti (q ++ [(i : Int)]))) = .ok (.lst ((s.1 ++ s.1.map fun q => q ++ [(i : Int)]).map ti)) := by
        rw [bin_addL (by rw [List.length_map, List.length_map, hP]; unfold lineSz; omega)]
        simp [List.map_append, List.map_map, Function.comp_def]
      simp only [evSs_cons, evS_asg, evE_bin, List.set_cons_succ, List.set_cons_zero, hc]
      simp only [evE_var, List.getElem?_cons_succ, List.getElem?_cons_zero, ok_bind, hadd, asgS_ok]
      rw [bind_new (by simp [lks, lkb, lksL, anyOwn]) (by simp [fresh])]
      simp)
    (fun i s k hk hP => by
      obtain ⟨hi, hk⟩ := List.getElem?_eq_some_iff.mp hk
      rw [List.length_range] at hi
      rw [List.getElem_range] at hk
      subst hk
      dsimp only
      rw [hP]; rfl)
  rw [List.length_range] at hb
  generalize (List.range p).foldl _ _ = s at key hb
  rw [hb] at key
  rw [ev_eq h rfl]
  have h0 : bindTo T 1 (.lst [(.tup [])]) (.lst [.tup []]) [Sl.val (.int p), Sl.no, Sl.no, Sl.no] = [Sl.val (.int p), .own (.lst [.tup []]), Sl.no, Sl.no] := bind_new (by simp [lks, lksL, anyOwn]) (by simp [fresh])
  simp only [List.map_cons, List.map_nil, ti] at key
  simp [fn_subsets_of, startE, h0, key, fresh, isOwn]
theorem pw6 {j : Nat} (h : j < 6) : idxD (.lst [.int 1, .int 2, .int 4, .int 8, .int 16, .int 32]) (.int j) = .ok (.int ((2 ^ j : Nat) : Int)) := by
  have : j = 0 ∨ j = 1 ∨ j = 2 ∨ j = 3 ∨ j = 4 ∨ j = 5 := by omega
  rcases this with rfl | rfl | rfl | rfl | rfl | rfl <;> exact idx_lst rfl
theorem bits_comp {cf : Nat → List D → R D} {ρ : Env} {p m iv x ip : Nat} (hp : p ≤ 6) (hx : anyOwn [x] ρ = false) (hip : ρ[ip]? = some (.val (.int p))) (him : ρ[iv]? = some (.val (.int m))) (hxl : x < ρ.length) (h1 : iv ≠ x) :
    evE T cf ρ (.comp (.var x) x (.rng [(.var ip)]) (some (.cmp .eq (.bin .mod (.bin .fdiv (.var iv) (.idx (.lst [(.int 1), (.int 2), (.int 4), (.int 8), (.int 16), (.int 32)]) (.var x))) (.int 2)) (.int 1)))) = .ok (.lst ((((List.range p).filter fun j => decide (m / 2 ^ j % 2 = 1)).map fun (j : Nat) => (j : Int)).map D.int)) := by
  have lx : ∀ d, (ρ.set x (.val d))[x]? = some (.val d) := fun d => by rw [List.getElem?_set_self hxl]
  have lm : ∀ d, (ρ.set x (.val d))[iv]? = some (.val (.int m)) := fun d => by rw [List.getElem?_set_ne (Ne.symm h1)]; exact him
  have := comp_if (T := T) (cf := cf) (ρ := ρ) (elt := .var x) (c := .cmp .eq (.bin .mod (.bin .fdiv (.var iv) (.idx (.lst [(.int 1), (.int 2), (.int 4), (.int 8), (.int 16), (.int 32)]) (.var x))) (.int 2)) (.int 1)) (x := x) (src := .rng [(.var ip)]) (e := fun j : Nat => .int (j : Int)) (p := fun j => decide (m / 2 ^ j % 2 = 1)) (g := fun j : Nat => .int (j : Int)) (xs := List.range p)
    (by simp [hip, range1 (m := p) (by unfold lineSz; omega)]) (by simpa [lkr] using hx) (by rw [List.length_range]; unfold lineSz; omega)
    (fun j hj => by
      have hj := List.mem_range.mp hj
      have h2 : (0 : Int) < ((2 ^ j : Nat) : Int) := by
        have : 0 < 2 ^ j := Nat.pow_pos (by decide)
        omega
      have h3 : ((2 ^ j : Nat) : Int) < 1073741824 := by
        have : 2 ^ j ≤ 2 ^ 6 := Nat.pow_le_pow_right (by decide) (by omega)
        omega
      have e1 : decide ((m : Int) / ((2 ^ j : Nat) : Int) % 2 = 1) = decide (m / 2 ^ j % 2 = 1) := by
        rw [decide_eq_decide]
        have : (m : Int) / ((2 ^ j : Nat) : Int) % 2 = ((m / 2 ^ j % 2 : Nat) : Int) := by simp
        rw [this]; omega
      simp only [evE_cmp, evE_bin, evE_idx, evE_lst, evEs_cons, evEs_nil, evE_int, evE_var, lx, lm, ok_bind, pw6 (show j < 6 by omega), bin_fdiv h2 h3, bin_mod (j := 2) (by decide), cmp_eqI, e1])
    (fun j _ _ => by simp [lx])
  rw [this]
  simp [List.map_map, Function.comp_def]
theorem ev_lsets (h : T.fn 14 = some fn__law_sets) {p : Nat} (hp : p ≤ 6) : ev T (n + 1) 14 [.int p] = .ok (.lst ((subs p).map ti)) := by
  have hpw : 2 ^ p ≤ 64 := by
    have : 2 ^ p ≤ 2 ^ 6 := Nat.pow_le_pow_right (by decide) hp
    omega
  have hm : idxD (.lst [.int 1, .int 2, .int 4, .int 8, .int 16, .int 32, .int 64]) (.int p) = .ok (.int ((2 ^ p : Nat) : Int)) := by
    have : p = 0 ∨ p = 1 ∨ p = 2 ∨ p = 3 ∨ p = 4 ∨ p = 5 ∨ p = 6 := by omega
    rcases this with rfl | rfl | rfl | rfl | rfl | rfl | rfl <;> exact idx_lst rfl
  have hc := comp_map (T := T) (cf := ev T n) (ρ := [.val (.int p), .val (.int ((2 ^ p : Nat) : Int)), .no, .no]) (elt := .bi .tuple [(.comp (.var 3) 3 (.rng [(.var 0)]) (some (.cmp .eq (.bin .mod (.bin .fdiv (.var 2) (.idx (.lst [(.int 1), (.int 2), (.int 4), (.int 8), (.int 16), (.int 32)]) (.var 3))) (.int 2)) (.int 1))))]) (x := 2) (src := .rng [(.var 1)]) (e := fun m : Nat => .int (m : Int))
    (g := fun m => ti (((List.range p).filter fun j => decide (m / 2 ^ j % 2 = 1)).map fun (j : Nat) => (j : Int))) (xs := List.range (2 ^ p)) (by simp only [evSrc_rng, evEs_cons, evEs_nil, evE_var, List.getElem?_cons_succ, List.getElem?_cons_zero, ok_bind, range1 (m := 2 ^ p) (by unfold lineSz; omega), ofO_some]) (by simp [anyOwn, lkr]) (by rw [List.length_range]; unfold lineSz; omega)
    (fun m _ => by
      have := bits_comp (T := T) (cf := ev T n) (ρ := [.val (.int p), .val (.int ((2 ^ p : Nat) : Int)), .val (.int m), .no]) (p := p) (m := m) (iv := 2) (x := 3) (ip := 0) hp (by simp [anyOwn]) rfl rfl (by simp) (by decide)
      simp only [evE_bi, evEs_cons, evEs_nil, List.set_cons_succ, List.set_cons_zero, this, ok_bind, bi_tupL])
  have e : (List.range (2 ^ p)).map (fun m => ti (((List.range p).filter fun j => decide (m / 2 ^ j % 2 = 1)).map fun (j : Nat) => (j : Int))) = (subs p).map ti := by
    rw [← sets_eq p hp, setsB, List.map_map]; rfl
  rw [e] at hc
  rw [ev_eq h rfl]
  simp [fn__law_sets, startE, -Int.natCast_pow, hm, hc, fresh, isOwn]
/-! ### count_family, weighted_family -/
def tiLe (a b : List Int) : Bool := PySem.W.dataLe false pyD (ti a) (ti b)
theorem pys_tis : ∀ (K : List (List Int)), pys (K.map ti) = some (K.map fun q => PyData.tuple (q.map .int))
  | [] => rfl
  | q :: K => by
    have h : py (ti q) = some (PyData.tuple (q.map .int)) := by simp [ti, py, pys_ints]
    simp only [List.map_cons, pys, h, pys_tis K]
theorem sorted_ti {K : List (List Int)} (hl : K.length ≤ lineSz) (hne : ∀ q ∈ K, q ≠ []) : biD .sorted [.lst (K.map ti)] = .ok (.lst ((K.mergeSort tiLe).map ti)) := by
  have hok : sortOk (K.map fun q => PyData.tuple (q.map .int)) = true := by
    simp only [sortOk, Bool.and_eq_true, Bool.or_eq_true, List.all_eq_true]
    refine ⟨⟨fun d hd e he => ?_, .inl (.inl fun d hd => ?_)⟩, fun d hd => ?_⟩
    · obtain ⟨q, _, rfl⟩ := List.mem_map.mp hd
      obtain ⟨r, _, rfl⟩ := List.mem_map.mp he
      simp [PySem.W.alike, alike_ints]
    · obtain ⟨q, hq, rfl⟩ := List.mem_map.mp hd
      cases q with
      | nil => exact absurd rfl (hne _ hq)
      | cons x q => rfl
    · obtain ⟨q, _, rfl⟩ := List.mem_map.mp hd
      simp [SeqAt.shaped, PyData.canLay0, lay_ints, PyData.depth, dep_ints]
  have hs : sortD (K.map ti) = (K.mergeSort tiLe).map ti := by
    unfold sortD
    rw [List.map_mergeSort (s := PySem.W.dataLe false pyD)]
    intro a _ b _; rfl
  simp only [biD, pys_tis, hok, List.length_map]
  rw [if_pos (by simpa using hl), hs]
theorem sorted_ti1 : biD .sorted [.lst [ti []]] = .ok (.lst [ti []]) := by
  have hok : sortOk [PyData.tuple []] = true := by decide
  have hs : sortD [D.tup []] = [D.tup []] := by unfold sortD; rw [List.mergeSort_singleton]
  have hl : [D.tup []].length ≤ lineSz := by decide
  simp only [biD, ti, List.map_nil, pys, py, Option.map_some, hok, hs, hl, decide_true, Bool.and_self, if_true]
def ofSize (p c : Nat) : List (List Int) := (subs p).filter fun q => decide (q.length = c)
theorem size_comp {cf : Nat → List D → R D} {ρ : Env} {p c x ic : Nat} {src : Src} (hp : p ≤ 6) (hs : evSrc T cf ρ src = .ok ((subs p).map ti)) (ho : anyOwn (x :: lkr src) ρ = false) (hic : ρ[ic]? = some (.val (.int c))) (hx : x < ρ.length) (h1 : ic ≠ x) :
    evE T cf ρ (.comp (.var x) x src (some (.cmp .eq (.bi .len [(.var x)]) (.var ic)))) = .ok (.lst ((ofSize p c).map ti)) := by
  have lx : ∀ d, (ρ.set x (.val d))[x]? = some (.val d) := fun d => by rw [List.getElem?_set_self hx]
  have lc : ∀ d, (ρ.set x (.val d))[ic]? = some (.val (.int c)) := fun d => by rw [List.getElem?_set_ne (Ne.symm h1)]; exact hic
  exact comp_if (e := ti) (p := fun q => decide (q.length = c)) (g := ti) (xs := subs p) hs ho (by have := (subs_fam hp).len; omega)
    (fun q _ => by
      have e1 : decide ((q.length : Int) = (c : Int)) = decide (q.length = c) := by rw [decide_eq_decide]; omega
      simp only [evE_cmp, evE_bi, evEs_cons, evEs_nil, evE_var, lx, lc, ok_bind, bi_lenT, List.length_map, cmp_eqI, e1])
    (fun q _ _ => by simp [lx])
theorem ofSize_ne {p c : Nat} (hc : 0 < c) : ∀ q ∈ ofSize p c, q ≠ [] := fun q hq z => by
  have := (List.mem_filter.mp hq).2
  subst z
  simp at this; omega
theorem ofSize_len {p c : Nat} (hp : p ≤ 6) : (ofSize p c).length ≤ lineSz := by
  have h1 : (ofSize p c).length ≤ (subs p).length := List.length_filter_le _ _
  have := (subs_fam hp).len
  omega
theorem ev_count (hs : T.fn 25 = some fn_subsets_of) (h : T.fn 26 = some fn_count_family) {p c : Nat} (hp : p ≤ 6) (hc : 0 < c) : ev T (n + 2) 26 [.int p, .int c] = .ok (.tup (((ofSize p c).mergeSort tiLe).map ti)) := by
  have hcomp := size_comp (T := T) (cf := ev T (n + 1)) (ρ := [.val (.int p), .val (.int c), .no]) (p := p) (c := c) (x := 2) (ic := 1) (src := .seq (.call 25 [(.var 0)])) hp (by simp [ev_subs hs hp]) (by simp [anyOwn, lkr, lkb, lks, lksL]) rfl (by simp) (by decide)
  rw [ev_eq h rfl]
  simp [fn_count_family, startE, hcomp, sorted_ti (ofSize_len hp) (ofSize_ne hc), fresh, isOwn]
def wsum (ws q : List Int) : Int := (q.map fun j => (ws[j.toNat]?).getD 0).sum
theorem intsOf_ints : ∀ (xs : List Int), intsOf (xs.map .int) = some xs
  | [] => rfl
  | x :: xs => by simp [intsOf, intsOf_ints xs]
@[simp] theorem bi_sum {xs : List Int} : biD .sum [li xs] = .ok (.int xs.sum) := by simp only [biD, li, intsOf_ints]
theorem wsum_comp {cf : Nat → List D → R D} {ρ : Env} {q ws : List Int} {x iw iq : Nat} (hq : ∀ j ∈ q, 0 ≤ j ∧ j < ws.length) (hql : q.length ≤ lineSz) (ho : anyOwn [x] ρ = false) (hw : ρ[iw]? = some (.val (ti ws)) ∨ ρ[iw]? = some (.own (li ws))) (hiq : ρ[iq]? = some (.val (ti q))) (hx : x < ρ.length) (h1 : iw ≠ x) :
    evE T cf ρ (.bi .sum [(.comp (.idx (.var iw) (.var x)) x (.seq (.var iq)) none)]) = .ok (.int (wsum ws q)) := by
  have lx : ∀ d, (ρ.set x (.val d))[x]? = some (.val d) := fun d => by rw [List.getElem?_set_self hx]
  have lw : ∀ d, evE T cf (ρ.set x (.val d)) (.var iw) = .ok (ti ws) ∨ evE T cf (ρ.set x (.val d)) (.var iw) = .ok (li ws) := fun d => by
    rcases hw with hw | hw
    · exact .inl (by simp [List.getElem?_set_ne (Ne.symm h1), hw])
    · exact .inr (by simp [List.getElem?_set_ne (Ne.symm h1), hw])
  have hc := comp_map (T := T) (cf := cf) (ρ := ρ) (elt := .idx (.var iw) (.var x)) (x := x) (src := .seq (.var iq)) (e := D.int) (g := fun j => .int ((ws[j.toNat]?).getD 0)) (xs := q) (by simp [hiq]) (by simpa [lkr, lkb] using ho) hql
    (fun j hj => by
      obtain ⟨h0, h2⟩ := hq j hj
      have hj2 : ((j.toNat : Nat) : Int) = j := by omega
      have hg : ws[j.toNat]? = some (ws[j.toNat]'(by omega)) := List.getElem?_eq_getElem (by omega)
      have hm : (ws.map D.int)[j.toNat]? = some (.int (ws[j.toNat]'(by omega))) := by rw [List.getElem?_map, hg]; rfl
      have i1 := idx_tup hm
      have i2 := idx_lst hm
      rw [hj2] at i1 i2
      simp only [hg, Option.getD_some]
      rcases lw (.int j) with e | e
      · simp only [evE_idx, e, ok_bind, i1]; simp [lx, i1]
      · simp only [evE_idx, e, ok_bind, i2]; simp [lx, i2])
  simp only [evE_bi, evEs_cons, evEs_nil, hc, ok_bind]
  have := bi_sum (xs := q.map fun j => (ws[j.toNat]?).getD 0)
  simp only [li, List.map_map, Function.comp_def] at this
  rw [this]; rfl
theorem ev_weight (h : T.fn 27 = some fn_weight_of) {q ws : List Int} (hq : ∀ j ∈ q, 0 ≤ j ∧ j < ws.length) (hql : q.length ≤ lineSz) : ev T (n + 1) 27 [ti q, ti ws] = .ok (.int (wsum ws q)) := by
  have := wsum_comp (T := T) (cf := ev T n) (ρ := [.val (ti q), .val (ti ws), .no]) (x := 2) (iw := 1) (iq := 0) hq hql (by simp [anyOwn]) (.inl rfl) rfl (by simp) (by decide)
  rw [ev_eq h rfl]
  simp only [fn_weight_of, startE, List.map_cons, List.map_nil, List.cons_append, List.nil_append, List.replicate, evSs_cons, evS_ret, this, retS_ok]
  simp [fresh, isOwn]
def heavyK (ws : List Int) (t : Int) : List (List Int) := (subs ws.length).filter fun q => decide (t ≤ wsum ws q)
theorem heavy_fam {ws : List Int} {t : Int} (hw : ws.length ≤ 6) : Fam (heavyK ws t) := (subs_fam hw).filter _
structure HasW (T : Tab) : Prop where
  subs : T.fn 25 = some fn_subsets_of
  wt : T.fn 27 = some fn_weight_of
  fam : T.fn 28 = some fn_weighted_family
theorem ev_weighted (h : HasW T) (hl : HasLeast T) {ws : List Int} {t : Int} (hw : ws.length ≤ 6) : ev T (n + 3) 28 [ti ws, .int t] = .ok (.tup (((leastK (heavyK ws t)).mergeSort szLe).map ti)) := by
  have hc := comp_if (T := T) (cf := ev T (n + 2)) (ρ := [.val (ti ws), .val (.int t), .no, .no]) (elt := .var 3) (c := .cmp .ge (.call 27 [(.var 3), (.var 0)]) (.var 1)) (x := 3) (src := .seq (.call 25 [(.bi .len [(.var 0)])])) (e := ti) (p := fun q => decide (t ≤ wsum ws q)) (g := ti) (xs := subs ws.length)
    (by simp [ev_subs h.subs hw]) (by simp [anyOwn, lkr, lkb, lks, lksL, lkbL]) (by have := (subs_fam hw).len; omega)
    (fun q hq => by
      obtain ⟨q1, q2⟩ := subs_mem _ q hq
      have := ev_weight (n := n + 1) h.wt q2 (by unfold lineSz; omega)
      simp [this])
    (fun q _ _ => by simp)
  have hL := ev_least (n := n) hl (heavy_fam (t := t) hw)
  rw [ev_eq h.fam rfl]
  simp only [fn_weighted_family, startE, List.map_cons, List.map_nil, List.cons_append, List.nil_append, List.replicate, evSs_cons, evS_asg, hc, asgS_ok]
  rw [bind_new (by simp [lks, anyOwn]) (by simp [fresh])]
  have e : (List.map ti ((subs ws.length).filter fun q => decide (t ≤ wsum ws q))) = (heavyK ws t).map ti := rfl
  rw [e]
  simp [hL, fresh, isOwn]
end
end Ev

set_option linter.all false
set_option autoImplicit false
set_option maxRecDepth 10000
/-! Plain laws: what all laws share (steps, sameness, dicts with numbers). -/
namespace Ev
open PySem
abbrev KV := List (List Int × Int)
abbrev keys (R : KV) : List (List Int) := R.map (·.1)
theorem find_key {R : KV} {q : List Int} : (R.find? fun p => decide (p.1 = q)).isSome = decide (q ∈ keys R) := by
  rw [Bool.eq_iff_iff, List.find?_isSome, decide_eq_true_iff, List.mem_map]
  exact ⟨fun ⟨x, h1, h2⟩ => ⟨x, h1, by simpa using h2⟩, fun ⟨x, h1, h2⟩ => ⟨x, h1, by simpa using h2⟩⟩
theorem get_dn {R : KV} {q : List Int} : dget (.dN (dti D.int R)) (ti q) = .ok (((R.find? fun p => decide (p.1 = q)).map (·.2)).map D.int) := by
  simp only [dget, nkeyT_ti, getN_ti]
theorem has_dn {R : KV} {q : List Int} : hasD (ti q) (.dN (dti D.int R)) = .ok (decide (q ∈ keys R)) := by
  simp only [hasD, get_dn, Ev.R.bind]
  rw [← find_key]
  cases R.find? fun p => decide (p.1 = q) <;> rfl
theorem put_dn {R : KV} {q : List Int} {v : Int} (hq : q ∉ keys R) (hl : R.length < lineSz) : dput (.dN (dti D.int R)) (ti q) (.int v) = .ok (.dN (dti D.int (R ++ [(q, v)]))) := by
  have hg : getN (dti D.int R) (.tup (q.map NestedKey.num)) = none := by
    rw [getN_ti]
    have := find_key (R := R) (q := q)
    rw [decide_eq_false hq] at this
    cases hf : R.find? fun p => decide (p.1 = q) with
    | none => rfl
    | some x => rw [hf] at this; simp at this
  unfold dput
  simp only [nkeyT_ti]
  rw [if_pos (by rw [List.length_map]; exact hl)]
  unfold putN
  rw [hg]
  simp [dti]
theorem loopS_find {σ α : Type} {step : σ → α → St σ} {p : α → Bool} {g : α → σ} {d : α → D} (h : ∀ s x, step s x = if p x then .ret (d x) false else .nx (g x)) : ∀ {xs : List α} {s : σ}, (∀ x, xs.find? p = some x → loopS step xs s = .ret (d x) false) ∧ (xs.find? p = none → ∃ s', loopS step xs s = .nx s')
  | [], s => ⟨fun x hx => by simp at hx, fun _ => ⟨s, rfl⟩⟩
  | x :: xs, s => by
    simp only [loopS, h]
    cases hx : p x with
    | true =>
      refine ⟨fun y hy => ?_, fun hy => ?_⟩
      · rw [List.find?_cons_of_pos hx] at hy
        cases hy; rfl
      · rw [List.find?_cons_of_pos hx] at hy; cases hy
    | false =>
      rw [List.find?_cons_of_neg (by simp [hx])]
      exact loopS_find h
abbrev slV : Option D → Sl
  | none => .no
  | some d => .val d
/-- a loop that only goes on, its states told by what holds of them -/
theorem forR_inv {σ α : Type} {set : Env → D → R Env} {body : Env → R Fl} {e : α → D} {env : σ → Env} (P : Nat → σ → Prop) :
    ∀ {xs : List α} {k : Nat} {s : σ}, P k s → (∀ i s x, xs[i]? = some x → P (k + i) s → ∃ ρ1 s', set (env s) (e x) = .ok ρ1 ∧ (body ρ1 = .ok (.nx (env s')) ∨ body ρ1 = .ok (.cont (env s'))) ∧ P (k + i + 1) s') →
      ∃ s', forR set body (xs.map e) (env s) = .ok (.nx (env s')) ∧ P (k + xs.length) s'
  | [], k, s, hP, _ => ⟨s, rfl, hP⟩
  | x :: xs, k, s, hP, hb => by
    obtain ⟨ρ1, s', h1, h2, h3⟩ := hb 0 s x rfl hP
    obtain ⟨t, h4, h5⟩ := forR_inv P (xs := xs) (k := k + 1) (s := s') h3 fun i s y hy hP => by
      have := hb (i + 1) s y (by simpa using hy) (by rw [show k + (i + 1) = k + 1 + i by omega]; exact hP)
      rw [show k + (i + 1) + 1 = k + 1 + i + 1 by omega] at this
      exact this
    refine ⟨t, ?_, by rw [List.length_cons, show k + (xs.length + 1) = k + 1 + xs.length by omega]; exact h5⟩
    simp only [List.map_cons, forR, h1]
    rcases h2 with h2 | h2 <;> rw [h2] <;> exact h4
theorem evS_inv {T : Tab} {cf : Nat → List D → R D} {σ α : Type} {t : Tgt} {src : Src} {b : List S} {e : α → D} {env : σ → Env} {xs : List α} {s : σ} (P : Nat → σ → Prop) (hs : evSrc T cf (env s) src = .ok (xs.map e))
    (ho : (match srcVar src with
      | some y => (mutSs b).contains y
      | none => anyOwn (lkr src) (env s)) = false) (hP : P 0 s)
    (hb : ∀ i s x, xs[i]? = some x → P i s → ∃ ρ1 s', setT (env s) t (e x) = .ok ρ1 ∧ (evSs T cf b ρ1 = .ok (.nx (env s')) ∨ evSs T cf b ρ1 = .ok (.cont (env s'))) ∧ P (i + 1) s') :
    ∃ s', evS T cf (.fors t src b) (env s) = .ok (.nx (env s')) ∧ P xs.length s' := by
  obtain ⟨s', h1, h2⟩ := forR_inv (set := fun ρ d => setT ρ t d) (body := fun ρ => evSs T cf b ρ) (e := e) (env := env) P (xs := xs) (k := 0) (s := s) hP fun i s x hx hP => by
    rw [Nat.zero_add] at hP ⊢
    exact hb i s x hx hP
  rw [Nat.zero_add] at h2
  refine ⟨s', ?_, h2⟩
  simp only [evS]
  cases hv : srcVar src with
  | some y =>
    rw [hv] at ho
    simp only at ho ⊢
    rw [ho, hs]
    exact h1
  | none =>
    rw [hv] at ho
    simp only at ho ⊢
    rw [ho, hs]
    exact h1
/-- what a range gives: the index is the item -/
theorem range_at {m i k : Nat} (h : (List.range m)[i]? = some k) : i < m ∧ k = i := by
  obtain ⟨hi, hk⟩ := List.getElem?_eq_some_iff.mp h
  rw [List.length_range] at hi
  rw [List.getElem_range] at hk
  exact ⟨hi, hk.symm⟩
section
variable {T : Tab} {n : Nat}
theorem step {cf : Nat → List D → R D} {s : S} {r : List S} {ρ ρ' : Env} {z : R Fl} (h : evS T cf s ρ = .ok (.nx ρ')) (h2 : evSs T cf r ρ' = z) : evSs T cf (s :: r) ρ = z := by rw [evSs_cons, h, seqS_nx, h2]
theorem same_ns {cf : Nat → List D → R D} {ρ : Env} {e : E} (h : evE T cf ρ e = .ok (.bl true)) : evS T cf (.ifs (.not e) [.ret (.bl false)] []) ρ = .ok (.nx ρ) := by simp [h]
mutual
theorem lsame_self : ∀ (m : Nat) (d : D), lawD m d = true → lsame d d = true
  | m, .non, _ => rfl
  | m, .bl b, _ => by simp [lsame]
  | m, .int i, _ => by simp [lsame]
  | m, .str i, _ => by simp [lsame]
  | m + 1, .tup a, h => by
    simp only [lawD, Bool.and_eq_true] at h
    simp only [lsame]
    exact lsames_self m a h.2
  | 0, .tup _, h => by simp [lawD] at h
  | m, .lst _, h => by cases m <;> simp [lawD] at h
  | m, .scr _, h => by cases m <;> simp [lawD] at h
  | m, .ins _ _, h => by cases m <;> simp [lawD] at h
  | m, .dK _, h => by cases m <;> simp [lawD] at h
  | m, .dN _, h => by cases m <;> simp [lawD] at h
theorem lsames_self : ∀ (m : Nat) (ds : List D), lawDs m ds = true → lsames ds ds = true
  | m, [], _ => rfl
  | m, d :: ds, h => by
    simp only [lawDs, Bool.and_eq_true] at h
    simp only [lsames, Bool.and_eq_true]
    exact ⟨lsame_self m d h.1, lsames_self m ds h.2⟩
end
theorem lawDs_map {α : Type} {e : α → D} {m : Nat} : ∀ {xs : List α}, (∀ a ∈ xs, lawD m (e a) = true) → lawDs m (xs.map e) = true
  | [], _ => by simp [lawDs]
  | x :: xs, h => by
    simp only [List.map_cons, lawDs, Bool.and_eq_true]
    exact ⟨h x List.mem_cons_self, lawDs_map fun a ha => h a (List.mem_cons_of_mem _ ha)⟩
theorem law_ti {q : List Int} (h : q.length ≤ lineSz) : lawD 1 (ti q) = true := by
  simp only [lawD, Bool.and_eq_true, decide_eq_true_iff, List.length_map]
  exact ⟨h, lawDs_map fun _ _ => rfl⟩
theorem law_tis {K : List (List Int)} (h : K.length ≤ lineSz) (hq : ∀ q ∈ K, q.length ≤ lineSz) : lawD 2 (.tup (K.map ti)) = true := by
  simp only [lawD, Bool.and_eq_true, decide_eq_true_iff, List.length_map]
  exact ⟨h, lawDs_map fun q hm => law_ti (hq q hm)⟩
theorem same_tis (h : HasSame T) {K : List (List Int)} (hl : K.length ≤ lineSz) (hq : ∀ q ∈ K, q.length ≤ lineSz) : ev T (n + 4) 8 [.tup (K.map ti), .tup (K.map ti)] = .ok (.bl true) := by
  have hd := law_tis hl hq
  have := ev_same (n := n) h 2 _ _ hd hd
  rw [lsame_self 2 _ hd] at this
  exact this
theorem dig_nat {ds sizes : List Int} (h : Dig ds sizes) {i : Nat} {z : Int} (e : sizes[i]? = some z) : ∃ d : Nat, ds[i]? = some (d : Int) ∧ (d : Int) < z := by
  obtain ⟨d, h1, h2, h3⟩ := h.get e
  exact ⟨d.toNat, by rw [h1]; congr 1; omega, by omega⟩
theorem ix_li {ds : List Int} {i : Nat} {d : Int} (h : ds[i]? = some d) : idxD (li ds) (.int i) = .ok (.int d) := idx_lst (by rw [List.getElem?_map, h]; rfl)
@[simp] theorem cmp_neB {i j : Bool} : cmpD .ne (.bl i) (.bl j) = .ok (!(i == j)) := by
  have : eqD (.bl i) (.bl j) = .ok (i == j) := cmp_eqB
  simp only [cmpD, this]
theorem same_int (h : HasSame T) (i : Int) : ev T (n + 2) 8 [.int i, .int i] = .ok (.bl true) := by
  have := ev_same (n := n) h 0 (.int i) (.int i) rfl rfl
  simpa [lsame] using this
theorem same_ti (h : HasSame T) {q : List Int} (hq : q.length ≤ lineSz) : ev T (n + 3) 8 [ti q, ti q] = .ok (.bl true) := by
  have hd := law_ti hq
  have := ev_same (n := n) h 1 _ _ hd hd
  rw [lsame_self 1 _ hd] at this
  exact this
end
end Ev

set_option linter.all false
set_option autoImplicit false
set_option maxRecDepth 10000
/-! Plain laws: inputs, is_below, agree. -/
namespace Ev
open PySem
def fn_is_below : Fn := { np := 2, nl := 3, fr := false, body := [.fors (.one 2) (.rng [(.bi .len [(.var 0)])]) [.ifs (.and (.cmp .ne (.idx (.var 0) (.var 2)) (.int 0)) (.cmp .ne (.idx (.var 0) (.var 2)) (.idx (.var 1) (.var 2)))) [.ret (.bl false)] []], .ret (.bl true)] }
def fn_contradicting_place : Fn := { np := 2, nl := 3, fr := false, body := [.fors (.one 2) (.rng [(.bi .len [(.var 0)])]) [.ifs (.and (.cmp .ne (.idx (.var 0) (.var 2)) (.int 0)) (.and (.cmp .ne (.idx (.var 1) (.var 2)) (.int 0)) (.cmp .ne (.idx (.var 0) (.var 2)) (.idx (.var 1) (.var 2))))) [.ret (.var 2)] []], .ret .non] }
def fn_agree : Fn := { np := 2, nl := 2, fr := false, body := [.ret (.cmp .is_ (.call 66 [(.var 0), (.var 1)]) .non)] }
def fn_with_value : Fn := { np := 3, nl := 3, fr := false, body := [.ret (.bin .add (.bin .add (.slc (.var 0) none (some (.var 1))) (.tup [(.var 2)])) (.slc (.var 0) (some (.bin .add (.var 1) (.int 1))) none))] }
def at0 (x : List Int) (i : Nat) : Int := (x[i]?).getD 0
theorem ix_ti {x : List Int} {i : Nat} (h : i < x.length) : idxD (ti x) (.int (i : Int)) = .ok (.int (at0 x i)) := by
  unfold at0
  rw [List.getElem?_eq_getElem h, Option.getD_some]
  exact idx_tup (by rw [List.getElem?_map, List.getElem?_eq_getElem h]; rfl)
def belowAt (x y : List Int) (i : Nat) : Bool := decide (at0 x i = 0) || decide (at0 x i = at0 y i)
def below (x y : List Int) : Bool := (List.range x.length).all (belowAt x y)
def agreeAt (x y : List Int) (i : Nat) : Bool := decide (at0 x i = 0) || (decide (at0 y i = 0) || decide (at0 x i = at0 y i))
def agrees (x y : List Int) : Bool := (List.range x.length).all (agreeAt x y)
structure HasOrd (T : Tab) : Prop where
  below : T.fn 65 = some fn_is_below
  contra : T.fn 66 = some fn_contradicting_place
  agree : T.fn 67 = some fn_agree
section
variable {T : Tab} {n : Nat}
theorem ev_below_gen {f : Nat} (h : T.fn f = some fn_is_below) {x y : List Int} {X Y : D} (hX : biD .len [X] = .ok (.int x.length)) (ixX : ∀ i : Nat, i < x.length → idxD X (.int (i : Int)) = .ok (.int (at0 x i))) (ixY : ∀ i : Nat, i < x.length → idxD Y (.int (i : Int)) = .ok (.int (at0 y i))) (hl : x.length ≤ lineSz) : ev T (n + 1) f [X, Y] = .ok (.bl (below x y)) := by
  have hloop := evS_for (T := T) (cf := ev T n) (t := .one 2) (src := .rng [(.bi .len [(.var 0)])]) (b := [.ifs (.and (.cmp .ne (.idx (.var 0) (.var 2)) (.int 0)) (.cmp .ne (.idx (.var 0) (.var 2)) (.idx (.var 1) (.var 2)))) [.ret (.bl false)] []]) (e := fun k : Nat => .int (k : Int)) (env := fun s : Sl => [.val X, .val Y, s])
    (step := fun _ k => if belowAt x y k then .nx (.val (.int (k : Int))) else .ret (.bl false) false) (xs := List.range x.length) (s := .no) (fun _ _ => True)
    (by
      have r := range1 hl
      simp [r, hX]) (by simp [srcVar, lkr, anyOwn]) trivial
    (fun i s k hk _ => by
      obtain ⟨hi, hk⟩ := List.getElem?_eq_some_iff.mp hk
      rw [List.length_range] at hi
      rw [List.getElem_range] at hk
      subst hk
      refine ⟨_, rfl, .inl ?_⟩
      have i1 := ixX i hi
      have i2 := ixY i hi
      simp only [belowAt]
      by_cases h1 : at0 x i = 0
      · simp [i1, i2, h1, St.fl]
      · by_cases h2 : at0 x i = at0 y i
        · rw [h2] at h1 i1
          simp [i1, i2, h1, h2, St.fl]
        · simp [i1, i2, h1, h2, St.fl, isRoot, isOwn])
    (fun _ _ _ _ _ _ _ => trivial)
  obtain ⟨ha, hb⟩ := loopS_all (step := fun (_ : Sl) k => if belowAt x y k then St.nx (Sl.val (.int (k : Int))) else .ret (.bl false) false) (p := belowAt x y) (f := fun k : Nat => Sl.val (.int (k : Int))) (d := .bl false) (o := false) (xs := List.range x.length) (s := .no) (fun s k _ => rfl)
  refine ev_of (own := false) (ρ := [.val X, .val Y, .no]) h rfl (by simp [startE, fn_is_below]) (by simp only [fn_is_below]; rfl) rfl ?_
  rw [evSs_cons, hloop]
  cases hz : below x y with
  | true =>
    obtain ⟨s', e⟩ := ha hz
    rw [e]
    simp [St.fl, isRoot, isOwn]
  | false =>
    rw [hb hz]
    simp [St.fl]
theorem ev_below_at {f : Nat} (h : T.fn f = some fn_is_below) {x y : List Int} (hxy : x.length ≤ y.length) (hl : x.length ≤ lineSz) : ev T (n + 1) f [ti x, ti y] = .ok (.bl (below x y)) :=
  ev_below_gen h (by simp) (fun i hi => ix_ti hi) (fun i hi => ix_ti (by omega)) hl
theorem ev_below (h : HasOrd T) {x y : List Int} (hxy : x.length ≤ y.length) (hl : x.length ≤ lineSz) : ev T (n + 1) 65 [ti x, ti y] = .ok (.bl (below x y)) := ev_below_at h.below hxy hl
theorem ev_contra (h : HasOrd T) {x y : List Int} (hxy : x.length ≤ y.length) (hl : x.length ≤ lineSz) : (agrees x y = true → ev T (n + 1) 66 [ti x, ti y] = .ok .non) ∧ (agrees x y = false → ∃ k : Nat, ev T (n + 1) 66 [ti x, ti y] = .ok (.int k)) := by
  have hloop := evS_for (T := T) (cf := ev T n) (t := .one 2) (src := .rng [(.bi .len [(.var 0)])]) (b := [.ifs (.and (.cmp .ne (.idx (.var 0) (.var 2)) (.int 0)) (.and (.cmp .ne (.idx (.var 1) (.var 2)) (.int 0)) (.cmp .ne (.idx (.var 0) (.var 2)) (.idx (.var 1) (.var 2))))) [.ret (.var 2)] []]) (e := fun k : Nat => .int (k : Int)) (env := fun s : Sl => [.val (ti x), .val (ti y), s])
    (step := fun _ k => if !agreeAt x y k then .ret (.int (k : Int)) false else .nx (.val (.int (k : Int)))) (xs := List.range x.length) (s := .no) (fun _ _ => True)
    (by
      have r := range1 hl
      simp [r]) (by simp [srcVar, lkr, anyOwn]) trivial
    (fun i s k hk _ => by
      obtain ⟨hi, hk⟩ := List.getElem?_eq_some_iff.mp hk
      rw [List.length_range] at hi
      rw [List.getElem_range] at hk
      subst hk
      refine ⟨_, rfl, .inl ?_⟩
      have i1 := ix_ti (x := x) hi
      have i2 := ix_ti (x := y) (i := i) (by omega)
      simp only [agreeAt]
      by_cases h1 : at0 x i = 0
      · simp [i1, i2, h1, St.fl]
      · by_cases h3 : at0 y i = 0
        · simp [i1, i2, h1, h3, St.fl]
        · by_cases h2 : at0 x i = at0 y i
          · rw [h2] at h1 i1
            simp [i1, i2, h1, h2, h3, St.fl]
          · simp [i1, i2, h1, h2, h3, St.fl, isRoot, isOwn])
    (fun _ _ _ _ _ _ _ => trivial)
  have hf := loopS_find (step := fun (_ : Sl) k => if !agreeAt x y k then St.ret (.int (k : Int)) false else .nx (Sl.val (.int (k : Int)))) (p := fun k => !agreeAt x y k) (g := fun k : Nat => Sl.val (.int (k : Int))) (d := fun k : Nat => .int (k : Int)) (fun s k => rfl) (xs := List.range x.length) (s := .no)
  have go : ∀ {d o}, evSs T (ev T n) fn_contradicting_place.body [.val (ti x), .val (ti y), .no] = .ok (.ret d o) → ev T (n + 1) 66 [ti x, ti y] = .ok d := fun {d o} hb => ev_of (own := o) (ρ := [.val (ti x), .val (ti y), .no]) h.contra rfl (by simp [startE, fn_contradicting_place]) rfl rfl hb
  refine ⟨fun hz => ?_, fun hz => ?_⟩
  · have hn : (List.range x.length).find? (fun k => !agreeAt x y k) = none := by
      rw [List.find?_eq_none]
      intro k hk z
      have := List.all_eq_true.mp hz k hk
      rw [this] at z
      cases z
    obtain ⟨s', e⟩ := hf.2 hn
    refine go (o := false) ?_
    simp only [fn_contradicting_place]
    rw [evSs_cons, hloop, e]
    simp [St.fl, isRoot, isOwn]
  · obtain ⟨k, hk⟩ : ∃ k, (List.range x.length).find? (fun k => !agreeAt x y k) = some k := by
      rw [← Option.isSome_iff_exists, List.find?_isSome]
      obtain ⟨k, h1, h2⟩ := List.all_eq_false.mp hz
      exact ⟨k, h1, by simpa using h2⟩
    refine ⟨k, go (o := false) ?_⟩
    simp only [fn_contradicting_place]
    rw [evSs_cons, hloop, hf.1 k hk]
    simp [St.fl]
theorem ev_agree (h : HasOrd T) {x y : List Int} (hxy : x.length ≤ y.length) (hl : x.length ≤ lineSz) : ev T (n + 2) 67 [ti x, ti y] = .ok (.bl (agrees x y)) := by
  obtain ⟨h1, h2⟩ := ev_contra (n := n) h hxy hl
  rw [ev_eq h.agree rfl]
  cases hz : agrees x y with
  | true => simp [fn_agree, startE, h1 hz, isRoot, isOwn]
  | false =>
    obtain ⟨k, e⟩ := h2 hz
    simp [fn_agree, startE, e, isRoot, isOwn]
end
end Ev

set_option linter.all false
set_option autoImplicit false
set_option maxRecDepth 10000
/-! Plain laws: rows, first_clash, has_lower, least_rows. -/
namespace Ev
open PySem
def fn_first_clash : Fn := { np := 1, nl := 3, fr := false, body := [.fors (.one 1) (.rng [(.bi .len [(.var 0)])]) [.fors (.one 2) (.rng [(.bin .add (.var 1) (.int 1)), (.bi .len [(.var 0)])]) [.ifs (.and (.cmp .ne (.idx (.idx (.var 0) (.var 1)) (.int 1)) (.idx (.idx (.var 0) (.var 2)) (.int 1))) (.call 67 [(.idx (.idx (.var 0) (.var 1)) (.int 0)), (.idx (.idx (.var 0) (.var 2)) (.int 0))])) [.ret (.tup [(.var 1), (.var 2)])] []]], .ret .non] }
def fn_has_lower : Fn := { np := 2, nl := 3, fr := false, body := [.fors (.one 2) (.seq (.var 0)) [.ifs (.and (.cmp .ne (.idx (.var 2) (.int 0)) (.var 1)) (.call 65 [(.idx (.var 2) (.int 0)), (.var 1)])) [.ret (.bl true)] []], .ret (.bl false)] }
def fn_least_rows : Fn := { np := 1, nl := 4, fr := false, body := [.asg 1 (.dnew true), .fors (.one 2) (.seq (.var 0)) [.ifs (.and (.cmp .notin (.idx (.var 2) (.int 0)) (.var 1)) (.not (.call 70 [(.var 0), (.idx (.var 2) (.int 0))]))) [.seti 1 (.idx (.var 2) (.int 0)) (.idx (.var 2) (.int 1))] []], .ret (.bi .tuple [(.comp (.tup [(.var 3), (.idx (.var 1) (.var 3))]) 3 (.seq (.bi .sorted [(.bi .list [(.var 1)])])) none)])] }
abbrev tr (r : List Int × Int) : D := .tup [ti r.1, .int r.2]
abbrev trs (rs : KV) : D := .tup (rs.map tr)
theorem noMut_tr {r : List Int × Int} : noMut (tr r) = true := by simp [noMut, noMuts, noMuts_map (e := D.int) (xs := r.1) fun _ _ => rfl]
theorem noMut_trs {rs : KV} : noMut (trs rs) = true := noMuts_map fun _ _ => noMut_tr
theorem ix_trs {rs : KV} {i : Nat} {r : List Int × Int} (h : rs[i]? = some r) : idxD (trs rs) (.int (i : Int)) = .ok (tr r) := idx_tup (by rw [List.getElem?_map, h]; rfl)
@[simp] theorem ix_tr0 {r : List Int × Int} : idxD (tr r) (.int 0) = .ok (ti r.1) := idx_tup (i := 0) rfl
@[simp] theorem ix_tr1 {r : List Int × Int} : idxD (tr r) (.int 1) = .ok (.int r.2) := idx_tup (i := 1) rfl
structure HasRows (T : Tab) : Prop where
  ord : HasOrd T
  clash : T.fn 69 = some fn_first_clash
  lower : T.fn 70 = some fn_has_lower
  least : T.fn 71 = some fn_least_rows
/-- rows over p places -/
structure RowsOk (p : Nat) (rs : KV) : Prop where
  len : rs.length ≤ 10000
  wide : ∀ r ∈ rs, r.1.length = p
  pl : p ≤ 1000
def NoClash (rs : KV) : Prop := ∀ (i j : Nat) r s, i < j → rs[i]? = some r → rs[j]? = some s → r.2 ≠ s.2 → agrees r.1 s.1 = false
section
variable {T : Tab} {n : Nat}
theorem ev_clash (h : HasRows T) {p : Nat} {rs : KV} (hr : RowsOk p rs) (hn : NoClash rs) : ev T (n + 3) 69 [trs rs] = .ok .non := by
  have hlen := hr.len
  have inner : ∀ (i : Nat) (s : Sl), i < rs.length → evS T (ev T (n + 2)) (.fors (.one 2) (.rng [(.bin .add (.var 1) (.int 1)), (.bi .len [(.var 0)])]) [.ifs (.and (.cmp .ne (.idx (.idx (.var 0) (.var 1)) (.int 1)) (.idx (.idx (.var 0) (.var 2)) (.int 1))) (.call 67 [(.idx (.idx (.var 0) (.var 1)) (.int 0)), (.idx (.idx (.var 0) (.var 2)) (.int 0))])) [.ret (.tup [(.var 1), (.var 2)])] []]) [.val (trs rs), .val (.int i), s] =
      .ok (.nx [.val (trs rs), .val (.int i), (List.range (rs.length - (i + 1))).foldl (fun _ (k : Nat) => .val (.int ((i : Int) + 1 + (k : Int)))) s]) := fun i s hi => by
    obtain ⟨key, _⟩ := evS_fold (T := T) (cf := ev T (n + 2)) (t := .one 2) (src := .rng [(.bin .add (.var 1) (.int 1)), (.bi .len [(.var 0)])]) (b := [.ifs (.and (.cmp .ne (.idx (.idx (.var 0) (.var 1)) (.int 1)) (.idx (.idx (.var 0) (.var 2)) (.int 1))) (.call 67 [(.idx (.idx (.var 0) (.var 1)) (.int 0)), (.idx (.idx (.var 0) (.var 2)) (.int 0))])) [.ret (.tup [(.var 1), (.var 2)])] []]) (e := fun k : Nat => .int ((i : Int) + 1 + (k : Int)))
      (env := fun s : Sl => [.val (trs rs), .val (.int i), s]) (f := fun _ k => .val (.int ((i : Int) + 1 + (k : Int)))) (xs := List.range (rs.length - (i + 1))) (s := s) (fun _ _ => True)
      (by
        have r := range2 (a := (i : Int) + 1) (m := rs.length) (by omega) (by omega) (by unfold lineSz; omega)
        rw [show ((rs.length : Int) - ((i : Int) + 1)).toNat = rs.length - (i + 1) by omega] at r
        simp [r]) (by simp [srcVar, lkr, anyOwn]) trivial
      (fun j t k hk _ => by
        obtain ⟨hj, hk⟩ := List.getElem?_eq_some_iff.mp hk
        rw [List.length_range] at hj
        rw [List.getElem_range] at hk
        subst hk
        have g1 : rs[i]? = some (rs[i]'hi) := List.getElem?_eq_getElem hi
        have g2 : rs[i + 1 + j]? = some (rs[i + 1 + j]'(by omega)) := List.getElem?_eq_getElem (by omega)
        have x1 := ix_trs g1
        have x2 := ix_trs g2
        rw [show ((i + 1 + j : Nat) : Int) = (i : Int) + 1 + (j : Int) by omega] at x2
        have w1 := hr.wide _ (List.mem_of_getElem? g1)
        have w2 := hr.wide _ (List.mem_of_getElem? g2)
        have hp := hr.pl
        have ha := ev_agree (n := n) h.ord (x := (rs[i]'hi).1) (y := (rs[i + 1 + j]'(by omega)).1) (by omega) (by unfold lineSz; omega)
        refine ⟨_, rfl, .inl ?_⟩
        by_cases he : (rs[i]'hi).2 = (rs[i + 1 + j]'(by omega)).2
        · simp [x1, x2, he]
        · have hz := hn i (i + 1 + j) _ _ (by omega) g1 g2 he
          rw [hz] at ha
          simp [x1, x2, he, ha])
      (fun _ _ _ _ _ => trivial)
    exact key
  obtain ⟨key, _⟩ := evS_fold (T := T) (cf := ev T (n + 2)) (t := .one 1) (src := .rng [(.bi .len [(.var 0)])]) (b := [.fors (.one 2) (.rng [(.bin .add (.var 1) (.int 1)), (.bi .len [(.var 0)])]) [.ifs (.and (.cmp .ne (.idx (.idx (.var 0) (.var 1)) (.int 1)) (.idx (.idx (.var 0) (.var 2)) (.int 1))) (.call 67 [(.idx (.idx (.var 0) (.var 1)) (.int 0)), (.idx (.idx (.var 0) (.var 2)) (.int 0))])) [.ret (.tup [(.var 1), (.var 2)])] []]]) (e := fun k : Nat => .int (k : Int))
    (env := fun s : Sl × Sl => [.val (trs rs), s.1, s.2]) (f := fun s i => (.val (.int (i : Int)), (List.range (rs.length - (i + 1))).foldl (fun _ (k : Nat) => .val (.int ((i : Int) + 1 + (k : Int)))) s.2)) (xs := List.range rs.length) (s := (.no, .no)) (fun _ _ => True)
    (by
      have r := range1 (m := rs.length) (by unfold lineSz; omega)
      simp [r]) (by simp [srcVar, lkr, anyOwn]) trivial
    (fun i t k hk _ => by
      obtain ⟨hi, hk⟩ := List.getElem?_eq_some_iff.mp hk
      rw [List.length_range] at hi
      rw [List.getElem_range] at hk
      subst hk
      refine ⟨_, rfl, .inl ?_⟩
      have hin := inner i t.2 hi
      simp only [List.set_cons_succ, List.set_cons_zero, evSs_cons, hin, seqS_nx, evSs_nil])
    (fun _ _ _ _ _ => trivial)
  refine ev_of (own := false) (ρ := [.val (trs rs), .no, .no]) h.clash rfl (by simp [startE, fn_first_clash]) (by simp only [fn_first_clash]; rfl) rfl ?_
  rw [evSs_cons, key]
  simp [isRoot, isOwn]
def lowAt (x : List Int) (r : List Int × Int) : Bool := !decide (r.1 = x) && below r.1 x
def hasLow (rs : KV) (x : List Int) : Bool := rs.any (lowAt x)
theorem ev_lower (h : HasRows T) {p : Nat} {rs : KV} (hr : RowsOk p rs) {x : List Int} (hx : x.length = p) : ev T (n + 2) 70 [trs rs, ti x] = .ok (.bl (hasLow rs x)) := by
  have hloop := evS_for (T := T) (cf := ev T (n + 1)) (t := .one 2) (src := .seq (.var 0)) (b := [.ifs (.and (.cmp .ne (.idx (.var 2) (.int 0)) (.var 1)) (.call 65 [(.idx (.var 2) (.int 0)), (.var 1)])) [.ret (.bl true)] []]) (e := tr) (env := fun s : Sl => [.val (trs rs), .val (ti x), s])
    (step := fun _ r => if lowAt x r then .ret (.bl true) false else .nx (.val (tr r))) (xs := rs) (s := .no) (fun _ _ => True)
    (by simp) (by simp [srcVar, mutSs, mutS]) trivial
    (fun i s r hi _ => by
      have w := hr.wide r (List.mem_of_getElem? hi)
      have hp := hr.pl
      have hb := ev_below (n := n) h.ord (x := r.1) (y := x) (by omega) (by unfold lineSz; omega)
      refine ⟨_, rfl, .inl ?_⟩
      simp only [lowAt]
      by_cases he : r.1 = x
      · simp [he, St.fl]
      · by_cases hz : below r.1 x = true
        · rw [hz] at hb; simp [he, hb, hz, St.fl, isRoot, isOwn]
        · have hz : below r.1 x = false := by simpa using hz
          rw [hz] at hb; simp [he, hb, hz, St.fl])
    (fun _ _ _ _ _ _ _ => trivial)
  have hf := loopS_find (step := fun (_ : Sl) r => if lowAt x r then St.ret (.bl true) false else .nx (Sl.val (tr r))) (p := lowAt x) (g := fun r => Sl.val (tr r)) (d := fun _ => .bl true) (fun s r => rfl) (xs := rs) (s := .no)
  refine ev_of (own := false) (ρ := [.val (trs rs), .val (ti x), .no]) h.lower rfl (by simp [startE, fn_has_lower]) (by simp only [fn_has_lower]; rfl) rfl ?_
  rw [evSs_cons, hloop]
  unfold hasLow
  cases hz : rs.find? (lowAt x) with
  | none =>
    obtain ⟨s', e⟩ := hf.2 hz
    have : rs.any (lowAt x) = false := by
      rw [List.any_eq_false]
      exact List.find?_eq_none.mp hz
    rw [e, this]
    simp [St.fl, isRoot, isOwn]
  | some r =>
    have : rs.any (lowAt x) = true := List.any_eq_true.mpr ⟨r, List.mem_of_find?_eq_some hz, List.find?_some hz⟩
    rw [hf.1 r hz, this]
    simp [St.fl]
end
end Ev

set_option linter.all false
set_option autoImplicit false
set_option maxRecDepth 10000
/-! Plain laws: least_rows, the class Box. -/
namespace Ev
open PySem
def addL (rs : KV) (s : KV) (r : List Int × Int) : KV := if r.1 ∈ keys s ∨ hasLow rs r.1 = true then s else s ++ [r]
def lowest (rs : KV) : KV := rs.foldl (addL rs) []
def valOf (s : KV) (q : List Int) : Int := ((s.find? fun r => decide (r.1 = q)).map (·.2)).getD 0
def leastS (rs : KV) : KV := ((keys (lowest rs)).mergeSort tiLe).map fun q => (q, valOf (lowest rs) q)
structure Lw (rs s : KV) : Prop where
  nodup : (keys s).Nodup
  mem : ∀ r ∈ s, r ∈ rs
theorem Lw.add {rs s : KV} (h : Lw rs s) {r : List Int × Int} (hr : r ∈ rs) : Lw rs (addL rs s r) := by
  unfold addL
  split
  · exact h
  · rename_i hn
    have hn : r.1 ∉ keys s := fun z => hn (.inl z)
    refine ⟨?_, fun q hq => ?_⟩
    · simp only [keys, List.map_append, List.map_cons, List.map_nil]
      rw [List.nodup_append]
      refine ⟨h.nodup, by simp, fun x hx y hy => ?_⟩
      rw [List.mem_singleton] at hy
      exact fun z => hn (by rw [← hy, ← z]; exact hx)
    · rcases List.mem_append.mp hq with hq | hq
      · exact h.mem q hq
      · rw [List.mem_singleton] at hq; subst hq; exact hr
theorem addL_len {rs s : KV} {r : List Int × Int} : (addL rs s r).length ≤ s.length + 1 := by
  unfold addL; split
  · omega
  · simp
theorem lowest_lw (rs : KV) : Lw rs (lowest rs) ∧ (lowest rs).length ≤ rs.length := by
  have : ∀ (xs s : KV), (∀ r ∈ xs, r ∈ rs) → Lw rs s → Lw rs (xs.foldl (addL rs) s) ∧ (xs.foldl (addL rs) s).length ≤ s.length + xs.length := by
    intro xs
    induction xs with
    | nil => exact fun s _ h => ⟨h, by simp⟩
    | cons r xs ih =>
      intro s hx h
      have := ih (addL rs s r) (fun q hq => hx q (List.mem_cons_of_mem _ hq)) (h.add (hx r List.mem_cons_self))
      have h2 := addL_len (rs := rs) (s := s) (r := r)
      exact ⟨this.1, by have := this.2; rw [List.foldl_cons, List.length_cons]; omega⟩
  have := this rs [] (fun r h => h) ⟨by simp [keys], by simp⟩
  exact ⟨this.1, by have h := this.2; rw [List.length_nil, Nat.zero_add] at h; exact h⟩
theorem sorted_keys {p : Nat} {K : List (List Int)} (hl : K.length ≤ lineSz) (hw : ∀ q ∈ K, q.length = p) (hn : K.Nodup) : biD .sorted [.lst (K.map ti)] = .ok (.lst ((K.mergeSort tiLe).map ti)) := by
  by_cases hp : p = 0
  · subst hp
    match K, hw, hn with
    | [], _, _ => exact sorted_ti (by simp [lineSz]) (by simp)
    | [q], hw, _ =>
      have : q = [] := List.length_eq_zero_iff.mp (hw q List.mem_cons_self)
      subst this
      rw [List.mergeSort_singleton]
      exact sorted_ti1
    | q :: r :: K, hw, hn =>
      have h1 : q = [] := List.length_eq_zero_iff.mp (hw q List.mem_cons_self)
      have h2 : r = [] := List.length_eq_zero_iff.mp (hw r (List.mem_cons_of_mem _ List.mem_cons_self))
      rw [h1, h2] at hn
      simp at hn
  · exact sorted_ti hl fun q hq z => hp (by rw [← hw q hq, z]; rfl)
section
variable {T : Tab} {n : Nat}
theorem ev_least_rows (h : HasRows T) {p : Nat} {rs : KV} (hr : RowsOk p rs) : ev T (n + 3) 71 [trs rs] = .ok (trs (leastS rs)) := by
  have hlen := hr.len
  obtain ⟨key, hb⟩ := evS_fold (T := T) (cf := ev T (n + 2)) (t := .one 2) (src := .seq (.var 0)) (b := [.ifs (.and (.cmp .notin (.idx (.var 2) (.int 0)) (.var 1)) (.not (.call 70 [(.var 0), (.idx (.var 2) (.int 0))]))) [.seti 1 (.idx (.var 2) (.int 0)) (.idx (.var 2) (.int 1))] []]) (e := tr)
    (env := fun s : KV × Sl => [.val (trs rs), .own (.dN (dti D.int s.1)), s.2, .no]) (f := fun s r => (addL rs s.1 r, .val (tr r))) (xs := rs) (s := ([], .no)) (fun i s => s.1.length ≤ i)
    (by simp) (by simp [srcVar, mutSs, mutS]) (by simp)
    (fun i s r hi hP => by
      have hm := List.mem_of_getElem? hi
      have hil := (List.getElem?_eq_some_iff.mp hi).1
      have w := hr.wide r hm
      have hlow := ev_lower (n := n) h hr (x := r.1) w
      have hn : cmpD .notin (ti r.1) (.dN (dti D.int s.1)) = .ok (!decide (r.1 ∈ keys s.1)) := by
        simp only [cmpD, has_dn, Ev.R.bind]
      refine ⟨_, rfl, .inl ?_⟩
      by_cases hk : r.1 ∈ keys s.1
      · have e : addL rs s.1 r = s.1 := if_pos (.inl hk)
        simp [hn, hk, e]
      · by_cases hz : hasLow rs r.1 = true
        · have e : addL rs s.1 r = s.1 := if_pos (.inr hz)
          rw [hz] at hlow
          simp [hn, hk, e, hlow]
        · have e : addL rs s.1 r = s.1 ++ [r] := if_neg (fun z => z.elim hk hz)
          have hz : hasLow rs r.1 = false := by simpa using hz
          rw [hz] at hlow
          have hs := seti_dN (T := T) (cf := ev T (n + 2)) (ρ := [.val (trs rs), .own (.dN (dti D.int s.1)), .val (tr r), .no]) (i := 1) (k := .idx (.var 2) (.int 0)) (e := .idx (.var 2) (.int 1)) (kvs := dti D.int s.1) (y := ti r.1) (d := .int r.2) rfl (by simp) rfl (by simp) (by simp [lks, lkb, anyOwn]) (put_dn (v := r.2) hk (by unfold lineSz; omega))
          have hand : evE T (ev T (n + 2)) [.val (trs rs), .own (.dN (dti D.int s.1)), .val (tr r), .no] (.and (.cmp .notin (.idx (.var 2) (.int 0)) (.var 1)) (.not (.call 70 [(.var 0), (.idx (.var 2) (.int 0))]))) = .ok (.bl true) := by
            simp [hn, hk, hlow]
          simp only [List.set_cons_succ, List.set_cons_zero, evSs_cons, evS_ifs, hand, ok_bind, truth_bl, ifS_t, hs, seqS_nx, evSs_nil, e])
    (fun i s r hi hP => by
      have := addL_len (rs := rs) (s := s.1) (r := r)
      show (addL rs s.1 r).length ≤ i + 1
      omega)
  have e1 : ∀ (xs : KV) (s : KV) (t : Sl), (xs.foldl (fun (s : KV × Sl) r => (addL rs s.1 r, Sl.val (tr r))) (s, t)).1 = xs.foldl (addL rs) s := by
    intro xs
    induction xs with
    | nil => exact fun _ _ => rfl
    | cons r xs ih => exact fun s t => ih _ _
  generalize hS : rs.foldl (fun (s : KV × Sl) r => (addL rs s.1 r, Sl.val (tr r))) ([], .no) = S at key hb
  have hS1 : S.1 = lowest rs := by rw [← hS, e1]; rfl
  obtain ⟨lw, ll⟩ := lowest_lw rs
  have hkl : (keys (lowest rs)).length ≤ lineSz := by rw [List.length_map]; unfold lineSz; omega
  have hkm : (dti D.int (lowest rs)).map (·.1) = (keys (lowest rs)).map ti := by simp [dti, keys, List.map_map, Function.comp_def]
  have hso := sorted_keys (p := p) hkl (fun q hq => by
    obtain ⟨r, h1, rfl⟩ := List.mem_map.mp hq
    exact hr.wide r (lw.mem r h1)) lw.nodup
  have hc := comp_map (T := T) (cf := ev T (n + 2)) (ρ := [.val (trs rs), .own (.dN (dti D.int (lowest rs))), S.2, .no]) (elt := .tup [(.var 3), (.idx (.var 1) (.var 3))]) (x := 3) (src := .seq (.bi .sorted [(.bi .list [(.var 1)])])) (e := ti) (g := fun q => tr (q, valOf (lowest rs) q)) (xs := (keys (lowest rs)).mergeSort tiLe)
    (by
      simp only [evSrc_seq, evE_bi, evEs_cons, evEs_nil, evE_var, List.getElem?_cons_succ, List.getElem?_cons_zero, ok_bind, bi_lstN, hkm, hso, seqOf_lst, ofO_some]) (by simp [anyOwn, lkr, lkb, lks, lkbL]) (by rw [List.length_mergeSort]; exact hkl)
    (fun q hq => by
      have hq := List.mem_mergeSort.mp hq
      have hf := find_key (R := lowest rs) (q := q)
      rw [decide_eq_true hq] at hf
      obtain ⟨r, hr⟩ := Option.isSome_iff_exists.mp hf
      have ix : idxD (.dN (dti D.int (lowest rs))) (ti q) = .ok (.int (valOf (lowest rs) q)) := by
        unfold valOf
        simp only [idxD, get_dn, Ev.R.bind, hr]
        rfl
      simp [ix])
  refine ev_of (own := false) (ρ := [.val (trs rs), .no, .no, .no]) h.least rfl (by simp [startE, fn_least_rows]) (by simp only [fn_least_rows]; rfl) rfl ?_
  have key' : evS T (ev T (n + 2)) (.fors (.one 2) (.seq (.var 0)) [.ifs (.and (.cmp .notin (.idx (.var 2) (.int 0)) (.var 1)) (.not (.call 70 [(.var 0), (.idx (.var 2) (.int 0))]))) [.seti 1 (.idx (.var 2) (.int 0)) (.idx (.var 2) (.int 1))] []]) [.val (trs rs), .own (.dN []), .no, .no] = _ := key
  simp only [evSs_cons, evS_asg, evE_dnewT, asgS_ok, bind_dict, List.set_cons_succ, List.set_cons_zero, seqS_nx, key', hS1, evS_ret, evE_bi, evEs_cons, evEs_nil, hc, ok_bind, bi_tupL, retS_ok]
  simp [leastS, isRoot, isOwn, List.map_map, Function.comp_def]
end
end Ev

set_option linter.all false
set_option autoImplicit false
set_option maxRecDepth 10000
/-! Plain laws: the class Box. -/
namespace Ev
open PySem
abbrev cBox : Cl := ⟨"Box", ["answers", "places", "least", "kinds"]⟩
def fn_Box_init : Fn := { np := 3, nl := 8, fr := false, ini := some (⟨"Box", ["answers", "places", "least", "kinds"]⟩ : Cl), body := [.asg 4 (.call 69 [(.var 3)]), .ifs (.cmp .isnot (.var 4) .non) [.raise] [], .fld "answers" (.var 1), .fld "places" (.var 2), .fld "least" (.call 71 [(.var 3)]), .asg 5 (.comp (.idx (.var 6) (.int 1)) 6 (.seq (.slf "least")) none), .fld "kinds" (.bi .tuple [(.comp (.var 7) 7 (.rng [(.int 1), (.bin .add (.var 1) (.int 1))]) (some (.cmp .isin (.var 7) (.var 5))))])] }
def fn_Box_call : Fn := { np := 2, nl := 3, fr := false, body := [.fors (.one 2) (.seq (.att (.var 0) "least")) [.ifs (.call 65 [(.idx (.var 2) (.int 0)), (.var 1)]) [.ret (.idx (.var 2) (.int 1))] []], .ret (.int 0)] }
def fn_Box_eq : Fn := { np := 2, nl := 2, fr := false, body := [.ret (.and (.isc (.var 1) (⟨"Box", ["answers", "places", "least", "kinds"]⟩ : Cl)) (.and (.cmp .eq (.att (.var 0) "answers") (.att (.var 1) "answers")) (.and (.cmp .eq (.att (.var 0) "places") (.att (.var 1) "places")) (.cmp .eq (.att (.var 0) "least") (.att (.var 1) "least")))))] }
structure HasBox (T : Tab) : Prop where
  rows : HasRows T
  init : T.fn 87 = some fn_Box_init
  call : T.fn 88 = some fn_Box_call
  eq : T.fn 89 = some fn_Box_eq
  cls : cBox ∈ T.cls
  mcall : T.meth "Box" "__call__" = some 88
  meq : T.meth "Box" "__eq__" = some 89
def kindsOf (a : Nat) (rs : KV) : List Int := ((List.range a).map fun (k : Nat) => 1 + (k : Int)).filter fun x => decide (x ∈ (leastS rs).map (·.2))
/-- a box as data -/
def boxD (a p : Nat) (rs : KV) : D := .ins cBox [.int a, .int p, trs (leastS rs), ti (kindsOf a rs)]
def valAt (L : KV) (x : List Int) : Int := match L.find? fun r => below r.1 x with
  | some r => r.2
  | none => 0
section
variable {T : Tab} {n : Nat}
theorem evI_nil {cf : Nat → List D → R D} {ρ : Env} : evI T cf [] ρ = .ok ρ := rfl
theorem evI_step {cf : Nat → List D → R D} {s : S} {r : List S} {ρ ρ' : Env} {z : R Env} (hs : ∀ x e, s ≠ .fld x e) (h : evS T cf s ρ = .ok (.nx ρ')) (h2 : evI T cf r ρ' = z) : evI T cf (s :: r) ρ = z := by
  cases s <;> first | (simp only [evI, h]; exact h2) | exact absurd rfl (hs _ _)
theorem evI_fld {cf : Nat → List D → R D} {x : Str} {e : E} {r : List S} {ρ : Env} {c : Cl} {fs : List D} {d : D} {z : R Env} (h0 : (ρ[(0 : Nat)]? : Option Sl) = some (.slf c fs)) (he : evE T cf ρ e = .ok d) (hc : noMut d = true ∧ c ∈ T.cls ∧ c.flds[fs.length]? = some x ∧ c.flds.length ≤ 100 ∧ c.flds.Nodup)
    (h2 : evI T cf r (ρ.set 0 (.slf c (fs ++ [d]))) = z) : evI T cf (.fld x e :: r) ρ = z := by
  simp only [evI, h0, he, if_pos hc, h2]
@[simp] theorem evE_slf {cf : Nat → List D → R D} {ρ : Env} {x : Str} : evE T cf ρ (.slf x) = match (ρ[(0 : Nat)]? : Option Sl) with
  | some (.slf c fs) => if c ∈ T.cls then ofO (fldD c fs x) else .bad
  | _ => .bad := by simp only [evE]; try rfl
@[simp] theorem evE_att {cf : Nat → List D → R D} {ρ : Env} {a : E} {x : Str} : evE T cf ρ (.att a x) = (evE T cf ρ a >>= fun d => match d with
  | .ins c fs => if c ∈ T.cls then ofO (fldD c fs x) else .bad
  | _ => .bad) := by simp only [evE]; try rfl
@[simp] theorem evE_new {cf : Nat → List D → R D} {ρ : Env} {f : Nat} {es : List E} : evE T cf ρ (.new f es) = (evEs T cf ρ es >>= fun ds => cf f ds) := by simp only [evE]
theorem evE_cal {cf : Nat → List D → R D} {ρ : Env} {a : E} {es : List E} {m : Str} {c : Cl} {fs ds : List D} {f : Nat} (h1 : evE T cf ρ a = .ok (.ins c fs)) (h2 : evEs T cf ρ es = .ok ds) (h3 : c ∈ T.cls) (h4 : T.meth c.name m = some f) : evE T cf ρ (.cal m a es) = cf f (.ins c fs :: ds) := by
  simp only [evE, h1, h3, if_true, h4, h2, ok_bind]
theorem evE_eqo {cf : Nat → List D → R D} {ρ : Env} {a b : E} {c c' : Cl} {fs gs : List D} {f : Nat} {r : Bool} (h1 : evE T cf ρ a = .ok (.ins c fs)) (h2 : evE T cf ρ b = .ok (.ins c' gs)) (h3 : c ∈ T.cls) (h3' : c' ∈ T.cls) (h4 : T.meth c.name "__eq__" = some f) (h5 : cf f [.ins c fs, .ins c' gs] = .ok (.bl r)) : evE T cf ρ (.eqo false a b) = .ok (.bl r) := by
  simp only [evE, h1, h2, h3, h3', h4, h5, and_self, if_true]
theorem fldN (s : Str) (h : s ∈ cBox.flds) : True := trivial
theorem fD0 {d0 d1 d2 d3 : D} : fldD cBox [d0, d1, d2, d3] "answers" = some d0 := rfl
theorem fD1 {d0 d1 d2 d3 : D} : fldD cBox [d0, d1, d2, d3] "places" = some d1 := rfl
theorem fD2 {d0 d1 d2 d3 : D} : fldD cBox [d0, d1, d2, d3] "least" = some d2 := rfl
theorem ev_box (h : HasBox T) {a p : Nat} {rs : KV} (ha : a ≤ 1000) (hr : RowsOk p rs) (hn : NoClash rs) : ev T (n + 4) 87 [.int a, .int p, trs rs] = .ok (boxD a p rs) := by
  have h1 := ev_clash (n := n) h.rows hr hn
  have h2 := ev_least_rows (n := n) h.rows hr
  have hll : (leastS rs).length ≤ lineSz := by
    obtain ⟨_, ll⟩ := lowest_lw rs
    have := hr.len
    unfold leastS
    rw [List.length_map, List.length_mergeSort, List.length_map]
    unfold lineSz; omega
  have key : evI T (ev T (n + 3)) fn_Box_init.body (startI cBox fn_Box_init [.int a, .int p, trs rs]) = .ok [.slf cBox [.int a, .int p, trs (leastS rs), ti (kindsOf a rs)], .val (.int a), .val (.int p), .val (trs rs), .val .non, .own (.lst (((leastS rs).map (·.2)).map D.int)), .no, .no] := by
    have hst : startI cBox fn_Box_init [.int a, .int p, trs rs] = [.slf cBox [], .val (.int a), .val (.int p), .val (trs rs), .no, .no, .no, .no] := rfl
    rw [hst]
    simp only [fn_Box_init]
    refine evI_step (fun _ _ z => by cases z) (ρ' := [.slf cBox [], .val (.int a), .val (.int p), .val (trs rs), .val .non, .no, .no, .no]) (by simp [h1]) ?_
    refine evI_step (fun _ _ z => by cases z) (ρ' := [.slf cBox [], .val (.int a), .val (.int p), .val (trs rs), .val .non, .no, .no, .no]) (by simp) ?_
    refine evI_fld (c := cBox) (fs := []) (d := .int a) rfl (by simp) ⟨rfl, h.cls, rfl, by decide, by decide⟩ ?_
    refine evI_fld (c := cBox) (fs := [.int a]) (d := .int p) rfl (by simp) ⟨rfl, h.cls, rfl, by decide, by decide⟩ ?_
    refine evI_fld (c := cBox) (fs := [.int a, .int p]) (d := trs (leastS rs)) rfl (by simp [h2]) ⟨noMut_trs, h.cls, rfl, by decide, by decide⟩ ?_
    have hs : ∀ ρ : Env, (ρ[(0 : Nat)]? : Option Sl) = some (.slf cBox [.int a, .int p, trs (leastS rs)]) → evE T (ev T (n + 3)) ρ (.slf "least") = .ok (trs (leastS rs)) := fun ρ e => by
      rw [evE_slf, e]
      simp only [h.cls, if_true]
      rfl
    have hc := comp_map (T := T) (cf := ev T (n + 3)) (ρ := [.slf cBox [.int a, .int p, trs (leastS rs)], .val (.int a), .val (.int p), .val (trs rs), .val .non, .no, .no, .no]) (elt := .idx (.var 6) (.int 1)) (x := 6) (src := .seq (.slf "least")) (e := tr) (g := fun r => .int r.2) (xs := leastS rs)
      (by rw [evSrc_seq, hs _ rfl]; simp) (by simp [anyOwn, lkr, lkb, lks]) hll (fun r _ => by simp)
    refine evI_step (fun _ _ z => by cases z) (ρ' := [.slf cBox [.int a, .int p, trs (leastS rs)], .val (.int a), .val (.int p), .val (trs rs), .val .non, .own (.lst (((leastS rs).map (·.2)).map D.int)), .no, .no]) (by
      have e : (leastS rs).map (fun r => D.int r.2) = ((leastS rs).map (·.2)).map D.int := by rw [List.map_map]; rfl
      rw [e] at hc
      show evS T (ev T (n + 3)) _ [.slf cBox [.int a, .int p, trs (leastS rs)], .val (.int a), .val (.int p), .val (trs rs), .val .non, .no, .no, .no] = _
      rw [evS_asg, hc, asgS_ok, bind_new (by simp [lks, lkb, anyOwn]) (by simp [fresh])]
      rfl) ?_
    have hk := comp_if (T := T) (cf := ev T (n + 3)) (ρ := [.slf cBox [.int a, .int p, trs (leastS rs)], .val (.int a), .val (.int p), .val (trs rs), .val .non, .own (.lst (((leastS rs).map (·.2)).map D.int)), .no, .no]) (elt := .var 7) (c := .cmp .isin (.var 7) (.var 5)) (x := 7) (src := .rng [(.int 1), (.bin .add (.var 1) (.int 1))]) (e := D.int) (p := fun x => decide (x ∈ (leastS rs).map (·.2))) (g := D.int) (xs := (List.range a).map fun (k : Nat) => 1 + (k : Int))
      (by
        have r := range2 (a := 1) (m := a + 1) (by omega) (by omega) (by unfold lineSz; omega)
        rw [show (((a + 1 : Nat) : Int) - 1).toNat = a by omega, show ((a + 1 : Nat) : Int) = (a : Int) + 1 by omega] at r
        simp [r, List.map_map, Function.comp_def]) (by simp [anyOwn, lkr]) (by simp; unfold lineSz; omega)
      (fun x _ => by
        have hin : cmpD .isin (.int x) (.lst (((leastS rs).map (·.2)).map D.int)) = .ok (decide (x ∈ (leastS rs).map (·.2))) := cmp_inIL
        simp only [List.set_cons_succ, List.set_cons_zero, evE_cmp, evE_var, List.getElem?_cons_succ, List.getElem?_cons_zero, ok_bind, hin]) (fun x _ _ => by simp)
    refine evI_fld (c := cBox) (fs := [.int a, .int p, trs (leastS rs)]) (d := ti (kindsOf a rs)) rfl (by
      simp only [evE_bi, evEs_cons, evEs_nil, hk, ok_bind, bi_tupL]; rfl) ⟨noMut_ti, h.cls, rfl, by decide, by decide⟩ ?_
    rfl
  have hev : ev T (n + 4) 87 [.int a, .int p, trs rs] = (match evI T (ev T (n + 3)) fn_Box_init.body (startI cBox fn_Box_init [.int a, .int p, trs rs]) with
      | .ok ρ => (match (ρ[(0 : Nat)]? : Option Sl) with
        | some (.slf c' fs) => if c' = cBox ∧ fs.length = cBox.flds.length then .ok (.ins cBox fs) else .bad
        | _ => .bad)
      | .exc c fs => .exc c fs
      | .bad => .bad) := by
    simp only [ev, h.init]
    rfl
  rw [hev, key]
  simp [boxD]
theorem ev_call (h : HasBox T) {a p : Nat} {rs : KV} (hr : RowsOk p rs) {x : List Int} (hx : x.length = p) : ev T (n + 2) 88 [boxD a p rs, ti x] = .ok (.int (valAt (leastS rs) x)) := by
  have hat : evE T (ev T (n + 1)) [.val (boxD a p rs), .val (ti x), .no] (.att (.var 0) "least") = .ok (trs (leastS rs)) := by
    simp [boxD, h.cls, fD2]
  have hw : ∀ r ∈ leastS rs, r.1.length = p := fun r hr' => by
    obtain ⟨q, hq, rfl⟩ := List.mem_map.mp hr'
    obtain ⟨lw, _⟩ := lowest_lw rs
    obtain ⟨s, h1, rfl⟩ := List.mem_map.mp (List.mem_mergeSort.mp hq)
    exact hr.wide s (lw.mem s h1)
  have hloop := evS_for (T := T) (cf := ev T (n + 1)) (t := .one 2) (src := .seq (.att (.var 0) "least")) (b := [.ifs (.call 65 [(.idx (.var 2) (.int 0)), (.var 1)]) [.ret (.idx (.var 2) (.int 1))] []]) (e := tr) (env := fun s : Sl => [.val (boxD a p rs), .val (ti x), s])
    (step := fun _ r => if below r.1 x then .ret (.int r.2) false else .nx (.val (tr r))) (xs := leastS rs) (s := .no) (fun _ _ => True)
    (by rw [evSrc_seq, hat]; simp) (by simp [srcVar, lkr, lkb, lks, anyOwn]) trivial
    (fun i s r hi _ => by
      have w := hw r (List.mem_of_getElem? hi)
      have hp := hr.pl
      have hb := ev_below (n := n) h.rows.ord (x := r.1) (y := x) (by omega) (by unfold lineSz; omega)
      refine ⟨_, rfl, .inl ?_⟩
      by_cases hz : below r.1 x = true
      · rw [hz] at hb; simp [hb, hz, St.fl, isRoot, isOwn]
      · have hz : below r.1 x = false := by simpa using hz
        rw [hz] at hb; simp [hb, hz, St.fl])
    (fun _ _ _ _ _ _ _ => trivial)
  have hf := loopS_find (step := fun (_ : Sl) (r : List Int × Int) => if below r.1 x then St.ret (.int r.2) false else .nx (Sl.val (tr r))) (p := fun r => below r.1 x) (g := fun r => Sl.val (tr r)) (d := fun r => .int r.2) (fun s r => rfl) (xs := leastS rs) (s := .no)
  refine ev_of (own := false) (ρ := [.val (boxD a p rs), .val (ti x), .no]) h.call rfl (by simp [startE, fn_Box_call]) (by simp only [fn_Box_call]; rfl) rfl ?_
  rw [evSs_cons, hloop]
  unfold valAt
  cases hz : (leastS rs).find? (fun r => below r.1 x) with
  | none =>
    obtain ⟨s', e⟩ := hf.2 hz
    rw [e]
    simp [St.fl, isRoot, isOwn]
  | some r =>
    rw [hf.1 r hz]
    simp [St.fl]
theorem cleans_trs {rs : KV} : cleans 9 (rs.map tr) = true := cleans_map fun r _ => by
  simp only [tr, clean, cleans, Bool.and_eq_true, ti]
  exact ⟨cleans_map fun b _ => rfl, trivial, trivial⟩
theorem enc_trs : Enc trs := ⟨fun rs => by
  simp only [trs, clean]
  exact cleans_trs, fun a b h => by
  simp only [trs, D.tup.injEq] at h
  refine map_inj (fun r s h => ?_) h
  simp only [tr, D.tup.injEq, List.cons.injEq, D.int.injEq, and_true] at h
  exact Prod.ext (map_inj enc_int.inj h.1) h.2⟩
theorem ev_boxeq (h : HasBox T) {a p a' p' : Nat} {rs rs' : KV} : ev T (n + 1) 89 [boxD a p rs, boxD a' p' rs'] = .ok (.bl (decide ((a : Int) = a') && (decide ((p : Int) = p') && decide (leastS rs = leastS rs')))) := by
  have hl : cmpD .eq (trs (leastS rs)) (trs (leastS rs')) = .ok (decide (leastS rs = leastS rs')) := by
    simp only [cmpD]; exact eqD_enc enc_trs _ _
  have hi : evE T (ev T n) [.val (boxD a p rs), .val (boxD a' p' rs')] (.isc (.var 1) cBox) = .ok (.bl true) := by
    simp only [evE, h.cls, if_true, List.getElem?_cons_succ, List.getElem?_cons_zero, boxD, ok_bind]
    simp
  have b0 : evE T (ev T n) [.val (boxD a p rs), .val (boxD a' p' rs')] (.cmp .eq (.att (.var 0) "answers") (.att (.var 1) "answers")) = .ok (.bl (decide ((a : Int) = a'))) := by
    simp [boxD, h.cls, fD0]
  have b1 : evE T (ev T n) [.val (boxD a p rs), .val (boxD a' p' rs')] (.cmp .eq (.att (.var 0) "places") (.att (.var 1) "places")) = .ok (.bl (decide ((p : Int) = p'))) := by
    simp [boxD, h.cls, fD1]
  have b2 : evE T (ev T n) [.val (boxD a p rs), .val (boxD a' p' rs')] (.cmp .eq (.att (.var 0) "least") (.att (.var 1) "least")) = .ok (.bl (decide (leastS rs = leastS rs'))) := by
    simp only [evE_cmp, evE_att, evE_var, List.getElem?_cons_succ, List.getElem?_cons_zero, ok_bind, boxD, h.cls, if_true, fD2, ofO_some, hl]
  refine ev_of (own := false) (ρ := [.val (boxD a p rs), .val (boxD a' p' rs')]) h.eq rfl (by simp [startE, fn_Box_eq]) (by simp only [fn_Box_eq]; rfl) rfl ?_
  have b12 : evE T (ev T n) [.val (boxD a p rs), .val (boxD a' p' rs')] (.and (.cmp .eq (.att (.var 0) "places") (.att (.var 1) "places")) (.cmp .eq (.att (.var 0) "least") (.att (.var 1) "least"))) = .ok (.bl (decide ((p : Int) = p') && decide (leastS rs = leastS rs'))) := by
    rw [evE_and, b1, andE_b b2]
  rw [evSs_cons, evS_ret, evE_and, hi, andE_t, evE_and, b0, andE_b b12, retS_ok, seqS_ret]
  simp [isRoot, isOwn]
end
end Ev

set_option linter.all false
set_option autoImplicit false
set_option maxRecDepth 10000
/-! Plain laws: the value of a box, from its rows. -/
namespace Ev
open PySem
theorem below_iff {x y : List Int} : below x y = true ↔ ∀ i, i < x.length → at0 x i = 0 ∨ at0 x i = at0 y i := by
  simp [below, belowAt, List.all_eq_true]
theorem agrees_iff {x y : List Int} : agrees x y = true ↔ ∀ i, i < x.length → at0 x i = 0 ∨ at0 y i = 0 ∨ at0 x i = at0 y i := by
  simp [agrees, agreeAt, List.all_eq_true]
theorem below_refl (x : List Int) : below x x = true := below_iff.mpr fun _ _ => .inr rfl
theorem below_trans {x y z : List Int} (h : x.length = y.length) (h1 : below x y = true) (h2 : below y z = true) : below x z = true := below_iff.mpr fun i hi => by
  rcases below_iff.mp h1 i hi with e | e
  · exact .inl e
  · rcases below_iff.mp h2 i (by omega) with e2 | e2
    · exact .inl (by omega)
    · exact .inr (by omega)
theorem agrees_symm {x y : List Int} (h : x.length = y.length) : agrees x y = agrees y x := by
  rw [Bool.eq_iff_iff, agrees_iff, agrees_iff]
  constructor
  · intro a i hi
    rcases a i (by omega) with e | e | e
    · exact .inr (.inl e)
    · exact .inl e
    · exact .inr (.inr e.symm)
  · intro a i hi
    rcases a i (by omega) with e | e | e
    · exact .inr (.inl e)
    · exact .inl e
    · exact .inr (.inr e.symm)
theorem agrees_of {x y z : List Int} (h : x.length = y.length) (h1 : below x z = true) (h2 : below y z = true) : agrees x y = true := agrees_iff.mpr fun i hi => by
  rcases below_iff.mp h1 i hi with e | e
  · exact .inl e
  · rcases below_iff.mp h2 i (by omega) with e2 | e2
    · exact .inr (.inl e2)
    · exact .inr (.inr (by omega))
theorem at0_ext {x y : List Int} (h : x.length = y.length) (e : ∀ i, i < x.length → at0 x i = at0 y i) : x = y := by
  refine List.ext_getElem h fun i h1 h2 => ?_
  have := e i h1
  unfold at0 at this
  rw [List.getElem?_eq_getElem h1, List.getElem?_eq_getElem h2] at this
  exact this
theorem countP_lt {α : Type} {p q : α → Bool} : ∀ {l : List α}, (∀ x ∈ l, p x = true → q x = true) → (∃ a ∈ l, q a = true ∧ p a = false) → l.countP p < l.countP q
  | [], _, h => by simp at h
  | a :: l, h, hx => by
    have hm := List.countP_mono_left (l := l) (p := p) (q := q) fun x hx => h x (List.mem_cons_of_mem _ hx)
    rw [List.countP_cons, List.countP_cons]
    obtain ⟨b, hb, h1, h2⟩ := hx
    rcases List.mem_cons.mp hb with rfl | hb
    · simp [h1, h2]; omega
    · have := countP_lt (l := l) (fun x hx => h x (List.mem_cons_of_mem _ hx)) ⟨b, hb, h1, h2⟩
      have ha := h a List.mem_cons_self
      cases hp : p a
      · simp; omega
      · simp [ha hp]; omega
def nzs (x : List Int) : Nat := (List.range x.length).countP fun i => !decide (at0 x i = 0)
theorem nzs_lt {x y : List Int} (h : x.length = y.length) (hb : below x y = true) (hn : x ≠ y) : nzs x < nzs y := by
  unfold nzs
  rw [← h]
  have hb := below_iff.mp hb
  refine countP_lt (fun i hi hp => ?_) ?_
  · simp at hp hi ⊢
    rcases hb i hi with e | e
    · exact absurd e hp
    · rw [← e]; exact hp
  · by_cases hz : ∃ i, i < x.length ∧ at0 x i ≠ at0 y i
    · obtain ⟨i, hi, hne⟩ := hz
      refine ⟨i, List.mem_range.mpr hi, ?_⟩
      rcases hb i hi with e | e
      · simp; omega
      · exact absurd e hne
    · exact absurd (at0_ext h fun i hi => Classical.byContradiction fun z => hz ⟨i, hi, z⟩) hn
theorem mem_leastS {rs : KV} {s : List Int × Int} : s ∈ leastS rs ↔ s.1 ∈ keys (lowest rs) ∧ s.2 = valOf (lowest rs) s.1 := by
  unfold leastS
  rw [List.mem_map]
  constructor
  · rintro ⟨q, hq, rfl⟩
    exact ⟨List.mem_mergeSort.mp hq, rfl⟩
  · rintro ⟨h1, h2⟩
    exact ⟨s.1, List.mem_mergeSort.mpr h1, by rw [← h2]⟩
theorem valOf_mem {s : KV} {q : List Int} (h : q ∈ keys s) : (q, valOf s q) ∈ s := by
  have hf := find_key (R := s) (q := q)
  rw [decide_eq_true h] at hf
  obtain ⟨r, hr⟩ := Option.isSome_iff_exists.mp hf
  have h1 := List.mem_of_find?_eq_some hr
  have h2 := List.find?_some hr
  simp at h2
  unfold valOf
  rw [hr]
  subst h2
  exact h1
theorem leastS_sub {rs : KV} {s : List Int × Int} (h : s ∈ leastS rs) : s ∈ rs := by
  obtain ⟨h1, h2⟩ := mem_leastS.mp h
  have := (lowest_lw rs).1.mem _ (valOf_mem h1)
  rw [← h2] at this
  exact this
theorem lowest_mem {rs : KV} {r : List Int × Int} (hr : r ∈ rs) (hl : hasLow rs r.1 = false) : r.1 ∈ keys (lowest rs) := by
  have : ∀ (xs s : KV), (r.1 ∈ keys s ∨ r ∈ xs) → r.1 ∈ keys (xs.foldl (addL rs) s) := by
    intro xs
    induction xs with
    | nil => exact fun s h => h.elim id fun z => absurd z (by simp)
    | cons a xs ih =>
      intro s h
      rw [List.foldl_cons]
      refine ih _ ?_
      rcases h with h | h
      · left
        unfold addL
        split
        · exact h
        · simp only [keys, List.map_append]; exact List.mem_append_left _ h
      · rcases List.mem_cons.mp h with rfl | h
        · left
          unfold addL
          split
          · rename_i z
            exact z.elim id fun z => by rw [hl] at z; cases z
          · simp [keys]
        · exact .inr h
  exact this rs [] (.inr hr)
theorem low_ex {p : Nat} {rs : KV} (hw : ∀ r ∈ rs, r.1.length = p) : ∀ (n : Nat) (r : List Int × Int), r ∈ rs → nzs r.1 ≤ n → ∃ s ∈ leastS rs, below s.1 r.1 = true := by
  intro n
  induction n with
  | zero =>
    intro r hr hn
    cases hl : hasLow rs r.1 with
    | false => exact ⟨(r.1, valOf (lowest rs) r.1), mem_leastS.mpr ⟨lowest_mem (r := r) hr hl, rfl⟩, below_refl _⟩
    | true =>
      obtain ⟨q, hq, h1⟩ := List.any_eq_true.mp hl
      simp [lowAt] at h1
      have := nzs_lt (by rw [hw q hq, hw r hr]) h1.2 h1.1
      omega
  | succ n ih =>
    intro r hr hn
    cases hl : hasLow rs r.1 with
    | false => exact ⟨(r.1, valOf (lowest rs) r.1), mem_leastS.mpr ⟨lowest_mem (r := r) hr hl, rfl⟩, below_refl _⟩
    | true =>
      obtain ⟨q, hq, h1⟩ := List.any_eq_true.mp hl
      simp [lowAt] at h1
      have := nzs_lt (by rw [hw q hq, hw r hr]) h1.2 h1.1
      obtain ⟨s, hs, h2⟩ := ih q hq (by omega)
      exact ⟨s, hs, below_trans (by rw [hw s (leastS_sub hs), hw q hq]) h2 h1.2⟩
theorem NoClash.all {p : Nat} {rs : KV} (hw : ∀ r ∈ rs, r.1.length = p) (h : NoClash rs) {r s : List Int × Int} (hr : r ∈ rs) (hs : s ∈ rs) (hn : r.2 ≠ s.2) : agrees r.1 s.1 = false := by
  obtain ⟨i, hi, e1⟩ := List.getElem_of_mem hr
  obtain ⟨j, hj, e2⟩ := List.getElem_of_mem hs
  have g1 : rs[i]? = some r := by rw [List.getElem?_eq_getElem hi, e1]
  have g2 : rs[j]? = some s := by rw [List.getElem?_eq_getElem hj, e2]
  rcases Nat.lt_trichotomy i j with l | l | l
  · exact h i j r s l g1 g2 hn
  · subst l; rw [g1] at g2; cases g2; exact absurd rfl hn
  · rw [agrees_symm (by rw [hw r hr, hw s hs])]
    exact h j i s r l g2 g1 (Ne.symm hn)
theorem NoClash.of {rs : KV} (h : ∀ r ∈ rs, ∀ s ∈ rs, r.2 ≠ s.2 → agrees r.1 s.1 = false) : NoClash rs := fun i j r s _ h1 h2 hn => h r (List.mem_of_getElem? h1) s (List.mem_of_getElem? h2) hn
theorem valAt_least {p : Nat} {rs : KV} (hw : ∀ r ∈ rs, r.1.length = p) (hn : NoClash rs) (x : List Int) : valAt (leastS rs) x = valAt rs x := by
  have key : ∀ s ∈ leastS rs, below s.1 x = true → valAt (leastS rs) x = s.2 := fun s hs hb => by
    unfold valAt
    cases hf : (leastS rs).find? (fun r => below r.1 x) with
    | none => exact absurd hb (by have := List.find?_eq_none.mp hf s hs; simpa using this)
    | some t =>
      have ht := List.mem_of_find?_eq_some hf
      have hb2 := List.find?_some hf
      simp only
      refine Classical.byContradiction fun z => ?_
      have := hn.all hw (leastS_sub ht) (leastS_sub hs) z
      rw [agrees_of (by rw [hw t (leastS_sub ht), hw s (leastS_sub hs)]) hb2 hb] at this
      cases this
  cases hf : rs.find? (fun r => below r.1 x) with
  | none =>
    have e : valAt rs x = 0 := by unfold valAt; rw [hf]
    rw [e]
    unfold valAt
    cases hg : (leastS rs).find? (fun r => below r.1 x) with
    | none => rfl
    | some t =>
      have ht := leastS_sub (List.mem_of_find?_eq_some hg)
      have hb2 := List.find?_some hg
      exact absurd hb2 (by have := List.find?_eq_none.mp hf t ht; simpa using this)
  | some t =>
    have e : valAt rs x = t.2 := by unfold valAt; rw [hf]
    rw [e]
    have ht := List.mem_of_find?_eq_some hf
    have hb := List.find?_some hf
    obtain ⟨s, hs, h1⟩ := low_ex hw _ t ht (Nat.le_refl _)
    have hb2 : below s.1 x = true := below_trans (by rw [hw s (leastS_sub hs), hw t ht]) h1 hb
    rw [key s hs hb2]
    refine Classical.byContradiction fun z => ?_
    have := hn.all hw (leastS_sub hs) ht z
    rw [agrees_of (by rw [hw t ht, hw s (leastS_sub hs)]) hb2 hb] at this
    cases this
end Ev

set_option linter.all false
set_option autoImplicit false
set_option maxRecDepth 10000
/-! Plain laws: with_value, the known boxes. -/
namespace Ev
open PySem
theorem at0_set {x : List Int} {i j : Nat} {v : Int} (h : i < x.length) : at0 (x.set i v) j = if i = j then v else at0 x j := by
  unfold at0
  rw [List.getElem?_set]
  split
  · rename_i e; subst e; simp [h]
  · rfl
theorem at0_rep {p i : Nat} {v : Int} (h : i < p) : at0 (List.replicate p v) i = v := by
  unfold at0
  rw [List.getElem?_replicate]; simp [h]
theorem slc_to {x : List Int} {i : Nat} (h : i ≤ x.length) : slcD (ti x) none (some (i : Int)) = .ok (ti (x.take i)) := by
  have h1 : HT.sIx x.length 0 none = 0 := rfl
  have h2 : HT.sIx x.length x.length (some (i : Int)) = i := by rw [HT.sIx_nat]; omega
  simp only [slcD, cut, List.length_map, h1, h2, List.drop_zero, Nat.sub_zero]
  rw [← List.map_take]
theorem slc_fro {x : List Int} {i : Nat} (h : i ≤ x.length) : slcD (ti x) (some (i : Int)) none = .ok (ti (x.drop i)) := by
  have h1 : HT.sIx x.length 0 (some (i : Int)) = i := by rw [HT.sIx_nat]; omega
  have h2 : HT.sIx x.length x.length none = x.length := rfl
  simp only [slcD, cut, List.length_map, h1, h2]
  rw [← List.map_drop, ← List.map_take, List.take_of_length_le (by rw [List.length_drop]; omega)]
theorem mul_t1 {v : Int} {p : Nat} (h : p ≤ 1000) : binD .mul (.tup [.int v]) (.int p) = .ok (ti (List.replicate p v)) := by
  have h1 : (0 : Int) ≤ p ∧ (p : Int) ≤ 1000 ∧ [D.int v].length ≤ 1000 ∧ [D.int v] ≠ [] := ⟨by omega, by omega, by simp, by simp⟩
  simp only [binD, if_pos h1, Int.toNat_natCast]
  have : ∀ p : Nat, (List.replicate p [D.int v]).flatten = (List.replicate p v).map D.int := by
    intro p
    induction p with
    | zero => rfl
    | succ p ih => rw [List.replicate_succ, List.flatten_cons, ih]; rfl
  rw [this]
structure HasKnown (T : Tab) : Prop where
  box : HasBox T
  wv : T.fn 68 = some fn_with_value
section
variable {T : Tab} {n : Nat}
theorem ev_with (h : T.fn 68 = some fn_with_value) {x : List Int} {i : Nat} {v : Int} (hi : i < x.length) (hl : x.length ≤ 1000) : ev T (n + 1) 68 [ti x, .int i, .int v] = .ok (ti (x.set i v)) := by
  have s1 := slc_to (x := x) (i := i) (by omega)
  have s2 := slc_fro (x := x) (i := i + 1) (by omega)
  rw [show ((i + 1 : Nat) : Int) = (i : Int) + 1 by omega] at s2
  have a1 : binD .add (ti (x.take i)) (ti [v]) = .ok (ti (x.take i ++ [v])) := by
    rw [bin_addT (by simp; unfold lineSz; omega), ← List.map_append]
  have a2 : binD .add (ti (x.take i ++ [v])) (ti (x.drop (i + 1))) = .ok (ti (x.set i v)) := by
    rw [bin_addT (by simp; unfold lineSz; omega), ← List.map_append]
    congr 3
    rw [List.set_eq_take_append_cons_drop, if_pos hi, List.append_assoc]
    rfl
  have a1' : binD .add (ti (x.take i)) (.tup [.int v]) = .ok (ti (x.take i ++ [v])) := a1
  rw [ev_eq h rfl]
  simp only [fn_with_value, startE, List.map_cons, List.map_nil, Nat.sub_self, List.replicate_zero, List.append_nil, evSs_cons, evS_ret, evE_bin, evE_slc, evE_var, evE_tup, evEs_cons, evEs_nil, evE_int, evO_none, evO_some, List.getElem?_cons_zero, List.getElem?_cons_succ, ok_bind, bin_add, s1, s2, a1', a2, retS_ok, seqS_ret]
  simp [isRoot, isOwn]
end
/-! ### the rows of the known boxes -/
def rPlace (a p i : Nat) : KV := (List.range a).map fun (k : Nat) => ((List.replicate p 0).set i (1 + (k : Int)), 1 + (k : Int))
def rCase (a : Nat) : KV := (List.range a).flatMap fun (c : Nat) => (List.range a).map fun (k : Nat) => (((List.replicate (a + 1) 0).set 0 (1 + (c : Int))).set (1 + c) (1 + (k : Int)), 1 + (k : Int))
def rEither : KV := [([0, 1], 1), ([1, 0], 1)]
def rRound (c : Nat) : KV := (List.range c).map fun (k : Nat) => (((List.replicate c 2).set ((k + c - 1) % c) 1).set k 0, 1)
def rVote (c : Nat) : KV := ((List.range c).map fun (k : Nat) => ((List.replicate c 1).set k 0, 1)) ++ [(List.replicate c 2, 2)]
def rConst (p : Nat) (v : Int) : KV := [(List.replicate p 0, v)]
/-- rows without a clash, by looking -/
def okRows (p : Nat) (rs : KV) : Bool := decide (rs.length ≤ 10000) && decide (p ≤ 1000) && rs.all (fun r => decide (r.1.length = p)) && rs.all fun r => rs.all fun s => decide (r.2 = s.2) || !agrees r.1 s.1
theorem okRows_to {p : Nat} {rs : KV} (h : okRows p rs = true) : RowsOk p rs ∧ NoClash rs := by
  simp only [okRows, Bool.and_eq_true, decide_eq_true_iff, List.all_eq_true, Bool.or_eq_true, Bool.not_eq_true'] at h
  exact ⟨⟨h.1.1.1, h.1.2, h.1.1.2⟩, .of fun r hr s hs hn => (h.2 r hr s hs).elim (fun z => absurd z hn) id⟩
end Ev

set_option linter.all false
set_option autoImplicit false
set_option maxRecDepth 10000
/-! Plain laws: the known boxes, walked. -/
namespace Ev
open PySem
def fn_silent_box : Fn := { np := 2, nl := 2, fr := false, body := [.ret (.new 87 [(.var 0), (.var 1), (.tup [])])] }
def fn_constant_box : Fn := { np := 3, nl := 3, fr := false, body := [.ret (.new 87 [(.var 0), (.var 1), (.tup [(.tup [(.bin .mul (.tup [(.int 0)]) (.var 1)), (.var 2)])])])] }
def fn_place_box : Fn := { np := 3, nl := 5, fr := false, body := [.asg 3 (.bin .mul (.tup [(.int 0)]) (.var 1)), .ret (.new 87 [(.var 0), (.var 1), (.bi .tuple [(.comp (.tup [(.call 68 [(.var 3), (.var 2), (.var 4)]), (.var 4)]) 4 (.rng [(.int 1), (.bin .add (.var 0) (.int 1))]) none)])])] }
def fn_case_box : Fn := { np := 1, nl := 6, fr := false, body := [.asg 1 (.bin .mul (.tup [(.int 0)]) (.bin .add (.var 0) (.int 1))), .asg 2 (.lst []), .fors (.one 3) (.rng [(.int 1), (.bin .add (.var 0) (.int 1))]) [.asg 4 (.call 68 [(.var 1), (.int 0), (.var 3)]), .fors (.one 5) (.rng [(.int 1), (.bin .add (.var 0) (.int 1))]) [.app 2 (.tup [(.call 68 [(.var 4), (.var 3), (.var 5)]), (.var 5)])]], .ret (.new 87 [(.var 0), (.bin .add (.var 0) (.int 1)), (.bi .tuple [(.var 2)])])] }
def fn_either_box : Fn := { np := 1, nl := 1, fr := false, body := [.ret (.new 87 [(.var 0), (.int 2), (.tup [(.tup [(.tup [(.int 0), (.int 1)]), (.int 1)]), (.tup [(.tup [(.int 1), (.int 0)]), (.int 1)])])])] }
def fn_round_column : Fn := { np := 2, nl := 3, fr := false, body := [.asg 2 (.call 68 [(.bin .mul (.tup [(.int 2)]) (.var 0)), (.bin .mod (.bin .sub (.var 1) (.int 1)) (.var 0)), (.int 1)]), .ret (.call 68 [(.var 2), (.var 1), (.int 0)])] }
def fn_round_box : Fn := { np := 2, nl := 3, fr := false, body := [.ret (.new 87 [(.var 0), (.var 1), (.bi .tuple [(.comp (.tup [(.call 77 [(.var 1), (.var 2)]), (.int 1)]) 2 (.rng [(.var 1)]) none)])])] }
def fn_vote_column : Fn := { np := 2, nl := 2, fr := false, body := [.ret (.call 68 [(.bin .mul (.tup [(.int 1)]) (.var 0)), (.var 1), (.int 0)])] }
def fn_vote_box : Fn := { np := 2, nl := 4, fr := false, body := [.asg 2 (.comp (.tup [(.call 79 [(.var 1), (.var 3)]), (.int 1)]) 3 (.rng [(.var 1)]) none), .app 2 (.tup [(.bin .mul (.tup [(.int 2)]) (.var 1)), (.int 2)]), .ret (.new 87 [(.var 0), (.var 1), (.bi .tuple [(.var 2)])])] }
def fn_bothways_box : Fn := { np := 1, nl := 1, fr := false, body := [.ret (.call 80 [(.var 0), (.int 2)])] }
theorem noMut_trs0 {rs : KV} : noMut (trs rs) = true := noMut_trs
theorem range2s {a : Nat} (h : a ≤ 1000) : rangeD [.int 1, .int ((a : Int) + 1)] = some ((List.range a).map fun (k : Nat) => D.int (1 + (k : Int))) := by
  have r := range2 (a := 1) (m := a + 1) (by omega) (by omega) (by unfold lineSz; omega)
  rw [show (((a + 1 : Nat) : Int) - 1).toNat = a by omega, show ((a + 1 : Nat) : Int) = (a : Int) + 1 by omega] at r
  exact r
theorem range1s {a : Nat} (h : a ≤ 1000) : rangeD [.int (a : Int)] = some ((List.range a).map fun (k : Nat) => D.int (k : Int)) := range1 (by unfold lineSz; omega)
section
variable {T : Tab} {n : Nat}
theorem ret_box {cf : Nat → List D → R D} {ρ : Env} {e : E} {a p : Nat} {rs : KV} (he : evE T cf ρ e = .ok (boxD a p rs)) (h1 : ∀ i, e ≠ .var i) : evS T cf (.ret e) ρ = .ok (.ret (boxD a p rs) false) := by
  rw [evS_ret, he, retS_ok]
  have h2 : isOwn e ρ = false := by
    cases e <;> first | rfl | exact absurd rfl (h1 _)
  have : isRoot (boxD a p rs) = false := rfl
  rw [this, h2, Bool.and_false, Bool.or_false]
theorem ev_silent (h : HasKnown T) (hf : T.fn 72 = some fn_silent_box) {a p : Nat} (ha : a ≤ 1000) (hp : p ≤ 1000) : ev T (n + 5) 72 [.int a, .int p] = .ok (boxD a p []) := by
  have hb := ev_box (n := n) h.box ha (p := p) (rs := []) ⟨by decide, by simp, hp⟩ (fun i j r s _ z => by simp at z)
  have hb' : ev T (n + 4) 87 [.int a, .int p, .tup []] = .ok (boxD a p []) := hb
  refine ev_of (own := false) (ρ := [.val (.int a), .val (.int p)]) hf rfl (by simp [startE, fn_silent_box]) (by simp only [fn_silent_box]; rfl) rfl ?_
  rw [evSs_cons, ret_box (a := a) (p := p) (rs := []) (by simp [hb']) (fun _ z => by cases z), seqS_ret]
theorem ev_constant (h : HasKnown T) (hf : T.fn 73 = some fn_constant_box) {a p : Nat} {v : Int} (ha : a ≤ 1000) (hp : p ≤ 1000) : ev T (n + 5) 73 [.int a, .int p, .int v] = .ok (boxD a p (rConst p v)) := by
  have hb := ev_box (n := n) h.box ha (p := p) (rs := rConst p v) ⟨by simp [rConst], by simp [rConst], hp⟩ (.of fun r hr s hs hn => by
    simp only [rConst, List.mem_singleton] at hr hs
    rw [hr, hs] at hn; exact absurd rfl hn)
  have hb' : ev T (n + 4) 87 [.int a, .int p, .tup [.tup [ti (List.replicate p 0), .int v]]] = .ok (boxD a p (rConst p v)) := hb
  refine ev_of (own := false) (ρ := [.val (.int a), .val (.int p), .val (.int v)]) hf rfl (by simp [startE, fn_constant_box]) (by simp only [fn_constant_box]; rfl) rfl ?_
  rw [evSs_cons, ret_box (a := a) (p := p) (rs := rConst p v) (by
    simp only [evE_new, evEs_cons, evEs_nil, evE_var, evE_tup, evE_bin, evE_int, List.getElem?_cons_zero, List.getElem?_cons_succ, ok_bind, mul_t1 hp, hb']) (fun _ z => by cases z), seqS_ret]
theorem ev_either (h : HasKnown T) (hf : T.fn 76 = some fn_either_box) {a : Nat} (ha : a ≤ 1000) : ev T (n + 5) 76 [.int a] = .ok (boxD a 2 rEither) := by
  obtain ⟨h1, h2⟩ := okRows_to (p := 2) (rs := rEither) (by decide)
  have hb' : ev T (n + 4) 87 [.int a, .int 2, .tup [.tup [.tup [.int 0, .int 1], .int 1], .tup [.tup [.int 1, .int 0], .int 1]]] = .ok (boxD a 2 rEither) := ev_box (n := n) h.box ha h1 h2
  refine ev_of (own := false) (ρ := [.val (.int a)]) hf rfl (by simp [startE, fn_either_box]) (by simp only [fn_either_box]; rfl) rfl ?_
  rw [evSs_cons, ret_box (a := a) (p := 2) (rs := rEither) (by
    simp only [evE_new, evEs_cons, evEs_nil, evE_var, evE_tup, evE_bin, evE_int, List.getElem?_cons_zero, List.getElem?_cons_succ, ok_bind, hb']) (fun _ z => by cases z), seqS_ret]
theorem place_ok {a p i : Nat} (ha : a ≤ 1000) (hp : p ≤ 1000) (hi : i < p) : RowsOk p (rPlace a p i) ∧ NoClash (rPlace a p i) := by
  refine ⟨⟨by simp [rPlace]; omega, fun r hr => ?_, hp⟩, .of fun r hr s hs hn => ?_⟩
  · obtain ⟨k, _, rfl⟩ := List.mem_map.mp hr
    simp
  · obtain ⟨k, _, rfl⟩ := List.mem_map.mp hr
    obtain ⟨l, _, rfl⟩ := List.mem_map.mp hs
    simp only at hn ⊢
    cases hz : agrees ((List.replicate p 0).set i (1 + (k : Int))) ((List.replicate p 0).set i (1 + (l : Int))) with
    | false => rfl
    | true =>
      have := agrees_iff.mp hz i (by simp; omega)
      rw [at0_set (by simp; omega), at0_set (by simp; omega)] at this
      simp at this
      omega
theorem ev_place (h : HasKnown T) (hf : T.fn 74 = some fn_place_box) {a p i : Nat} (ha : a ≤ 1000) (hp : p ≤ 1000) (hi : i < p) : ev T (n + 5) 74 [.int a, .int p, .int i] = .ok (boxD a p (rPlace a p i)) := by
  obtain ⟨h1, h2⟩ := place_ok (a := a) ha hp hi
  have hb := ev_box (n := n) h.box ha h1 h2
  refine ev_of (own := false) (ρ := [.val (.int a), .val (.int p), .val (.int i), .no, .no]) hf rfl (by simp [startE, fn_place_box]) (by simp only [fn_place_box]; rfl) rfl ?_
  refine step (ρ' := [.val (.int a), .val (.int p), .val (.int i), .val (ti (List.replicate p 0)), .no]) (by
    simp only [evS_asg, evE_bin, evE_tup, evEs_cons, evEs_nil, evE_int, evE_var, List.getElem?_cons_zero, List.getElem?_cons_succ, ok_bind, mul_t1 hp, asgS_ok, bind_ti]
    rfl) ?_
  have hc := comp_map (T := T) (cf := ev T (n + 4)) (ρ := [.val (.int a), .val (.int p), .val (.int i), .val (ti (List.replicate p 0)), .no]) (elt := .tup [(.call 68 [(.var 3), (.var 2), (.var 4)]), (.var 4)]) (x := 4) (src := .rng [(.int 1), (.bin .add (.var 0) (.int 1))]) (e := fun k : Nat => .int (1 + (k : Int))) (g := fun k => tr ((List.replicate p 0).set i (1 + (k : Int)), 1 + (k : Int))) (xs := List.range a)
    (by simp [range2s ha]) (by simp [anyOwn, lkr, lkb, lks]) (by rw [List.length_range]; unfold lineSz; omega)
    (fun k _ => by
      have hw := ev_with (n := n + 3) h.wv (x := List.replicate p 0) (i := i) (v := 1 + (k : Int)) (by simp; omega) (by simp; omega)
      simp only [evE_tup, evEs_cons, evEs_nil, evE_call, evE_var, List.set_cons_succ, List.set_cons_zero, List.getElem?_cons_zero, List.getElem?_cons_succ, ok_bind, hw])
  have e0 : (List.range a).map (fun k : Nat => tr ((List.replicate p 0).set i (1 + (k : Int)), 1 + (k : Int))) = (rPlace a p i).map tr := by unfold rPlace; rw [List.map_map]; rfl
  rw [e0] at hc
  rw [evSs_cons, ret_box (a := a) (p := p) (rs := rPlace a p i) (by
    simp only [evE_new, evEs_cons, evEs_nil, evE_var, evE_bi, List.getElem?_cons_zero, List.getElem?_cons_succ, ok_bind, hc, bi_tupL, hb]) (fun _ z => by cases z), seqS_ret]
theorem ev_rcol (hw : T.fn 68 = some fn_with_value) (hf : T.fn 77 = some fn_round_column) {c k : Nat} (hc : c ≤ 1000) (hk : k < c) : ev T (n + 2) 77 [.int c, .int k] = .ok (ti (((List.replicate c 2).set ((k + c - 1) % c) 1).set k 0)) := by
  have hm : ((k : Int) - 1) % c = (((k + c - 1) % c : Nat) : Int) := by
    rw [Int.natCast_emod, show ((k + c - 1 : Nat) : Int) = (k : Int) - 1 + c by omega, Int.add_emod_right]
  have hlt : (k + c - 1) % c < c := Nat.mod_lt _ (by omega)
  generalize hj : (k + c - 1) % c = j at *
  have w1 := ev_with (n := n) hw (x := List.replicate c 2) (i := j) (v := 1) (by simpa using hlt) (by simpa using hc)
  have w2 := ev_with (n := n) hw (x := (List.replicate c 2).set j 1) (i := k) (v := 0) (by simpa using hk) (by simpa using hc)
  refine ev_of (own := false) (ρ := [.val (.int c), .val (.int k), .no]) hf rfl (by simp [startE, fn_round_column]) (by simp only [fn_round_column]; rfl) rfl ?_
  refine step (ρ' := [.val (.int c), .val (.int k), .val (ti ((List.replicate c 2).set j 1))]) (by
    simp only [evS_asg, evE_call, evE_bin, evE_tup, evEs_cons, evEs_nil, evE_int, evE_var, List.getElem?_cons_zero, List.getElem?_cons_succ, ok_bind, bin_sub, mul_t1 hc, bin_mod (show (0 : Int) < c by omega), hm, w1, asgS_ok, bind_ti]
    rfl) ?_
  simp only [evSs_cons, evS_ret, evE_call, evE_int, evE_var, evEs_cons, evEs_nil, List.getElem?_cons_zero, List.getElem?_cons_succ, ok_bind, w2, retS_ok, seqS_ret]
  simp [isRoot, isOwn]
theorem round_ok {c : Nat} (hc : c ≤ 1000) : RowsOk c (rRound c) ∧ NoClash (rRound c) := by
  refine ⟨⟨by simp [rRound]; omega, fun r hr => ?_, hc⟩, .of fun r hr s hs hn => ?_⟩
  · obtain ⟨k, _, rfl⟩ := List.mem_map.mp hr
    simp
  · obtain ⟨k, _, rfl⟩ := List.mem_map.mp hr
    obtain ⟨l, _, rfl⟩ := List.mem_map.mp hs
    exact absurd rfl hn
theorem ev_round (h : HasKnown T) (hf : T.fn 78 = some fn_round_box) (hg : T.fn 77 = some fn_round_column) {a c : Nat} (ha : a ≤ 1000) (hc : c ≤ 1000) : ev T (n + 5) 78 [.int a, .int c] = .ok (boxD a c (rRound c)) := by
  obtain ⟨h1, h2⟩ := round_ok hc
  have hb := ev_box (n := n) h.box ha h1 h2
  refine ev_of (own := false) (ρ := [.val (.int a), .val (.int c), .no]) hf rfl (by simp [startE, fn_round_box]) (by simp only [fn_round_box]; rfl) rfl ?_
  have hcm := comp_map (T := T) (cf := ev T (n + 4)) (ρ := [.val (.int a), .val (.int c), .no]) (elt := .tup [(.call 77 [(.var 1), (.var 2)]), (.int 1)]) (x := 2) (src := .rng [(.var 1)]) (e := fun k : Nat => .int (k : Int)) (g := fun k => tr (((List.replicate c 2).set ((k + c - 1) % c) 1).set k 0, 1)) (xs := List.range c)
    (by simp [range1s hc]) (by simp [anyOwn, lkr, lkb, lks]) (by rw [List.length_range]; unfold lineSz; omega)
    (fun k hk => by
      have hw := ev_rcol (n := n + 2) h.wv hg hc (List.mem_range.mp hk)
      simp only [evE_tup, evEs_cons, evEs_nil, evE_call, evE_var, evE_int, List.set_cons_succ, List.set_cons_zero, List.getElem?_cons_zero, List.getElem?_cons_succ, ok_bind, hw])
  have e0 : (List.range c).map (fun k : Nat => tr (((List.replicate c 2).set ((k + c - 1) % c) 1).set k 0, 1)) = (rRound c).map tr := by unfold rRound; rw [List.map_map]; rfl
  rw [e0] at hcm
  rw [evSs_cons, ret_box (a := a) (p := c) (rs := rRound c) (by
    simp only [evE_new, evEs_cons, evEs_nil, evE_var, evE_bi, List.getElem?_cons_zero, List.getElem?_cons_succ, ok_bind, hcm, bi_tupL, hb]) (fun _ z => by cases z), seqS_ret]
theorem ev_vcol (hw : T.fn 68 = some fn_with_value) (hf : T.fn 79 = some fn_vote_column) {c k : Nat} (hc : c ≤ 1000) (hk : k < c) : ev T (n + 2) 79 [.int c, .int k] = .ok (ti ((List.replicate c 1).set k 0)) := by
  have w1 := ev_with (n := n) hw (x := List.replicate c 1) (i := k) (v := 0) (by simpa using hk) (by simpa using hc)
  refine ev_of (own := false) (ρ := [.val (.int c), .val (.int k)]) hf rfl (by simp [startE, fn_vote_column]) (by simp only [fn_vote_column]; rfl) rfl ?_
  simp only [evSs_cons, evS_ret, evE_call, evE_bin, evE_tup, evEs_cons, evEs_nil, evE_int, evE_var, List.getElem?_cons_zero, List.getElem?_cons_succ, ok_bind, mul_t1 hc, w1, retS_ok, seqS_ret]
  simp [isRoot, isOwn]
theorem vote_ok {c : Nat} (h2 : 2 ≤ c) (hc : c ≤ 1000) : RowsOk c (rVote c) ∧ NoClash (rVote c) := by
  have hcl : ∀ k, k < c → agrees ((List.replicate c (1 : Int)).set k 0) (List.replicate c 2) = false := fun k hk => by
    cases hz : agrees ((List.replicate c (1 : Int)).set k 0) (List.replicate c 2) with
    | false => rfl
    | true =>
      obtain ⟨j, hj, hjk⟩ : ∃ j, j < c ∧ k ≠ j := by
        by_cases h0 : k = 0
        · exact ⟨1, by omega, by omega⟩
        · exact ⟨0, by omega, h0⟩
      have := agrees_iff.mp hz j (by simpa using hj)
      rw [at0_set (by simpa using hk), if_neg hjk, at0_rep hj, at0_rep hj] at this
      omega
  have hw : ∀ r ∈ rVote c, (∃ k, k < c ∧ r = ((List.replicate c 1).set k 0, 1)) ∨ r = (List.replicate c 2, 2) := fun r hr => by
    rcases List.mem_append.mp hr with hr | hr
    · obtain ⟨k, hk, rfl⟩ := List.mem_map.mp hr
      exact .inl ⟨k, List.mem_range.mp hk, rfl⟩
    · exact .inr (List.mem_singleton.mp hr)
  refine ⟨⟨by simp [rVote]; omega, fun r hr => ?_, hc⟩, .of fun r hr s hs hn => ?_⟩
  · rcases hw r hr with ⟨k, hk, rfl⟩ | rfl <;> simp
  · rcases hw r hr with ⟨k, hk, rfl⟩ | rfl <;> rcases hw s hs with ⟨l, hl, rfl⟩ | rfl
    · exact absurd rfl hn
    · exact hcl k hk
    · rw [agrees_symm (by simp)]; exact hcl l hl
    · exact absurd rfl hn
theorem ev_vote (h : HasKnown T) (hf : T.fn 80 = some fn_vote_box) (hg : T.fn 79 = some fn_vote_column) {a c : Nat} (ha : a ≤ 1000) (h2 : 2 ≤ c) (hc : c ≤ 1000) : ev T (n + 5) 80 [.int a, .int c] = .ok (boxD a c (rVote c)) := by
  obtain ⟨h1, h2⟩ := vote_ok h2 hc
  have hb := ev_box (n := n) h.box ha h1 h2
  refine ev_of (own := false) (ρ := [.val (.int a), .val (.int c), .no, .no]) hf rfl (by simp [startE, fn_vote_box]) (by simp only [fn_vote_box]; rfl) rfl ?_
  have hcm := comp_map (T := T) (cf := ev T (n + 4)) (ρ := [.val (.int a), .val (.int c), .no, .no]) (elt := .tup [(.call 79 [(.var 1), (.var 3)]), (.int 1)]) (x := 3) (src := .rng [(.var 1)]) (e := fun k : Nat => .int (k : Int)) (g := fun k => tr ((List.replicate c 1).set k 0, 1)) (xs := List.range c)
    (by simp [range1s hc]) (by simp [anyOwn, lkr, lkb, lks]) (by rw [List.length_range]; unfold lineSz; omega)
    (fun k hk => by
      have hw := ev_vcol (n := n + 2) h.wv hg hc (List.mem_range.mp hk)
      simp only [evE_tup, evEs_cons, evEs_nil, evE_call, evE_var, evE_int, List.set_cons_succ, List.set_cons_zero, List.getElem?_cons_zero, List.getElem?_cons_succ, ok_bind, hw])
  refine step (ρ' := [.val (.int a), .val (.int c), .own (.lst ((List.range c).map fun k => tr ((List.replicate c 1).set k 0, 1))), .no]) (by
    rw [evS_asg, hcm, asgS_ok, bind_new (by simp [lks, lksL, lkb, lkbL, anyOwn]) (by simp [fresh])]
    rfl) ?_
  refine step (ρ' := [.val (.int a), .val (.int c), .own (.lst ((rVote c).map tr)), .no]) (by
    simp only [evS_app, evE_bin, evE_tup, evEs_cons, evEs_nil, evE_int, evE_var, List.getElem?_cons_zero, List.getElem?_cons_succ, ok_bind, mul_t1 hc]
    rw [app_pure (ds := (List.range c).map fun k => tr ((List.replicate c 1).set k 0, 1)) rfl (noMut_tr (r := (List.replicate c 2, 2))) (by simp; unfold lineSz; omega)]
    simp [rVote, List.map_map, Function.comp_def]) ?_
  rw [evSs_cons, ret_box (a := a) (p := c) (rs := rVote c) (by
    simp only [evE_new, evEs_cons, evEs_nil, evE_var, evE_bi, List.getElem?_cons_zero, List.getElem?_cons_succ, ok_bind, bi_tupL, hb]) (fun _ z => by cases z), seqS_ret]
theorem ev_bothways (h : HasKnown T) (hf : T.fn 80 = some fn_vote_box) (hg : T.fn 79 = some fn_vote_column) (hb : T.fn 81 = some fn_bothways_box) {a : Nat} (ha : a ≤ 1000) : ev T (n + 6) 81 [.int a] = .ok (boxD a 2 (rVote 2)) := by
  have hv := ev_vote (n := n) h hf hg ha (c := 2) (by omega) (by omega)
  refine ev_of (own := false) (ρ := [.val (.int a)]) hb rfl (by simp [startE, fn_bothways_box]) (by simp only [fn_bothways_box]; rfl) rfl ?_
  rw [evSs_cons, ret_box (a := a) (p := 2) (rs := rVote 2) (by
    simp only [evE_call, evEs_cons, evEs_nil, evE_var, evE_int, List.getElem?_cons_zero, List.getElem?_cons_succ, ok_bind]
    exact hv) (fun _ z => by cases z), seqS_ret]
end
end Ev

set_option linter.all false
set_option autoImplicit false
set_option maxRecDepth 10000
/-! Plain laws: all inputs, what the law of k05 asks. -/
namespace Ev
open PySem
def fn__law_inputs : Fn := { np := 2, nl := 5, fr := true, body := [.asg 2 (.lst [(.tup [])]), .fors (.one 3) (.rng [(.var 1)]) [.asg 2 (.comp (.bin .add (.idx (.var 2) (.bin .fdiv (.var 4) (.bin .add (.var 0) (.int 1)))) (.tup [(.bin .mod (.var 4) (.bin .add (.var 0) (.int 1)))])) 4 (.rng [(.bin .mul (.bi .len [(.var 2)]) (.bin .add (.var 0) (.int 1)))]) none)], .ret (.var 2)] }
def fn__law_due : Fn := { np := 4, nl := 4, fr := false, body := [.ifs (.cmp .eq (.var 0) (.str "silent")) [.ret (.int 0)] [], .ifs (.cmp .eq (.var 0) (.str "constant")) [.ret (.bin .add (.int 1) (.bin .mod (.var 2) (.var 1)))] [], .ifs (.cmp .eq (.var 0) (.str "place")) [.ret (.idx (.var 3) (.bin .mod (.var 2) (.bi .len [(.var 3)])))] [], .ifs (.cmp .eq (.var 0) (.str "case")) [.ifs (.cmp .eq (.idx (.var 3) (.int 0)) (.int 0)) [.ret (.int 0)] [], .ret (.idx (.var 3) (.idx (.var 3) (.int 0)))] [], .ifs (.cmp .eq (.var 0) (.str "either")) [.ret (.bi .int [(.or (.cmp .eq (.idx (.var 3) (.int 0)) (.int 1)) (.cmp .eq (.idx (.var 3) (.int 1)) (.int 1)))])] [], .ifs (.cmp .eq (.var 0) (.str "round")) [.ret (.call 83 [(.var 3)])] [], .ret (.call 84 [(.var 3)])] }
def fn__law_round : Fn := { np := 1, nl := 5, fr := false, body := [.asg 1 (.bi .len [(.var 0)]), .fors (.one 2) (.rng [(.var 1)]) [.asg 3 (.int 0), .fors (.one 4) (.rng [(.var 1)]) [.ifs (.and (.cmp .eq (.var 4) (.bin .mod (.bin .sub (.bin .add (.var 2) (.var 1)) (.int 1)) (.var 1))) (.cmp .ne (.idx (.var 0) (.var 4)) (.int 1))) [.asg 3 (.bin .add (.var 3) (.int 1))] [], .ifs (.and (.cmp .ne (.var 4) (.var 2)) (.and (.cmp .ne (.var 4) (.bin .mod (.bin .sub (.bin .add (.var 2) (.var 1)) (.int 1)) (.var 1))) (.cmp .ne (.idx (.var 0) (.var 4)) (.int 2)))) [.asg 3 (.bin .add (.var 3) (.int 1))] []], .ifs (.cmp .eq (.var 3) (.int 0)) [.ret (.int 1)] []], .ret (.int 0)] }
def fn__law_vote : Fn := { np := 1, nl := 4, fr := false, body := [.asg 1 (.comp (.var 3) 3 (.seq (.var 0)) (some (.cmp .eq (.var 3) (.int 1)))), .asg 2 (.comp (.var 3) 3 (.seq (.var 0)) (some (.cmp .eq (.var 3) (.int 2)))), .ifs (.cmp .ge (.bi .len [(.var 1)]) (.bin .sub (.bi .len [(.var 0)]) (.int 1))) [.ret (.int 1)] [], .ret (.bin .mul (.int 2) (.bi .int [(.cmp .eq (.bi .len [(.var 2)]) (.bi .len [(.var 0)]))]))] }
def fn__law_asks : Fn := { np := 5, nl := 6, fr := false, body := [.ifs (.or (.not (.call 8 [(.att (.var 0) "answers"), (.var 2)])) (.not (.call 8 [(.att (.var 0) "places"), (.var 3)]))) [.ret (.bl false)] [], .fors (.one 5) (.seq (.call 46 [(.var 2), (.var 3)])) [.ifs (.not (.call 8 [(.cal "__call__" (.var 0) [(.var 5)]), (.call 82 [(.var 1), (.var 2), (.var 4), (.var 5)])])) [.ret (.bl false)] []], .ret (.bl true)] }
def nextIn (a : Nat) (g : List (List Int)) : List (List Int) := (List.range (g.length * (a + 1))).map fun j => ((g[j / (a + 1)]?).getD []) ++ [((j % (a + 1) : Nat) : Int)]
def inputsL (a : Nat) : Nat → List (List Int)
  | 0 => [[]]
  | p + 1 => nextIn a (inputsL a p)
theorem inputsL_len (a p : Nat) : (inputsL a p).length = (a + 1) ^ p := by
  induction p with
  | zero => rfl
  | succ p ih => simp [inputsL, nextIn, ih, Nat.pow_succ]
structure Inp (a p : Nat) (x : List Int) : Prop where
  len : x.length = p
  dig : ∀ e ∈ x, 0 ≤ e ∧ e ≤ a
theorem inputsL_inp (a : Nat) : ∀ (p : Nat) x, x ∈ inputsL a p → Inp a p x
  | 0, x, h => by simp [inputsL] at h; subst h; exact ⟨rfl, by simp⟩
  | p + 1, x, h => by
    obtain ⟨j, hj, rfl⟩ := List.mem_map.mp h
    have hj := List.mem_range.mp hj
    have hlt : j / (a + 1) < (inputsL a p).length := Nat.div_lt_of_lt_mul (by rw [Nat.mul_comm]; exact hj)
    rw [List.getElem?_eq_getElem hlt, Option.getD_some]
    have ih := inputsL_inp a p _ (List.getElem_mem hlt)
    refine ⟨by rw [List.length_append, ih.len]; rfl, fun e he => ?_⟩
    rcases List.mem_append.mp he with he | he
    · exact ih.dig e he
    · have hm := Nat.mod_lt j (show 0 < a + 1 by omega)
      rw [List.mem_singleton.mp he]; omega
theorem Inp.at {a p : Nat} {x : List Int} (h : Inp a p x) (i : Nat) : 0 ≤ at0 x i ∧ at0 x i ≤ a := by
  unfold at0
  cases hx : x[i]? with
  | none => simp
  | some e => exact h.dig e (List.mem_of_getElem? hx)
section
variable {T : Tab} {n : Nat}
theorem ev_inputs (h : T.fn 46 = some fn__law_inputs) {a p : Nat} (ha : a ≤ 1000) (hp : p ≤ 1000) (hs : (a + 1) ^ p ≤ 100000) : ev T (n + 1) 46 [.int a, .int p] = .ok (.lst ((inputsL a p).map ti)) := by
  obtain ⟨key, hb⟩ := evS_fold (T := T) (cf := ev T n) (t := .one 3) (src := .rng [(.var 1)]) (b := [.asg 2 (.comp (.bin .add (.idx (.var 2) (.bin .fdiv (.var 4) (.bin .add (.var 0) (.int 1)))) (.tup [(.bin .mod (.var 4) (.bin .add (.var 0) (.int 1)))])) 4 (.rng [(.bin .mul (.bi .len [(.var 2)]) (.bin .add (.var 0) (.int 1)))]) none)]) (e := fun k : Nat => .int (k : Int))
    (env := fun s : List (List Int) × Sl => [.val (.int a), .val (.int p), .own (.lst (s.1.map ti)), s.2, .no]) (f := fun s (k : Nat) => (nextIn a s.1, .val (.int (k : Int)))) (xs := List.range p) (s := ([[]], .no)) (fun i s => s.1 = inputsL a i)
    (by simp [range1s hp]) (by simp [srcVar, lkr, anyOwn]) rfl
    (fun i s k hk hP => by
      obtain ⟨hi, hk⟩ := List.getElem?_eq_some_iff.mp hk
      rw [List.length_range] at hi
      rw [List.getElem_range] at hk
      subst hk
      obtain ⟨g, sl⟩ := s
      simp only at hP
      subst hP
      have hl : (inputsL a i).length * (a + 1) ≤ 100000 := by
        rw [inputsL_len, ← Nat.pow_succ]
        exact Nat.le_trans (Nat.pow_le_pow_right (by omega) (by omega)) hs
      have hc := comp_map (T := T) (cf := ev T n) (ρ := [.val (.int a), .val (.int p), .own (.lst ((inputsL a i).map ti)), .val (.int (i : Int)), .no]) (elt := .bin .add (.idx (.var 2) (.bin .fdiv (.var 4) (.bin .add (.var 0) (.int 1)))) (.tup [(.bin .mod (.var 4) (.bin .add (.var 0) (.int 1)))])) (x := 4) (src := .rng [(.bin .mul (.bi .len [(.var 2)]) (.bin .add (.var 0) (.int 1)))]) (e := fun k : Nat => .int (k : Int)) (g := fun j : Nat => ti (((inputsL a i)[j / (a + 1)]?).getD [] ++ [((j % (a + 1) : Nat) : Int)])) (xs := List.range ((inputsL a i).length * (a + 1)))
        (by
          have r := range1 (m := (inputsL a i).length * (a + 1)) (by unfold lineSz; omega)
          rw [show (((inputsL a i).length * (a + 1) : Nat) : Int) = ((inputsL a i).length : Int) * ((a : Int) + 1) by rw [Int.natCast_mul]; rfl] at r
          have hm := bin_mul (i := ((inputsL a i).length : Int)) (j := (a : Int) + 1) (.inr (by omega))
          simp only [evSrc_rng, evEs_cons, evEs_nil, evE_bin, evE_bi, evE_var, evE_int, List.getElem?_cons_zero, List.getElem?_cons_succ, ok_bind, bi_lenL, List.length_map, bin_add, hm, r, ofO_some]) (by simp [anyOwn, lkr, lkb, lkbL, lks]) (by rw [List.length_range]; unfold lineSz; omega)
        (fun j hj => by
          have hj := List.mem_range.mp hj
          have hlt : j / (a + 1) < (inputsL a i).length := Nat.div_lt_of_lt_mul (by rw [Nat.mul_comm]; exact hj)
          have d1 : binD .fdiv (.int (j : Int)) (.int ((a : Int) + 1)) = .ok (.int ((j / (a + 1) : Nat) : Int)) := by
            rw [bin_fdiv (by omega) (by omega)]; rfl
          have d2 : binD .mod (.int (j : Int)) (.int ((a : Int) + 1)) = .ok (.int ((j % (a + 1) : Nat) : Int)) := by
            rw [bin_mod (by omega)]; rfl
          have ix : idxD (.lst ((inputsL a i).map ti)) (.int ((j / (a + 1) : Nat) : Int)) = .ok (ti (((inputsL a i)[j / (a + 1)]?).getD [])) := idx_lst (by
            rw [List.getElem?_map, List.getElem?_eq_getElem hlt]; rfl)
          have hil := (inputsL_inp a i _ (List.getElem_mem hlt)).len
          have ad : binD .add (ti (((inputsL a i)[j / (a + 1)]?).getD [])) (ti [((j % (a + 1) : Nat) : Int)]) = .ok (ti (((inputsL a i)[j / (a + 1)]?).getD [] ++ [((j % (a + 1) : Nat) : Int)])) := by
            rw [bin_addT (by
              rw [List.getElem?_eq_getElem hlt, Option.getD_some, List.length_map, hil]
              simp only [List.length_map, List.length_cons, List.length_nil]; unfold lineSz; omega), ← List.map_append]
          have ad' : binD .add (ti (((inputsL a i)[j / (a + 1)]?).getD [])) (.tup [.int ((j % (a + 1) : Nat) : Int)]) = _ := ad
          simp only [evE_bin, evE_idx, evE_tup, evEs_cons, evEs_nil, evE_var, evE_int, List.set_cons_succ, List.set_cons_zero, List.getElem?_cons_zero, List.getElem?_cons_succ, ok_bind, bin_add, d1, d2, ix, ad'])
      refine ⟨_, rfl, .inl ?_⟩
      refine step (ρ' := [.val (.int a), .val (.int p), .own (.lst ((nextIn a (inputsL a i)).map ti)), .val (.int (i : Int)), .no]) ?_ (evSs_nil (T := T))
      show evS T (ev T n) _ [.val (.int a), .val (.int p), .own (.lst ((inputsL a i).map ti)), .val (.int (i : Int)), .no] = _
      rw [evS_asg, hc, asgS_ok, bind_new (by simp [lks, lksL, lkb, lkbL, anyOwn]) (by simp [fresh])]
      simp [nextIn, List.map_map, Function.comp_def])
    (fun i s k hk hP => by
      show nextIn a s.1 = _
      rw [hP]; rfl)
  rw [List.length_range] at hb
  generalize (List.range p).foldl _ _ = s at key hb
  obtain ⟨g, sl⟩ := s
  simp only at hb
  subst hb
  rw [ev_eq h rfl]
  have key' : evS T (ev T n) _ [.val (.int a), .val (.int p), .own (.lst [.tup []]), .no, .no] = _ := key
  have hb0 : bindTo T 2 (.lst [(.tup [])]) (.lst [.tup []]) [.val (.int a), .val (.int p), .no, .no, .no] = [.val (.int a), .val (.int p), .own (.lst [.tup []]), .no, .no] := by
    rw [bind_new (by simp [lks, lksL, anyOwn]) (by simp [fresh])]; rfl
  have hs0 : startE fn__law_inputs [.int a, .int p] = [.val (.int a), .val (.int p), .no, .no, .no] := rfl
  simp only [hs0]
  simp only [fn__law_inputs, evSs_cons, evS_asg, evE_lst, evE_tup, evEs_cons, evEs_nil, ok_bind, asgS_ok, hb0, seqS_nx, key', evS_ret, evE_var, List.getElem?_cons_zero, List.getElem?_cons_succ, retS_ok, seqS_ret]
  simp [isOwn]
/-! ### the laws' own values -/
def wr (x : List Int) (c k : Nat) (w : Int) (j : Nat) : Int :=
  let w1 := if j = (k + c - 1) % c ∧ at0 x j ≠ 1 then w + 1 else w
  if j ≠ k ∧ j ≠ (k + c - 1) % c ∧ at0 x j ≠ 2 then w1 + 1 else w1
def wrong (x : List Int) (k : Nat) : Int := (List.range x.length).foldl (wr x x.length k) 0
def lround (x : List Int) : Int := match (List.range x.length).find? fun k => decide (wrong x k = 0) with
  | some _ => 1
  | none => 0
def lvote (x : List Int) : Int := if (x.length : Int) - 1 ≤ ((x.filter fun e => decide (e = 1)).length : Int) then 1 else if ((x.filter fun e => decide (e = 2)).length : Int) = x.length then 2 else 0
theorem loopS_find2 {σ α : Type} {step : σ → α → St σ} {p : α → Bool} {g : σ → α → σ} {d : α → D} (h : ∀ s x, step s x = if p x then .ret (d x) false else .nx (g s x)) : ∀ {xs : List α} {s : σ}, (∀ x, xs.find? p = some x → loopS step xs s = .ret (d x) false) ∧ (xs.find? p = none → ∃ s', loopS step xs s = .nx s')
  | [], s => ⟨fun x hx => by simp at hx, fun _ => ⟨s, rfl⟩⟩
  | x :: xs, s => by
    simp only [loopS, h]
    cases hx : p x with
    | true =>
      refine ⟨fun y hy => ?_, fun hy => ?_⟩
      · rw [List.find?_cons_of_pos hx] at hy
        cases hy; rfl
      · rw [List.find?_cons_of_pos hx] at hy; cases hy
    | false =>
      rw [List.find?_cons_of_neg (by simp [hx])]
      exact loopS_find2 h
theorem ev_lround (h : T.fn 83 = some fn__law_round) {x : List Int} (hx : x.length ≤ 1000) : ev T (n + 1) 83 [ti x] = .ok (.int (lround x)) := by
  let fin : Nat → Int × Sl → Nat → Int × Sl := fun k s j => (wr x x.length k s.1 j, .val (.int (j : Int)))
  have hinner : ∀ (k : Nat) (s4 : Sl), k < x.length → evS T (ev T n) (.fors (.one 4) (.rng [(.var 1)]) [.ifs (.and (.cmp .eq (.var 4) (.bin .mod (.bin .sub (.bin .add (.var 2) (.var 1)) (.int 1)) (.var 1))) (.cmp .ne (.idx (.var 0) (.var 4)) (.int 1))) [.asg 3 (.bin .add (.var 3) (.int 1))] [], .ifs (.and (.cmp .ne (.var 4) (.var 2)) (.and (.cmp .ne (.var 4) (.bin .mod (.bin .sub (.bin .add (.var 2) (.var 1)) (.int 1)) (.var 1))) (.cmp .ne (.idx (.var 0) (.var 4)) (.int 2)))) [.asg 3 (.bin .add (.var 3) (.int 1))] []]) [.val (ti x), .val (.int x.length), .val (.int (k : Int)), .val (.int 0), s4]
      = .ok (.nx [.val (ti x), .val (.int x.length), .val (.int (k : Int)), .val (.int (wrong x k)), ((List.range x.length).foldl (fin k) (0, s4)).2]) := by
    intro k s4 hk
    obtain ⟨key, _⟩ := evS_fold (T := T) (cf := ev T n) (t := .one 4) (src := .rng [(.var 1)]) (b := [.ifs (.and (.cmp .eq (.var 4) (.bin .mod (.bin .sub (.bin .add (.var 2) (.var 1)) (.int 1)) (.var 1))) (.cmp .ne (.idx (.var 0) (.var 4)) (.int 1))) [.asg 3 (.bin .add (.var 3) (.int 1))] [], .ifs (.and (.cmp .ne (.var 4) (.var 2)) (.and (.cmp .ne (.var 4) (.bin .mod (.bin .sub (.bin .add (.var 2) (.var 1)) (.int 1)) (.var 1))) (.cmp .ne (.idx (.var 0) (.var 4)) (.int 2)))) [.asg 3 (.bin .add (.var 3) (.int 1))] []]) (e := fun k : Nat => .int (k : Int))
      (env := fun s : Int × Sl => [.val (ti x), .val (.int x.length), .val (.int (k : Int)), .val (.int s.1), s.2]) (f := fin k) (xs := List.range x.length) (s := (0, s4)) (fun _ _ => True)
      (by simp [range1s hx]) (by simp [srcVar, lkr, lkb, anyOwn]) trivial
      (fun i s j hj _ => by
        obtain ⟨hi, hj⟩ := List.getElem?_eq_some_iff.mp hj
        rw [List.length_range] at hi
        rw [List.getElem_range] at hj
        subst hj
        have hm : binD .mod (.int ((k : Int) + x.length - 1)) (.int (x.length : Int)) = .ok (.int (((k + x.length - 1) % x.length : Nat) : Int)) := by
          rw [bin_mod (by omega), show (k : Int) + x.length - 1 = ((k + x.length - 1 : Nat) : Int) by omega]; rfl
        have ix := ix_ti (x := x) hi
        refine ⟨_, rfl, .inl ?_⟩
        generalize hq : (k + x.length - 1) % x.length = q at hm
        have e1 : decide ((i : Int) = (q : Int)) = decide (i = q) := by rw [decide_eq_decide]; omega
        have e2 : decide ((i : Int) = (k : Int)) = decide (i = k) := by rw [decide_eq_decide]; omega
        have c1 : ∀ w : Int, evE T (ev T n) [.val (ti x), .val (.int x.length), .val (.int (k : Int)), .val (.int w), .val (.int (i : Int))] (.and (.cmp .eq (.var 4) (.bin .mod (.bin .sub (.bin .add (.var 2) (.var 1)) (.int 1)) (.var 1))) (.cmp .ne (.idx (.var 0) (.var 4)) (.int 1))) = .ok (.bl (decide (i = q) && !decide (at0 x i = 1))) := fun w => by
          rw [evE_and]
          simp only [evE_cmp, evE_bin, evE_var, evE_int, List.getElem?_cons_zero, List.getElem?_cons_succ, ok_bind, bin_add, bin_sub, hm, cmp_eqI, e1]
          exact andE_b (by simp only [evE_cmp, evE_idx, evE_var, evE_int, List.getElem?_cons_zero, List.getElem?_cons_succ, ok_bind, ix, cmp_neI])
        have c2 : ∀ w : Int, evE T (ev T n) [.val (ti x), .val (.int x.length), .val (.int (k : Int)), .val (.int w), .val (.int (i : Int))] (.and (.cmp .ne (.var 4) (.var 2)) (.and (.cmp .ne (.var 4) (.bin .mod (.bin .sub (.bin .add (.var 2) (.var 1)) (.int 1)) (.var 1))) (.cmp .ne (.idx (.var 0) (.var 4)) (.int 2)))) = .ok (.bl (!decide (i = k) && (!decide (i = q) && !decide (at0 x i = 2)))) := fun w => by
          rw [evE_and]
          simp only [evE_cmp, evE_var, List.getElem?_cons_zero, List.getElem?_cons_succ, ok_bind, cmp_neI, e2]
          refine andE_b ?_
          rw [evE_and]
          simp only [evE_cmp, evE_bin, evE_var, evE_int, List.getElem?_cons_zero, List.getElem?_cons_succ, ok_bind, bin_add, bin_sub, hm, cmp_neI, e1]
          exact andE_b (by simp only [evE_cmp, evE_idx, evE_var, evE_int, List.getElem?_cons_zero, List.getElem?_cons_succ, ok_bind, ix, cmp_neI])
        simp only [fin, wr, hq]
        refine step (ρ' := [.val (ti x), .val (.int x.length), .val (.int (k : Int)), .val (.int (if i = q ∧ at0 x i ≠ 1 then s.1 + 1 else s.1)), .val (.int (i : Int))]) (by
          simp only [List.set_cons_succ, List.set_cons_zero, evS_ifs, c1, ok_bind, truth_bl]
          by_cases z : i = q ∧ at0 x i ≠ 1
          · have : (decide (i = q) && !decide (at0 x i = 1)) = true := by simpa using z
            rw [if_pos z]; simp only [this, ifS_t]; simp
          · rw [if_neg z]
            have : (decide (i = q) && !decide (at0 x i = 1)) = false := by
              rw [← Bool.not_eq_true]; simpa using z
            simp [this]) ?_
        generalize (if i = q ∧ at0 x i ≠ 1 then s.1 + 1 else s.1) = w
        refine step (ρ' := [.val (ti x), .val (.int x.length), .val (.int (k : Int)), .val (.int (if i ≠ k ∧ i ≠ q ∧ at0 x i ≠ 2 then w + 1 else w)), .val (.int (i : Int))]) (by
          simp only [evS_ifs, c2, ok_bind, truth_bl]
          by_cases z : i ≠ k ∧ i ≠ q ∧ at0 x i ≠ 2
          · have : (!decide (i = k) && (!decide (i = q) && !decide (at0 x i = 2))) = true := by simpa using z
            rw [if_pos z]; simp only [this, ifS_t]; simp
          · rw [if_neg z]
            have : (!decide (i = k) && (!decide (i = q) && !decide (at0 x i = 2))) = false := by
              rw [← Bool.not_eq_true]; simpa using z
            simp [this]) (by simp))
      (fun _ _ _ _ _ => trivial)
    have e1 : ∀ (xs : List Nat) (w : Int) (t : Sl), (xs.foldl (fin k) (w, t)).1 = xs.foldl (wr x x.length k) w := by
      intro xs
      induction xs with
      | nil => exact fun _ _ => rfl
      | cons y xs ih => exact fun w t => ih _ _
    rw [key, e1]; rfl
  have hloop := evS_for (T := T) (cf := ev T n) (t := .one 2) (src := .rng [(.var 1)]) (b := [.asg 3 (.int 0), .fors (.one 4) (.rng [(.var 1)]) [.ifs (.and (.cmp .eq (.var 4) (.bin .mod (.bin .sub (.bin .add (.var 2) (.var 1)) (.int 1)) (.var 1))) (.cmp .ne (.idx (.var 0) (.var 4)) (.int 1))) [.asg 3 (.bin .add (.var 3) (.int 1))] [], .ifs (.and (.cmp .ne (.var 4) (.var 2)) (.and (.cmp .ne (.var 4) (.bin .mod (.bin .sub (.bin .add (.var 2) (.var 1)) (.int 1)) (.var 1))) (.cmp .ne (.idx (.var 0) (.var 4)) (.int 2)))) [.asg 3 (.bin .add (.var 3) (.int 1))] []], .ifs (.cmp .eq (.var 3) (.int 0)) [.ret (.int 1)] []]) (e := fun k : Nat => .int (k : Int)) (env := fun s : Sl × Sl × Sl => [.val (ti x), .val (.int x.length), s.1, s.2.1, s.2.2])
    (step := fun s k => if decide (wrong x k = 0) then .ret (.int 1) false else .nx (.val (.int (k : Int)), .val (.int (wrong x k)), ((List.range x.length).foldl (fin k) (0, s.2.2)).2)) (xs := List.range x.length) (s := (.no, .no, .no)) (fun _ _ => True)
    (by simp [range1s hx]) (by simp [srcVar, lkr, lkb, anyOwn]) trivial
    (fun i s k hk _ => by
      obtain ⟨hi, hk⟩ := List.getElem?_eq_some_iff.mp hk
      rw [List.length_range] at hi
      rw [List.getElem_range] at hk
      subst hk
      refine ⟨_, rfl, .inl ?_⟩
      refine step (ρ' := [.val (ti x), .val (.int x.length), .val (.int (i : Int)), .val (.int 0), s.2.2]) (by simp) ?_
      rw [evSs_cons, hinner i s.2.2 hi, seqS_nx]
      by_cases z : wrong x i = 0
      · simp [z, St.fl, isRoot, isOwn]
      · simp [z, St.fl])
    (fun _ _ _ _ _ _ _ => trivial)
  have hf := loopS_find2 (step := fun (s : Sl × Sl × Sl) (k : Nat) => if decide (wrong x k = 0) then St.ret (.int 1) false else .nx (Sl.val (.int (k : Int)), Sl.val (.int (wrong x k)), ((List.range x.length).foldl (fin k) (0, s.2.2)).2)) (p := fun k => decide (wrong x k = 0)) (d := fun _ => .int 1) (fun s k => rfl) (xs := List.range x.length) (s := (.no, .no, .no))
  refine ev_of (own := false) (ρ := [.val (ti x), .no, .no, .no, .no]) h rfl (by simp [startE, fn__law_round]) (by simp only [fn__law_round]; rfl) rfl ?_
  refine step (ρ' := [.val (ti x), .val (.int x.length), .no, .no, .no]) (by simp) ?_
  rw [evSs_cons, hloop]
  unfold lround
  cases hz : (List.range x.length).find? (fun k => decide (wrong x k = 0)) with
  | none =>
    obtain ⟨s', e⟩ := hf.2 hz
    rw [e]
    simp [St.fl, isRoot, isOwn]
  | some k =>
    rw [hf.1 k hz]
    simp [St.fl]
theorem ev_lvote (h : T.fn 84 = some fn__law_vote) {x : List Int} (hx : x.length ≤ 1000) : ev T (n + 1) 84 [ti x] = .ok (.int (lvote x)) := by
  have hc : ∀ (v : Int) (s1 : Sl), evE T (ev T n) [.val (ti x), s1, .no, .no] (.comp (.var 3) 3 (.seq (.var 0)) (some (.cmp .eq (.var 3) (.int v)))) = .ok (.lst ((x.filter fun e => decide (e = v)).map .int)) := fun v s1 =>
    comp_if (T := T) (cf := ev T n) (ρ := [.val (ti x), s1, .no, .no]) (x := 3) (src := .seq (.var 0)) (e := D.int) (p := fun e => decide (e = v)) (g := D.int) (xs := x) (by simp) (by simp [anyOwn, lkr, lkb]) (by unfold lineSz; omega) (fun a _ => by simp) (fun a _ _ => by simp)
  refine ev_of (own := false) (ρ := [.val (ti x), .no, .no, .no]) h rfl (by simp [startE, fn__law_vote]) (by simp only [fn__law_vote]; rfl) rfl ?_
  refine step (ρ' := [.val (ti x), .own (li (x.filter fun e => decide (e = 1))), .no, .no]) (by
    rw [evS_asg, hc, asgS_ok, bind_new (by simp [lks, lksL, lkb, lkbL, anyOwn]) (by simp [fresh])]; rfl) ?_
  refine step (ρ' := [.val (ti x), .own (li (x.filter fun e => decide (e = 1))), .own (li (x.filter fun e => decide (e = 2))), .no]) (by
    rw [evS_asg, hc, asgS_ok, bind_new (by simp [lks, lksL, lkb, lkbL, anyOwn]) (by simp [fresh])]; rfl) ?_
  unfold lvote
  by_cases z1 : (x.length : Int) - 1 ≤ ((x.filter fun e => decide (e = 1)).length : Int)
  · rw [if_pos z1]
    simp [z1, isRoot, isOwn]
  · rw [if_neg z1]
    refine step (ρ' := [.val (ti x), .own (li (x.filter fun e => decide (e = 1))), .own (li (x.filter fun e => decide (e = 2))), .no]) (by simp [z1]) ?_
    by_cases z2 : ((x.filter fun e => decide (e = 2)).length : Int) = x.length
    · rw [if_pos z2]
      simp [z2, isRoot, isOwn, bin_mul (i := 2) (j := 1) (.inl (by decide))]
    · rw [if_neg z2]
      simp [z2, isRoot, isOwn, bin_mul (i := 2) (j := 0) (.inl (by decide))]
end
end Ev

set_option linter.all false
set_option autoImplicit false
set_option maxRecDepth 10000
/-! Plain laws: the values of the known boxes. -/
namespace Ev
open PySem
theorem valAt_find {rs : KV} {x : List Int} {r : List Int × Int} (hr : r ∈ rs) (hb : below r.1 x = true) (hu : ∀ s ∈ rs, below s.1 x = true → s.2 = r.2) : valAt rs x = r.2 := by
  unfold valAt
  cases hf : rs.find? (fun r => below r.1 x) with
  | none => exact absurd hb (by have := List.find?_eq_none.mp hf r hr; simpa using this)
  | some s =>
    have hb2 := List.find?_some hf
    exact hu s (List.mem_of_find?_eq_some hf) hb2
theorem valAt_none {rs : KV} {x : List Int} (h : ∀ s ∈ rs, below s.1 x = false) : valAt rs x = 0 := by
  unfold valAt
  have : rs.find? (fun r => below r.1 x) = none := List.find?_eq_none.mpr fun s hs => by simp [h s hs]
  rw [this]
theorem val_const {p : Nat} {v : Int} {x : List Int} : valAt (rConst p v) x = v := by
  refine valAt_find (r := (List.replicate p 0, v)) (by simp [rConst]) (below_iff.mpr fun i hi => .inl (at0_rep (by simpa using hi))) fun s hs _ => ?_
  rw [List.mem_singleton.mp hs]
theorem below_set {p i : Nat} {v : Int} {x : List Int} (hi : i < p) (hv : v ≠ 0) : below ((List.replicate p 0).set i v) x = decide (at0 x i = v) := by
  rw [Bool.eq_iff_iff, below_iff, decide_eq_true_iff]
  constructor
  · intro h
    have := h i (by simpa using hi)
    rw [at0_set (by simpa using hi), if_pos rfl] at this
    rcases this with e | e
    · exact absurd e hv
    · exact e.symm
  · intro h j hj
    rw [at0_set (by simpa using hi)]
    by_cases e : i = j
    · subst e; rw [if_pos rfl]; exact .inr h.symm
    · rw [if_neg e]; exact .inl (at0_rep (by simpa using hj))
theorem val_place {a p i : Nat} {x : List Int} (hx : Inp a p x) (hi : i < p) : valAt (rPlace a p i) x = at0 x i := by
  obtain ⟨h0, h1⟩ := hx.at i
  by_cases hz : at0 x i = 0
  · rw [hz]
    refine valAt_none fun s hs => ?_
    obtain ⟨k, _, rfl⟩ := List.mem_map.mp hs
    simp only
    rw [below_set hi (by omega), hz]
    simp; omega
  · have hk : (at0 x i).toNat - 1 < a := by omega
    have e : (1 : Int) + (((at0 x i).toNat - 1 : Nat) : Int) = at0 x i := by omega
    have := valAt_find (rs := rPlace a p i) (x := x) (r := ((List.replicate p 0).set i (1 + (((at0 x i).toNat - 1 : Nat) : Int)), 1 + (((at0 x i).toNat - 1 : Nat) : Int))) (List.mem_map.mpr ⟨_, List.mem_range.mpr hk, rfl⟩)
      (by
        simp only
        rw [below_set hi (by omega)]; simp; omega) (fun s hs hb => by
        obtain ⟨k, _, rfl⟩ := List.mem_map.mp hs
        simp only at hb ⊢
        rw [below_set hi (by omega)] at hb
        simp at hb; omega)
    rw [this, e]
def lcase (x : List Int) : Int := if at0 x 0 = 0 then 0 else at0 x (at0 x 0).toNat
def leither (x : List Int) : Int := if at0 x 0 = 1 ∨ at0 x 1 = 1 then 1 else 0
theorem val_case1 : ((inputsL 1 2).all fun x => decide (valAt (rCase 1) x = lcase x)) = true := by decide +kernel
theorem val_case2 : ((inputsL 2 3).all fun x => decide (valAt (rCase 2) x = lcase x)) = true := by decide +kernel
theorem val_case3 : ((inputsL 3 4).all fun x => decide (valAt (rCase 3) x = lcase x)) = true := by decide +kernel
theorem val_either : ([1, 2, 3].all fun a => (inputsL a 2).all fun x => decide (valAt rEither x = leither x)) = true := by decide +kernel
theorem wr_ge {x : List Int} {c k : Nat} {w : Int} {j : Nat} : w ≤ wr x c k w j := by
  unfold wr
  by_cases h1 : j = (k + c - 1) % c ∧ at0 x j ≠ 1 <;> by_cases h2 : j ≠ k ∧ j ≠ (k + c - 1) % c ∧ at0 x j ≠ 2 <;> simp only [h1, h2, if_true, if_false] <;> omega
theorem wr_zero {x : List Int} {c k : Nat} {w : Int} {j : Nat} (hw : 0 ≤ w) : wr x c k w j = 0 ↔ w = 0 ∧ ¬ (j = (k + c - 1) % c ∧ at0 x j ≠ 1) ∧ ¬ (j ≠ k ∧ j ≠ (k + c - 1) % c ∧ at0 x j ≠ 2) := by
  unfold wr
  by_cases h1 : j = (k + c - 1) % c ∧ at0 x j ≠ 1
  · have n : ¬ ((if j ≠ k ∧ j ≠ (k + c - 1) % c ∧ at0 x j ≠ 2 then w + 1 + 1 else w + 1) = 0) := by split <;> omega
    rw [if_pos h1]
    exact ⟨fun z => absurd z n, fun z => absurd h1 z.2.1⟩
  · rw [if_neg h1]
    by_cases h2 : j ≠ k ∧ j ≠ (k + c - 1) % c ∧ at0 x j ≠ 2
    · rw [if_pos h2]
      exact ⟨fun z => by omega, fun z => absurd h2 z.2.2⟩
    · rw [if_neg h2]
      exact ⟨fun z => ⟨z, h1, h2⟩, fun z => z.1⟩
theorem wr_fold {x : List Int} {c k : Nat} : ∀ (xs : List Nat) (w : Int), 0 ≤ w → (xs.foldl (wr x c k) w = 0 ↔ w = 0 ∧ ∀ j ∈ xs, ¬ (j = (k + c - 1) % c ∧ at0 x j ≠ 1) ∧ ¬ (j ≠ k ∧ j ≠ (k + c - 1) % c ∧ at0 x j ≠ 2))
  | [], w, _ => by simp
  | j :: xs, w, h => by
    have := wr_ge (x := x) (c := c) (k := k) (w := w) (j := j)
    rw [List.foldl_cons, wr_fold xs _ (by omega), wr_zero h, List.forall_mem_cons]
    constructor
    · rintro ⟨⟨a, b⟩, d⟩; exact ⟨a, b, d⟩
    · rintro ⟨a, b, d⟩; exact ⟨⟨a, b⟩, d⟩
theorem wrong_below {c k : Nat} {x : List Int} (hx : x.length = c) (h2 : 2 ≤ c) (hk : k < c) : below (((List.replicate c 2).set ((k + c - 1) % c) 1).set k 0) x = decide (wrong x k = 0) := by
  have hq : (k + c - 1) % c < c := Nat.mod_lt _ (by omega)
  have hqk : (k + c - 1) % c ≠ k := by
    by_cases h0 : k = 0
    · subst h0
      rw [Nat.zero_add, Nat.mod_eq_of_lt (by omega)]; omega
    · rw [show k + c - 1 = (k - 1) + c by omega, Nat.add_mod_right, Nat.mod_eq_of_lt (by omega)]; omega
  have hcol : ∀ j, j < c → at0 (((List.replicate c (2 : Int)).set ((k + c - 1) % c) 1).set k 0) j = if k = j then 0 else if (k + c - 1) % c = j then 1 else 2 := fun j hj => by
    rw [at0_set (by simpa using hk), at0_set (by simpa using hq), at0_rep hj]
  rw [Bool.eq_iff_iff, decide_eq_true_iff, below_iff]
  unfold wrong
  rw [wr_fold _ _ (Int.le_refl _), hx]
  simp only [List.length_set, List.length_replicate, List.mem_range, true_and]
  refine forall_congr' fun j => forall_congr' fun hj => ?_
  rw [hcol j hj]
  by_cases h1 : k = j
  · subst h1
    simp [hqk.symm]
  · by_cases h3 : (k + c - 1) % c = j
    · rw [h3]
      simp [h1]
      exact eq_comm
    · simp only [h1, h3, if_false]
      have h1' : j ≠ k := fun z => h1 z.symm
      have h3' : j ≠ (k + c - 1) % c := fun z => h3 z.symm
      simp [h1', h3']
      exact eq_comm
theorem val_round {c : Nat} {x : List Int} (hx : x.length = c) (h2 : 2 ≤ c) : valAt (rRound c) x = lround x := by
  unfold lround
  rw [hx]
  cases hf : (List.range c).find? (fun k => decide (wrong x k = 0)) with
  | none =>
    refine valAt_none fun s hs => ?_
    obtain ⟨k, hk, rfl⟩ := List.mem_map.mp hs
    have := List.find?_eq_none.mp hf k hk
    rw [wrong_below hx h2 (List.mem_range.mp hk)]
    simpa using this
  | some k =>
    have hk := List.mem_of_find?_eq_some hf
    have hw := List.find?_some hf
    refine valAt_find (r := (((List.replicate c 2).set ((k + c - 1) % c) 1).set k 0, 1)) (List.mem_map.mpr ⟨k, hk, rfl⟩) (by
      simp only
      rw [wrong_below hx h2 (List.mem_range.mp hk)]; exact hw) fun s hs _ => ?_
    obtain ⟨l, _, rfl⟩ := List.mem_map.mp hs
    rfl
theorem count_but {p : Int → Bool} : ∀ {x : List Int}, x ≠ [] → (x.length ≤ (x.filter p).length + 1 ↔ ∃ k, k < x.length ∧ ∀ j, j < x.length → j ≠ k → p (at0 x j) = true)
  | [], h => absurd rfl h
  | e :: x, _ => by
    have hs : ∀ j, at0 (e :: x) (j + 1) = at0 x j := fun j => by unfold at0; rw [List.getElem?_cons_succ]
    have h0 : at0 (e :: x) 0 = e := rfl
    have hall : (x.filter p).length = x.length ↔ ∀ j, j < x.length → p (at0 x j) = true := by
      rw [List.length_filter_eq_length_iff]
      constructor
      · intro h j hj
        unfold at0
        rw [List.getElem?_eq_getElem hj]
        exact h _ (List.getElem_mem hj)
      · intro h a ha
        obtain ⟨j, hj, rfl⟩ := List.getElem_of_mem ha
        have := h j hj
        unfold at0 at this
        rw [List.getElem?_eq_getElem hj] at this
        exact this
    have hle := List.length_filter_le p x
    by_cases hx : x = []
    · subst hx
      simp only [List.length_cons, List.length_nil]
      refine ⟨fun _ => ⟨0, by omega, fun j hj hn => by omega⟩, fun _ => by omega⟩
    have ih := count_but (p := p) hx
    cases hp : p e with
    | true =>
      rw [List.filter_cons_of_pos hp]
      simp only [List.length_cons]
      constructor
      · intro h
        obtain ⟨k, hk, hj⟩ := ih.mp (by omega)
        refine ⟨k + 1, by omega, fun j h1 h2 => ?_⟩
        cases j with
        | zero => rw [h0]; exact hp
        | succ j => rw [hs]; exact hj j (by omega) (by omega)
      · rintro ⟨k, hk, hj⟩
        cases k with
        | zero =>
          have := hall.mpr fun j h1 => by
            have := hj (j + 1) (by omega) (by omega)
            rw [hs] at this; exact this
          omega
        | succ k =>
          have := ih.mpr ⟨k, by omega, fun j h1 h2 => by
            have := hj (j + 1) (by omega) (by omega)
            rw [hs] at this; exact this⟩
          omega
    | false =>
      rw [List.filter_cons_of_neg (by simp [hp])]
      simp only [List.length_cons]
      constructor
      · intro h
        refine ⟨0, by omega, fun j h1 h2 => ?_⟩
        cases j with
        | zero => exact absurd rfl h2
        | succ j => rw [hs]; exact hall.mp (by omega) j (by omega)
      · rintro ⟨k, hk, hj⟩
        cases k with
        | zero =>
          have := hall.mpr fun j h1 => by
            have := hj (j + 1) (by omega) (by omega)
            rw [hs] at this; exact this
          omega
        | succ k =>
          have := hj 0 (by omega) (by omega)
          rw [h0, hp] at this; cases this
theorem count_all {p : Int → Bool} {x : List Int} : (x.filter p).length = x.length ↔ ∀ j, j < x.length → p (at0 x j) = true := by
  rw [List.length_filter_eq_length_iff]
  constructor
  · intro h j hj
    unfold at0
    rw [List.getElem?_eq_getElem hj]
    exact h _ (List.getElem_mem hj)
  · intro h a ha
    obtain ⟨j, hj, rfl⟩ := List.getElem_of_mem ha
    have := h j hj
    unfold at0 at this
    rw [List.getElem?_eq_getElem hj] at this
    exact this
theorem below_col {c k : Nat} {x : List Int} (hk : k < c) : below ((List.replicate c 1).set k 0) x = true ↔ ∀ j, j < c → j ≠ k → at0 x j = 1 := by
  rw [below_iff]
  simp only [List.length_set, List.length_replicate]
  refine forall_congr' fun j => forall_congr' fun hj => ?_
  rw [at0_set (by simpa using hk), at0_rep hj]
  by_cases h : k = j
  · subst h; simp
  · have h' : j ≠ k := fun z => h z.symm
    simp [h, h']
    exact eq_comm
theorem below_two {c : Nat} {x : List Int} : below (List.replicate c 2) x = true ↔ ∀ j, j < c → at0 x j = 2 := by
  rw [below_iff]
  simp only [List.length_replicate]
  refine forall_congr' fun j => forall_congr' fun hj => ?_
  rw [at0_rep hj]
  simp
  exact eq_comm
theorem val_vote {c : Nat} {x : List Int} (hx : x.length = c) (h2 : 2 ≤ c) : valAt (rVote c) x = lvote x := by
  have hne : x ≠ [] := fun z => by rw [z] at hx; simp at hx; omega
  have hb := count_but (p := fun e => decide (e = 1)) hne
  have ha := count_all (p := fun e => decide (e = 2)) (x := x)
  have hmem : ∀ s ∈ rVote c, (∃ k, k < c ∧ s = ((List.replicate c 1).set k 0, 1)) ∨ s = (List.replicate c 2, 2) := fun r hr => by
    rcases List.mem_append.mp hr with hr | hr
    · obtain ⟨k, hk, rfl⟩ := List.mem_map.mp hr
      exact .inl ⟨k, List.mem_range.mp hk, rfl⟩
    · exact .inr (List.mem_singleton.mp hr)
  rw [hx] at hb ha
  unfold lvote
  rw [hx]
  by_cases z1 : (c : Int) - 1 ≤ ((x.filter fun e => decide (e = 1)).length : Int)
  · rw [if_pos z1]
    obtain ⟨k, hk, hj⟩ := hb.mp (by omega)
    have hbk := (below_col (x := x) hk).mpr fun j h1 h3 => by simpa using hj j h1 h3
    have := valAt_find (rs := rVote c) (x := x) (r := ((List.replicate c 1).set k 0, 1)) (List.mem_append_left _ (List.mem_map.mpr ⟨k, List.mem_range.mpr hk, rfl⟩)) hbk fun s hs hsb => by
      rcases hmem s hs with ⟨l, _, rfl⟩ | rfl
      · rfl
      · obtain ⟨j, hj1, hj2⟩ : ∃ j, j < c ∧ j ≠ k := by
          by_cases h0 : k = 0
          · exact ⟨1, by omega, by omega⟩
          · exact ⟨0, by omega, fun z => h0 z.symm⟩
        have e1 := (below_col (x := x) hk).mp hbk j hj1 hj2
        have e2 := below_two.mp hsb j hj1
        omega
    exact this
  · rw [if_neg z1]
    have hno : ∀ k, k < c → below ((List.replicate c 1).set k 0) x = false := fun k hk => by
      rw [← Bool.not_eq_true]
      intro z
      have := hb.mpr ⟨k, hk, fun j h1 h3 => by simpa using (below_col (x := x) hk).mp z j h1 h3⟩
      omega
    by_cases z2 : ((x.filter fun e => decide (e = 2)).length : Int) = c
    · rw [if_pos z2]
      have h2' := ha.mp (by omega)
      exact valAt_find (rs := rVote c) (x := x) (r := (List.replicate c 2, 2)) (List.mem_append_right _ (List.mem_singleton.mpr rfl)) (below_two.mpr fun j hj => by simpa using h2' j hj) fun s hs hsb => by
        rcases hmem s hs with ⟨l, hl, rfl⟩ | rfl
        · rw [hno l hl] at hsb; cases hsb
        · rfl
    · rw [if_neg z2]
      refine valAt_none fun s hs => ?_
      rcases hmem s hs with ⟨l, hl, rfl⟩ | rfl
      · exact hno l hl
      · rw [← Bool.not_eq_true]
        intro z
        have := ha.mpr fun j hj => by simpa using below_two.mp z j hj
        omega
end Ev

set_option linter.all false
set_option autoImplicit false
set_option maxRecDepth 10000
/-! Plain laws: what the law of k05 asks, walked. -/
namespace Ev
open PySem
theorem eqs {i j : Str} (h : (PyData.strOk i && PyData.strOk j) = true) : cmpD .eq (.str i) (.str j) = .ok (decide (i = j)) := by
  rw [Bool.and_eq_true] at h
  exact cmp_eqS h.1 h.2
section
variable {T : Tab} {n : Nat}
abbrev dueEnv (kind : Str) (a num : Int) (x : List Int) : Env := [.val (.str kind), .val (.int a), .val (.int num), .val (ti x)]
theorem skipE {cf : Nat → List D → R D} {ρ : Env} {e : E} {b : List S} (h : evE T cf ρ e = .ok (.bl false)) : evS T cf (.ifs e b []) ρ = .ok (.nx ρ) := by simp [h]
theorem takeE {cf : Nat → List D → R D} {ρ : Env} {e : E} {b r : List S} {d : D} {o : Bool} (h : evE T cf ρ e = .ok (.bl true)) (hb : evSs T cf b ρ = .ok (.ret d o)) : evSs T cf (.ifs e b [] :: r) ρ = .ok (.ret d o) := by
  rw [evSs_cons, evS_ifs, h, ok_bind, truth_bl, ifS_t, hb, seqS_ret]
theorem kindE {cf : Nat → List D → R D} {kind k2 : Str} {a num : Int} {x : List Int} (h : (PyData.strOk kind && PyData.strOk k2) = true) {b : Bool} (hd : decide (kind = k2) = b) : evE T cf (dueEnv kind a num x) (.cmp .eq (.var 0) (.str k2)) = .ok (.bl b) := by
  simp only [evE_cmp, evE_var, evE_str, List.getElem?_cons_zero, ok_bind, eqs h, hd]
theorem retI {cf : Nat → List D → R D} {ρ : Env} {e : E} {r : List S} {i : Int} (h : evE T cf ρ e = .ok (.int i)) (h1 : ∀ i, e ≠ .var i) : evSs T cf (.ret e :: r) ρ = .ok (.ret (.int i) false) := by
  rw [evSs_cons, evS_ret, h, retS_ok, seqS_ret]
  have h2 : isOwn e ρ = false := by
    cases e <;> first | rfl | exact absurd rfl (h1 _)
  have : isRoot (.int i) = false := rfl
  rw [this, h2, Bool.and_false, Bool.or_false]
theorem due_silent (h : T.fn 82 = some fn__law_due) {a num : Int} {x : List Int} : ev T (n + 1) 82 [.str "silent", .int a, .int num, ti x] = .ok (.int 0) := by
  refine ev_of (own := false) (ρ := dueEnv "silent" a num x) h rfl (by simp [startE, fn__law_due]) (by simp only [fn__law_due]; rfl) rfl ?_
  exact takeE (kindE (by decide +kernel) (by decide +kernel)) (retI (by simp) (fun _ z => by cases z))
theorem due_const (h : T.fn 82 = some fn__law_due) {a num : Int} {x : List Int} (ha : 0 < a) : ev T (n + 1) 82 [.str "constant", .int a, .int num, ti x] = .ok (.int (1 + num % a)) := by
  refine ev_of (own := false) (ρ := dueEnv "constant" a num x) h rfl (by simp [startE, fn__law_due]) (by simp only [fn__law_due]; rfl) rfl ?_
  refine step (skipE (kindE (by decide +kernel) (by decide +kernel))) ?_
  exact takeE (kindE (by decide +kernel) (by decide +kernel)) (retI (by simp [bin_mod ha]) (fun _ z => by cases z))
theorem due_place (h : T.fn 82 = some fn__law_due) {a : Int} {num : Nat} {x : List Int} (hx : 0 < x.length) : ev T (n + 1) 82 [.str "place", .int a, .int num, ti x] = .ok (.int (at0 x (num % x.length))) := by
  refine ev_of (own := false) (ρ := dueEnv "place" a num x) h rfl (by simp [startE, fn__law_due]) (by simp only [fn__law_due]; rfl) rfl ?_
  refine step (skipE (kindE (by decide +kernel) (by decide +kernel))) ?_
  refine step (skipE (kindE (by decide +kernel) (by decide +kernel))) ?_
  have hm : binD .mod (.int (num : Int)) (.int (x.length : Int)) = .ok (.int ((num % x.length : Nat) : Int)) := by rw [bin_mod (by omega)]; rfl
  have ix := ix_ti (x := x) (i := num % x.length) (Nat.mod_lt _ hx)
  exact takeE (kindE (by decide +kernel) (by decide +kernel)) (retI (by
    simp only [evE_idx, evE_bin, evE_bi, evEs_cons, evEs_nil, evE_var, List.getElem?_cons_zero, List.getElem?_cons_succ, ok_bind, bi_lenT, List.length_map, hm, ix]) (fun _ z => by cases z))
theorem due_case (h : T.fn 82 = some fn__law_due) {a num : Int} {x : List Int} (hx : 0 < x.length) (h0 : 0 ≤ at0 x 0) (h1 : at0 x 0 < x.length) : ev T (n + 1) 82 [.str "case", .int a, .int num, ti x] = .ok (.int (lcase x)) := by
  refine ev_of (own := false) (ρ := dueEnv "case" a num x) h rfl (by simp [startE, fn__law_due]) (by simp only [fn__law_due]; rfl) rfl ?_
  refine step (skipE (kindE (by decide +kernel) (by decide +kernel))) ?_
  refine step (skipE (kindE (by decide +kernel) (by decide +kernel))) ?_
  refine step (skipE (kindE (by decide +kernel) (by decide +kernel))) ?_
  have i0 : idxD (ti x) (.int 0) = .ok (.int (at0 x 0)) := ix_ti (x := x) (i := 0) hx
  have i1 := ix_ti (x := x) (i := (at0 x 0).toNat) (by omega)
  rw [Int.toNat_of_nonneg h0] at i1
  refine takeE (kindE (by decide +kernel) (by decide +kernel)) ?_
  unfold lcase
  by_cases z : at0 x 0 = 0
  · rw [if_pos z]
    exact takeE (by simp only [evE_cmp, evE_idx, evE_var, evE_int, List.getElem?_cons_zero, List.getElem?_cons_succ, ok_bind, i0, cmp_eqI, decide_eq_true z]) (retI (by simp) (fun _ z => by cases z))
  · rw [if_neg z]
    refine step (skipE (by simp only [evE_cmp, evE_idx, evE_var, evE_int, List.getElem?_cons_zero, List.getElem?_cons_succ, ok_bind, i0, cmp_eqI, decide_eq_false z])) ?_
    exact retI (by simp only [evE_idx, evE_var, evE_int, List.getElem?_cons_zero, List.getElem?_cons_succ, ok_bind, i0, i1]) (fun _ z => by cases z)
theorem due_either (h : T.fn 82 = some fn__law_due) {a num : Int} {x : List Int} (hx : 2 ≤ x.length) : ev T (n + 1) 82 [.str "either", .int a, .int num, ti x] = .ok (.int (leither x)) := by
  refine ev_of (own := false) (ρ := dueEnv "either" a num x) h rfl (by simp [startE, fn__law_due]) (by simp only [fn__law_due]; rfl) rfl ?_
  refine step (skipE (kindE (by decide +kernel) (by decide +kernel))) ?_
  refine step (skipE (kindE (by decide +kernel) (by decide +kernel))) ?_
  refine step (skipE (kindE (by decide +kernel) (by decide +kernel))) ?_
  refine step (skipE (kindE (by decide +kernel) (by decide +kernel))) ?_
  have i0 : idxD (ti x) (.int 0) = .ok (.int (at0 x 0)) := ix_ti (x := x) (i := 0) (by omega)
  have i1 : idxD (ti x) (.int 1) = .ok (.int (at0 x 1)) := ix_ti (x := x) (i := 1) (by omega)
  refine takeE (kindE (by decide +kernel) (by decide +kernel)) (retI ?_ (fun _ z => by cases z))
  have ho : evE T (ev T n) (dueEnv "either" a num x) (.or (.cmp .eq (.idx (.var 3) (.int 0)) (.int 1)) (.cmp .eq (.idx (.var 3) (.int 1)) (.int 1))) = .ok (.bl (decide (at0 x 0 = 1) || decide (at0 x 1 = 1))) := by
    rw [evE_or]
    simp only [evE_cmp, evE_idx, evE_var, evE_int, List.getElem?_cons_zero, List.getElem?_cons_succ, ok_bind, i0, cmp_eqI]
    exact orE_b (by simp only [evE_cmp, evE_idx, evE_var, evE_int, List.getElem?_cons_zero, List.getElem?_cons_succ, ok_bind, i1, cmp_eqI])
  simp only [evE_bi, evEs_cons, evEs_nil, ho, ok_bind, bi_intB]
  unfold leither
  by_cases z0 : at0 x 0 = 1 <;> by_cases z1 : at0 x 1 = 1 <;> simp [z0, z1]
theorem due_round (h : T.fn 82 = some fn__law_due) (h2 : T.fn 83 = some fn__law_round) {a num : Int} {x : List Int} (hx : x.length ≤ 1000) : ev T (n + 2) 82 [.str "round", .int a, .int num, ti x] = .ok (.int (lround x)) := by
  have hr := ev_lround (n := n) h2 hx
  refine ev_of (own := false) (ρ := dueEnv "round" a num x) h rfl (by simp [startE, fn__law_due]) (by simp only [fn__law_due]; rfl) rfl ?_
  refine step (skipE (kindE (by decide +kernel) (by decide +kernel))) ?_
  refine step (skipE (kindE (by decide +kernel) (by decide +kernel))) ?_
  refine step (skipE (kindE (by decide +kernel) (by decide +kernel))) ?_
  refine step (skipE (kindE (by decide +kernel) (by decide +kernel))) ?_
  refine step (skipE (kindE (by decide +kernel) (by decide +kernel))) ?_
  exact takeE (kindE (by decide +kernel) (by decide +kernel)) (retI (by
    simp only [evE_call, evEs_cons, evEs_nil, evE_var, List.getElem?_cons_zero, List.getElem?_cons_succ, ok_bind, hr]) (fun _ z => by cases z))
theorem due_vote (h : T.fn 82 = some fn__law_due) (h2 : T.fn 84 = some fn__law_vote) {a num : Int} {x : List Int} (hx : x.length ≤ 1000) : ev T (n + 2) 82 [.str "vote", .int a, .int num, ti x] = .ok (.int (lvote x)) := by
  have hr := ev_lvote (n := n) h2 hx
  refine ev_of (own := false) (ρ := dueEnv "vote" a num x) h rfl (by simp [startE, fn__law_due]) (by simp only [fn__law_due]; rfl) rfl ?_
  refine step (skipE (kindE (by decide +kernel) (by decide +kernel))) ?_
  refine step (skipE (kindE (by decide +kernel) (by decide +kernel))) ?_
  refine step (skipE (kindE (by decide +kernel) (by decide +kernel))) ?_
  refine step (skipE (kindE (by decide +kernel) (by decide +kernel))) ?_
  refine step (skipE (kindE (by decide +kernel) (by decide +kernel))) ?_
  refine step (skipE (kindE (by decide +kernel) (by decide +kernel))) ?_
  exact retI (by
    simp only [evE_call, evEs_cons, evEs_nil, evE_var, List.getElem?_cons_zero, List.getElem?_cons_succ, ok_bind, hr]) (fun _ z => by cases z)
structure HasAsks (T : Tab) : Prop where
  same : HasSame T
  inp : T.fn 46 = some fn__law_inputs
  due : T.fn 82 = some fn__law_due
  round : T.fn 83 = some fn__law_round
  vote : T.fn 84 = some fn__law_vote
  asks : T.fn 85 = some fn__law_asks
theorem ev_asks (h : HasAsks T) (hB : HasBox T) {a p : Nat} {rs : KV} {kind : Str} {num : Int} (ha : a ≤ 1000) (hr : RowsOk p rs) (hn : NoClash rs) (hs : (a + 1) ^ p ≤ 100000)
    (hd : ∀ x, x ∈ inputsL a p → ev T (n + 2) 82 [.str kind, .int a, .int num, ti x] = .ok (.int (valAt rs x))) :
    ev T (n + 3) 85 [boxD a p rs, .str kind, .int a, .int p, .int num] = .ok (.bl true) := by
  have s1 := same_int (n := n) h.same a
  have s2 := same_int (n := n) h.same p
  have hin := ev_inputs (n := n + 1) h.inp ha hr.pl hs
  have b0 : ∀ s5 : Sl, evE T (ev T (n + 2)) [.val (boxD a p rs), .val (.str kind), .val (.int a), .val (.int p), .val (.int num), s5] (.att (.var 0) "answers") = .ok (.int a) := fun s5 => by
    simp [boxD, hB.cls, fD0]
  have b1 : ∀ s5 : Sl, evE T (ev T (n + 2)) [.val (boxD a p rs), .val (.str kind), .val (.int a), .val (.int p), .val (.int num), s5] (.att (.var 0) "places") = .ok (.int p) := fun s5 => by
    simp [boxD, hB.cls, fD1]
  obtain ⟨key, _⟩ := evS_fold (T := T) (cf := ev T (n + 2)) (t := .one 5) (src := .seq (.call 46 [(.var 2), (.var 3)])) (b := [.ifs (.not (.call 8 [(.cal "__call__" (.var 0) [(.var 5)]), (.call 82 [(.var 1), (.var 2), (.var 4), (.var 5)])])) [.ret (.bl false)] []]) (e := ti)
    (env := fun s : Sl => [.val (boxD a p rs), .val (.str kind), .val (.int a), .val (.int p), .val (.int num), s]) (f := fun _ x => .val (ti x)) (xs := inputsL a p) (s := .no) (fun _ _ => True)
    (by simp [hin]) (by simp [srcVar, lkr, lkb, lks, lkbL, lksL, anyOwn]) trivial
    (fun i s x hx _ => by
      have hm := List.mem_of_getElem? hx
      have hi := inputsL_inp a p x hm
      have hv := ev_call (n := n) hB hr hi.len (a := a)
      rw [valAt_least hr.wide hn] at hv
      have hd := hd x hm
      have hs := same_int (n := n) h.same (valAt rs x)
      have hcal : evE T (ev T (n + 2)) [.val (boxD a p rs), .val (.str kind), .val (.int a), .val (.int p), .val (.int num), .val (ti x)] (.cal "__call__" (.var 0) [(.var 5)]) = .ok (.int (valAt rs x)) := by
        rw [evE_cal (c := cBox) (fs := [.int a, .int p, trs (leastS rs), ti (kindsOf a rs)]) (ds := [ti x]) (f := 88) (by simp [boxD]) (by simp) hB.cls hB.mcall]
        exact hv
      refine ⟨_, rfl, .inl ?_⟩
      refine step (same_ns ?_) (evSs_nil (T := T))
      simp only [List.set_cons_succ, List.set_cons_zero]
      simp only [evE_call, evEs_cons, evEs_nil, evE_var, List.getElem?_cons_zero, List.getElem?_cons_succ, ok_bind, hcal, hd, hs])
    (fun _ _ _ _ _ => trivial)
  refine ev_of (own := false) (ρ := [.val (boxD a p rs), .val (.str kind), .val (.int a), .val (.int p), .val (.int num), .no]) h.asks rfl (by simp [startE, fn__law_asks]) (by simp only [fn__law_asks]; rfl) rfl ?_
  refine step (skipE ?_) (step key ?_)
  · rw [evE_or, evE_not, evE_call]
    simp only [evEs_cons, evEs_nil, b0, b1, evE_not, evE_call, evE_var, List.getElem?_cons_zero, List.getElem?_cons_succ, ok_bind, s1, s2, truth_bl, Bool.not_true, orE_f]
  · simp [isRoot, isOwn]
end
end Ev

set_option linter.all false
set_option autoImplicit false
set_option maxRecDepth 10000
/-! Plain laws: what the laws about boxes share: _law_agree, _law_value, _law_rows. -/
namespace Ev
open PySem
def fn__law_agree : Fn := { np := 2, nl := 3, fr := false, body := [.fors (.one 2) (.rng [(.bi .len [(.var 0)])]) [.ifs (.and (.cmp .ne (.idx (.var 0) (.var 2)) (.int 0)) (.and (.cmp .ne (.idx (.var 1) (.var 2)) (.int 0)) (.cmp .ne (.idx (.var 0) (.var 2)) (.idx (.var 1) (.var 2))))) [.ret (.bl false)] []], .ret (.bl true)] }
def fn__law_value : Fn := { np := 2, nl := 3, fr := false, body := [.fors (.one 2) (.seq (.var 0)) [.ifs (.call 47 [(.idx (.var 2) (.int 0)), (.var 1)]) [.ret (.idx (.var 2) (.int 1))] []], .ret (.int 0)] }
def fn__law_rows : Fn := { np := 3, nl := 11, fr := true, body := [.asg 3 (.lst []), .fors (.one 4) (.rng [(.idx (.lst [(.int 3), (.int 2), (.int 4), (.int 5), (.int 1), (.int 6), (.int 0)]) (.bin .mod (.bi .int [(.idx (.var 2) (.int 0))]) (.int 7)))]) [.asg 5 (.slc (.var 2) (some (.bin .add (.int 1) (.bin .mul (.var 4) (.bin .add (.var 1) (.int 1))))) (some (.bin .add (.int 1) (.bin .mul (.bin .add (.var 4) (.int 1)) (.bin .add (.var 1) (.int 1)))))), .asg 6 (.bi .tuple [(.comp (.bin .mod (.idx (.lst [(.int 0), (.int 1), (.int 2), (.int 1), (.int 2), (.int 3), (.int 0), (.int 1), (.int 2), (.int 0)]) (.bin .mod (.bi .int [(.idx (.var 5) (.var 10))]) (.int 10))) (.bin .add (.var 0) (.int 1))) 10 (.rng [(.var 1)]) none)]), .asg 7 (.idx (.lst [(.int 1), (.int 2), (.int 1), (.int 1), (.int 2), (.int 3), (.int 1), (.int 2), (.int 1), (.int 2), (.int 3), (.int 1)]) (.bin .mod (.bi .int [(.idx (.var 5) (.var 1))]) (.int 12))), .ifs (.cmp .gt (.var 7) (.var 0)) [.asg 7 (.int 1)] [], .asg 8 (.comp (.var 9) 9 (.seq (.var 3)) (some (.and (.call 48 [(.idx (.var 9) (.int 0)), (.var 6)]) (.cmp .ne (.idx (.var 9) (.int 1)) (.var 7))))), .ifs (.and (.cmp .eq (.bi .len [(.var 8)]) (.int 0)) (.and (.cmp .notin (.tup [(.var 6), (.var 7)]) (.var 3)) (.or (.cmp .eq (.var 1) (.int 0)) (.cmp .ne (.var 6) (.bi .tuple [(.bin .mul (.lst [(.int 0)]) (.var 1))]))))) [.app 3 (.tup [(.var 6), (.var 7)])] []], .ret (.var 3)] }
/-- rows of a box over the inputs -/
structure Mono (a p : Nat) (rs : KV) : Prop where
  inp : ∀ r ∈ rs, Inp a p r.1
  ans : ∀ r ∈ rs, 1 ≤ r.2 ∧ r.2 ≤ a
  nc : ∀ r ∈ rs, ∀ s ∈ rs, r.2 ≠ s.2 → agrees r.1 s.1 = false
theorem Mono.wide {a p : Nat} {rs : KV} (h : Mono a p rs) : ∀ r ∈ rs, r.1.length = p := fun r hr => (h.inp r hr).len
theorem Mono.clash {a p : Nat} {rs : KV} (h : Mono a p rs) : NoClash rs := .of h.nc
theorem Mono.ok {a p : Nat} {rs : KV} (h : Mono a p rs) (hl : rs.length ≤ 10000) (hp : p ≤ 1000) : RowsOk p rs := ⟨hl, h.wide, hp⟩
theorem Mono.sub {a p : Nat} {rs qs : KV} (h : Mono a p rs) (hs : ∀ q ∈ qs, q ∈ rs) : Mono a p qs := ⟨fun r hr => h.inp r (hs r hr), fun r hr => h.ans r (hs r hr), fun r hr s hs' => h.nc r (hs r hr) s (hs s hs')⟩
theorem Mono.nil {a p : Nat} : Mono a p [] := ⟨by simp, by simp, by simp⟩
theorem Mono.add {a p : Nat} {rs : KV} (h : Mono a p rs) {r : List Int × Int} (hi : Inp a p r.1) (ha : 1 ≤ r.2 ∧ r.2 ≤ a) (hn : ∀ s ∈ rs, s.2 ≠ r.2 → agrees s.1 r.1 = false) : Mono a p (rs ++ [r]) := by
  refine ⟨fun s hs => ?_, fun s hs => ?_, fun s hs t ht hne => ?_⟩
  · rcases List.mem_append.mp hs with hs | hs
    · exact h.inp s hs
    · rw [List.mem_singleton.mp hs]; exact hi
  · rcases List.mem_append.mp hs with hs | hs
    · exact h.ans s hs
    · rw [List.mem_singleton.mp hs]; exact ha
  · rcases List.mem_append.mp hs with hs | hs <;> rcases List.mem_append.mp ht with ht | ht
    · exact h.nc s hs t ht hne
    · rw [List.mem_singleton.mp ht] at hne ⊢; exact hn s hs hne
    · rw [List.mem_singleton.mp hs] at hne ⊢
      rw [agrees_symm (by rw [hi.len, (h.inp t ht).len])]
      exact hn t ht (Ne.symm hne)
    · rw [List.mem_singleton.mp hs, List.mem_singleton.mp ht] at hne; exact absurd rfl hne
theorem enc_tr : Enc tr := ⟨fun r => by
  simp only [tr, clean, cleans, Bool.and_eq_true, ti]
  exact ⟨cleans_map fun b _ => rfl, trivial, trivial⟩, fun r s h => by
  simp only [tr, D.tup.injEq, List.cons.injEq, D.int.injEq, and_true] at h
  exact Prod.ext (map_inj enc_int.inj h.1) h.2⟩
theorem cmp_notin_tr {r : List Int × Int} {rs : KV} : cmpD .notin (tr r) (.lst (rs.map tr)) = .ok (!decide (r ∈ rs)) := by
  have := inD_enc enc_tr r rs
  simp only [cmpD, hasD, this, Ev.R.bind]
  by_cases h : r ∈ rs <;> simp [h]
theorem at0_get {L : List Int} {i : Nat} (h : i < L.length) : L[i]? = some (at0 L i) := by
  unfold at0; rw [List.getElem?_eq_getElem h]; rfl
/-- a whole number in a list of constants -/
theorem ix_const {L : List Int} {i : Int} {m : Int} (hm : m = L.length) (h0 : 0 < m) : ∃ v, v ∈ L ∧ idxD (li L) (.int (i % m)) = .ok (.int v) := by
  have h1 := Int.emod_nonneg i (show m ≠ 0 by omega)
  have h2 := Int.emod_lt_of_pos i h0
  have hl : (i % m).toNat < L.length := by omega
  refine ⟨L[(i % m).toNat], List.getElem_mem hl, ?_⟩
  have := ix_li (ds := L) (i := (i % m).toNat) (d := L[(i % m).toNat]) (List.getElem?_eq_getElem hl)
  rw [Int.toNat_of_nonneg h1] at this
  exact this
theorem slc_li {ds : List Int} {i j : Nat} (h : i ≤ j) (hj : j ≤ ds.length) : slcD (li ds) (some (i : Int)) (some (j : Int)) = .ok (li ((ds.drop i).take (j - i))) := by
  have h1 : HT.sIx ds.length 0 (some (i : Int)) = i := by rw [HT.sIx_nat]; omega
  have h2 : HT.sIx ds.length ds.length (some (j : Int)) = j := by rw [HT.sIx_nat]; omega
  simp only [slcD, cut, List.length_map, h1, h2]
  rw [← List.map_drop, ← List.map_take]
theorem mul_l1 {v : Int} {p : Nat} (h : p ≤ 1000) : binD .mul (.lst [.int v]) (.int p) = .ok (li (List.replicate p v)) := by
  have h1 : -(2 ^ 63) ≤ (p : Int) ∧ (p : Int) < 2 ^ 63 ∧ [D.int v].length * (p : Int).toNat ≤ lineSz := ⟨by omega, by omega, by simp; unfold lineSz; omega⟩
  simp only [binD, if_pos h1]
  rw [Int.toNat_natCast]
  have : ∀ p : Nat, (List.replicate p [D.int v]).flatten = (List.replicate p v).map D.int := by
    intro p
    induction p with
    | zero => rfl
    | succ p ih => rw [List.replicate_succ, List.flatten_cons, ih]; rfl
  rw [this]
section
variable {T : Tab} {n : Nat}
structure HasLV (T : Tab) : Prop where
  below : T.fn 47 = some fn_is_below
  agree : T.fn 48 = some fn__law_agree
  value : T.fn 49 = some fn__law_value
theorem ev_lagree (h : T.fn 48 = some fn__law_agree) {x y : List Int} (hxy : x.length ≤ y.length) (hl : x.length ≤ lineSz) : ev T (n + 1) 48 [ti x, ti y] = .ok (.bl (agrees x y)) := by
  have hloop := evS_for (T := T) (cf := ev T n) (t := .one 2) (src := .rng [(.bi .len [(.var 0)])]) (b := [.ifs (.and (.cmp .ne (.idx (.var 0) (.var 2)) (.int 0)) (.and (.cmp .ne (.idx (.var 1) (.var 2)) (.int 0)) (.cmp .ne (.idx (.var 0) (.var 2)) (.idx (.var 1) (.var 2))))) [.ret (.bl false)] []]) (e := fun k : Nat => .int (k : Int)) (env := fun s : Sl => [.val (ti x), .val (ti y), s])
    (step := fun _ k => if agreeAt x y k then .nx (.val (.int (k : Int))) else .ret (.bl false) false) (xs := List.range x.length) (s := .no) (fun _ _ => True)
    (by
      have r := range1 hl
      simp [r]) (by simp [srcVar, lkr, anyOwn]) trivial
    (fun i s k hk _ => by
      obtain ⟨hi, hk⟩ := List.getElem?_eq_some_iff.mp hk
      rw [List.length_range] at hi
      rw [List.getElem_range] at hk
      subst hk
      refine ⟨_, rfl, .inl ?_⟩
      have i1 := ix_ti (x := x) hi
      have i2 := ix_ti (x := y) (i := i) (by omega)
      simp only [agreeAt]
      by_cases h1 : at0 x i = 0
      · simp [i1, i2, h1, St.fl]
      · by_cases h3 : at0 y i = 0
        · simp [i1, i2, h1, h3, St.fl]
        · by_cases h2 : at0 x i = at0 y i
          · rw [h2] at h1 i1
            simp [i1, i2, h1, h2, h3, St.fl]
          · simp [i1, i2, h1, h2, h3, St.fl, isRoot, isOwn])
    (fun _ _ _ _ _ _ _ => trivial)
  obtain ⟨ha, hb⟩ := loopS_all (step := fun (_ : Sl) k => if agreeAt x y k then St.nx (Sl.val (.int (k : Int))) else .ret (.bl false) false) (p := agreeAt x y) (f := fun k : Nat => Sl.val (.int (k : Int))) (d := .bl false) (o := false) (xs := List.range x.length) (s := .no) (fun s k _ => rfl)
  refine ev_of (own := false) (ρ := [.val (ti x), .val (ti y), .no]) h rfl (by simp [startE, fn__law_agree]) (by simp only [fn__law_agree]; rfl) rfl ?_
  rw [evSs_cons, hloop]
  cases hz : agrees x y with
  | true =>
    obtain ⟨s', e⟩ := ha hz
    rw [e]
    simp [St.fl, isRoot, isOwn]
  | false =>
    rw [hb hz]
    simp [St.fl]
theorem ev_lvalue (h : HasLV T) {rs : KV} {RD : D} (hs : seqOf RD = some (rs.map tr)) {x : List Int} (hw : ∀ r ∈ rs, r.1.length ≤ x.length) (hx : x.length ≤ lineSz) : ev T (n + 2) 49 [RD, ti x] = .ok (.int (valAt rs x)) := by
  have hloop := evS_for (T := T) (cf := ev T (n + 1)) (t := .one 2) (src := .seq (.var 0)) (b := [.ifs (.call 47 [(.idx (.var 2) (.int 0)), (.var 1)]) [.ret (.idx (.var 2) (.int 1))] []]) (e := tr) (env := fun s : Sl => [.val RD, .val (ti x), s])
    (step := fun _ r => if below r.1 x then .ret (.int r.2) false else .nx (.val (tr r))) (xs := rs) (s := .no) (fun _ _ => True)
    (by simp [hs]) (by simp [srcVar, mutSs, mutS]) trivial
    (fun i s r hi _ => by
      have w := hw r (List.mem_of_getElem? hi)
      have hb := ev_below_at (n := n) h.below (x := r.1) (y := x) w (by omega)
      refine ⟨_, rfl, .inl ?_⟩
      by_cases hz : below r.1 x = true
      · rw [hz] at hb; simp [hb, hz, St.fl, isRoot, isOwn]
      · have hz : below r.1 x = false := by simpa using hz
        rw [hz] at hb; simp [hb, hz, St.fl])
    (fun _ _ _ _ _ _ _ => trivial)
  have hf := loopS_find (step := fun (_ : Sl) (r : List Int × Int) => if below r.1 x then St.ret (.int r.2) false else .nx (Sl.val (tr r))) (p := fun r => below r.1 x) (g := fun r => Sl.val (tr r)) (d := fun r => .int r.2) (fun s r => rfl) (xs := rs) (s := .no)
  refine ev_of (own := false) (ρ := [.val RD, .val (ti x), .no]) h.value rfl (by simp [startE, fn__law_value]) (by simp only [fn__law_value]; rfl) rfl ?_
  rw [evSs_cons, hloop]
  unfold valAt
  cases hz : rs.find? (fun r => below r.1 x) with
  | none =>
    obtain ⟨s', e⟩ := hf.2 hz
    rw [e]
    simp [St.fl, isRoot, isOwn]
  | some r =>
    rw [hf.1 r hz]
    simp [St.fl]
/-- the rows that a loop adds to: digits of one row -/
theorem ev_lrows (h : HasLV T) (hf : T.fn 51 = some fn__law_rows) {a p : Nat} (ha : 1 ≤ a) (hp : p ≤ 100) {ds : List Int} (hd : ds.length = 1 + 6 * (p + 1)) : ∃ rs : KV, ev T (n + 2) 51 [.int a, .int p, li ds] = .ok (.lst (rs.map tr)) ∧ Mono a p rs ∧ rs.length ≤ 6 := by
  obtain ⟨cnt, hcm, hci⟩ := ix_const (L := [3, 2, 4, 5, 1, 6, 0]) (i := at0 ds 0) (m := 7) rfl (by omega)
  have i0 : idxD (li ds) (.int 0) = .ok (.int (at0 ds 0)) := by
    have h0 : 0 < ds.length := by omega
    have := ix_li (ds := ds) (i := 0) (d := at0 ds 0) (by unfold at0; rw [List.getElem?_eq_getElem h0]; rfl)
    exact this
  obtain ⟨c, rfl⟩ : ∃ c : Nat, cnt = c := ⟨cnt.toNat, by simp at hcm; omega⟩
  have hc6 : c ≤ 6 := by simp at hcm; omega
  obtain ⟨s', hl, hm, hlen⟩ := evS_inv (T := T) (cf := ev T (n + 1)) (t := .one 4) (src := .rng [(.idx (.lst [(.int 3), (.int 2), (.int 4), (.int 5), (.int 1), (.int 6), (.int 0)]) (.bin .mod (.bi .int [(.idx (.var 2) (.int 0))]) (.int 7)))]) (b := [.asg 5 (.slc (.var 2) (some (.bin .add (.int 1) (.bin .mul (.var 4) (.bin .add (.var 1) (.int 1))))) (some (.bin .add (.int 1) (.bin .mul (.bin .add (.var 4) (.int 1)) (.bin .add (.var 1) (.int 1)))))), .asg 6 (.bi .tuple [(.comp (.bin .mod (.idx (.lst [(.int 0), (.int 1), (.int 2), (.int 1), (.int 2), (.int 3), (.int 0), (.int 1), (.int 2), (.int 0)]) (.bin .mod (.bi .int [(.idx (.var 5) (.var 10))]) (.int 10))) (.bin .add (.var 0) (.int 1))) 10 (.rng [(.var 1)]) none)]), .asg 7 (.idx (.lst [(.int 1), (.int 2), (.int 1), (.int 1), (.int 2), (.int 3), (.int 1), (.int 2), (.int 1), (.int 2), (.int 3), (.int 1)]) (.bin .mod (.bi .int [(.idx (.var 5) (.var 1))]) (.int 12))), .ifs (.cmp .gt (.var 7) (.var 0)) [.asg 7 (.int 1)] [], .asg 8 (.comp (.var 9) 9 (.seq (.var 3)) (some (.and (.call 48 [(.idx (.var 9) (.int 0)), (.var 6)]) (.cmp .ne (.idx (.var 9) (.int 1)) (.var 7))))), .ifs (.and (.cmp .eq (.bi .len [(.var 8)]) (.int 0)) (.and (.cmp .notin (.tup [(.var 6), (.var 7)]) (.var 3)) (.or (.cmp .eq (.var 1) (.int 0)) (.cmp .ne (.var 6) (.bi .tuple [(.bin .mul (.lst [(.int 0)]) (.var 1))]))))) [.app 3 (.tup [(.var 6), (.var 7)])] []])
    (e := fun k : Nat => .int (k : Int)) (xs := List.range c) (env := fun s : KV × Sl × Sl × Sl × Sl × Sl => [.val (.int a), .val (.int p), .val (li ds), .own (.lst (s.1.map tr)), s.2.1, s.2.2.1, s.2.2.2.1, s.2.2.2.2.1, s.2.2.2.2.2, .no, .no]) (s := ([], .no, .no, .no, .no, .no)) (fun k s => Mono a p s.1 ∧ s.1.length ≤ k)
    (by
      have r := range1s (a := c) (by omega)
      have hci' : idxD (.lst [.int 3, .int 2, .int 4, .int 5, .int 1, .int 6, .int 0]) (.int (at0 ds 0 % 7)) = .ok (.int (c : Int)) := hci
      simp only [evSrc_rng, evEs_cons, evEs_nil, evE_idx, evE_lst, evE_int, evE_bin, evE_bi, evE_var, List.getElem?_cons_zero, List.getElem?_cons_succ, ok_bind, i0, bi_int, bin_mod (show (0 : Int) < 7 by decide), hci', r, ofO_some]) (by simp [srcVar, lkr, lkb, lkbL, anyOwn]) ⟨.nil, Nat.le_refl _⟩
    (fun i s k hk hP => by
      obtain ⟨hic, rfl⟩ := range_at hk
      obtain ⟨hm, hsl⟩ := hP
      obtain ⟨rs, s4, s5, s6, s7, s8⟩ := s
      simp only at hm hsl
      have hlo : 1 + k * (p + 1) ≤ 1 + (k + 1) * (p + 1) := by
        have : k * (p + 1) ≤ (k + 1) * (p + 1) := Nat.mul_le_mul_right _ (by omega)
        omega
      have hhi : 1 + (k + 1) * (p + 1) ≤ ds.length := by
        have : (k + 1) * (p + 1) ≤ 6 * (p + 1) := Nat.mul_le_mul_right _ (by omega)
        omega
      have hdif : 1 + (k + 1) * (p + 1) - (1 + k * (p + 1)) = p + 1 := by rw [Nat.succ_mul]; omega
      have hsl2 := slc_li (ds := ds) hlo hhi
      rw [hdif] at hsl2
      generalize hpart : (ds.drop (1 + k * (p + 1))).take (p + 1) = part at hsl2
      have hpl : part.length = p + 1 := by
        rw [← hpart, List.length_take, List.length_drop]
        have : (k + 1) * (p + 1) = k * (p + 1) + (p + 1) := Nat.succ_mul _ _
        omega
      have e1 : (1 : Int) + (k : Int) * ((p : Int) + 1) = ((1 + k * (p + 1) : Nat) : Int) := by simp
      have e2 : (1 : Int) + ((k : Int) + 1) * ((p : Int) + 1) = ((1 + (k + 1) * (p + 1) : Nat) : Int) := by simp
      have ixp : ∀ j : Nat, j < p + 1 → idxD (li part) (.int (j : Int)) = .ok (.int (at0 part j)) := fun j hj => ix_li (at0_get (by omega))
      have m1 : binD .mul (.int (k : Int)) (.int ((p : Int) + 1)) = .ok (.int ((k : Int) * ((p : Int) + 1))) := bin_mul (.inr (by omega))
      have m2 : binD .mul (.int ((k : Int) + 1)) (.int ((p : Int) + 1)) = .ok (.int (((k : Int) + 1) * ((p : Int) + 1))) := bin_mul (.inr (by omega))
      -- the input
      let L10 : List Int := [0, 1, 2, 1, 2, 3, 0, 1, 2, 0]
      let xv : Nat → Int := fun j => (at0 L10 (at0 part j % 10).toNat) % ((a : Int) + 1)
      have hx10 : ∀ j : Nat, idxD (li L10) (.int (at0 part j % 10)) = .ok (.int (at0 L10 (at0 part j % 10).toNat)) := fun j => by
        have h1 := Int.emod_nonneg (at0 part j) (show (10 : Int) ≠ 0 by decide)
        have h2 := Int.emod_lt_of_pos (at0 part j) (show (0 : Int) < 10 by decide)
        have hlt : (at0 part j % 10).toNat < L10.length := by show _ < 10; omega
        have := ix_li (ds := L10) (i := (at0 part j % 10).toNat) (d := at0 L10 (at0 part j % 10).toNat) (at0_get hlt)
        rw [Int.toNat_of_nonneg h1] at this
        exact this
      let x : List Int := (List.range p).map xv
      have hxi : Inp a p x := ⟨by simp [x], fun e he => by
        obtain ⟨j, _, rfl⟩ := List.mem_map.mp he
        have h1 := Int.emod_nonneg (at0 L10 (at0 part j % 10).toNat) (show (a : Int) + 1 ≠ 0 by omega)
        have h2 := Int.emod_lt_of_pos (at0 L10 (at0 part j % 10).toNat) (show (0 : Int) < (a : Int) + 1 by omega)
        show 0 ≤ xv j ∧ xv j ≤ a
        simp only [xv]; omega⟩
      have hcx := comp_map (T := T) (cf := ev T (n + 1)) (ρ := [.val (.int a), .val (.int p), .val (li ds), .own (.lst (rs.map tr)), .val (.int (k : Int)), .own (li part), s6, s7, s8, .no, .no]) (elt := .bin .mod (.idx (.lst [(.int 0), (.int 1), (.int 2), (.int 1), (.int 2), (.int 3), (.int 0), (.int 1), (.int 2), (.int 0)]) (.bin .mod (.bi .int [(.idx (.var 5) (.var 10))]) (.int 10))) (.bin .add (.var 0) (.int 1))) (x := 10) (src := .rng [(.var 1)]) (e := fun j : Nat => .int (j : Int)) (g := fun j => .int (xv j)) (xs := List.range p)
        (by simp [range1s (a := p) (by omega)]) (by simp [anyOwn, lkr, lkb, lks]) (by rw [List.length_range]; unfold lineSz; omega)
        (fun j hj => by
          have hj := List.mem_range.mp hj
          have hx' : idxD (.lst [.int 0, .int 1, .int 2, .int 1, .int 2, .int 3, .int 0, .int 1, .int 2, .int 0]) (.int (at0 part j % 10)) = _ := hx10 j
          simp only [List.set_cons_succ, List.set_cons_zero, evE_bin, evE_idx, evE_lst, evEs_cons, evEs_nil, evE_int, evE_bi, evE_var, List.getElem?_cons_zero, List.getElem?_cons_succ, ok_bind, ixp j (by omega), bi_int, bin_mod (show (0 : Int) < 10 by decide), hx', bin_add, bin_mod (show (0 : Int) < (a : Int) + 1 by omega)]
          rfl)
      have ex : (List.range p).map (fun j => D.int (xv j)) = x.map D.int := by simp [x, List.map_map, Function.comp_def]
      rw [ex] at hcx
      -- the answer
      obtain ⟨v, hv, ixv⟩ := ix_const (L := [1, 2, 1, 1, 2, 3, 1, 2, 1, 2, 3, 1]) (i := at0 part p) (m := 12) rfl (by omega)
      have ixv' : idxD (.lst [.int 1, .int 2, .int 1, .int 1, .int 2, .int 3, .int 1, .int 2, .int 1, .int 2, .int 3, .int 1]) (.int (at0 part p % 12)) = .ok (.int v) := ixv
      have hv1 : 1 ≤ v := by simp at hv; omega
      generalize hw : (if (a : Int) < v then 1 else v) = w
      have hw1 : 1 ≤ w ∧ w ≤ a := by rw [← hw]; split <;> omega
      let cl : List Int × Int → Bool := fun o => agrees o.1 x && !decide (o.2 = w)
      have hcc := comp_if (T := T) (cf := ev T (n + 1)) (ρ := [.val (.int a), .val (.int p), .val (li ds), .own (.lst (rs.map tr)), .val (.int (k : Int)), .own (li part), .val (ti x), .val (.int w), s8, .no, .no]) (elt := .var 9) (c := .and (.call 48 [(.idx (.var 9) (.int 0)), (.var 6)]) (.cmp .ne (.idx (.var 9) (.int 1)) (.var 7))) (x := 9) (src := .seq (.var 3)) (e := tr) (p := cl) (g := tr) (xs := rs)
        (by simp) (by simp [anyOwn, lkr, lkb, lks]) (by unfold lineSz; omega)
        (fun o ho => by
          have hol := (hm.inp o ho).len
          have hag := ev_lagree (n := n) h.agree (x := o.1) (y := x) (by rw [hol, hxi.len]; exact Nat.le_refl _) (by rw [hol]; unfold lineSz; omega)
          simp only [List.set_cons_succ, List.set_cons_zero, evE_and, evE_call, evEs_cons, evEs_nil, evE_idx, evE_var, evE_int, List.getElem?_cons_zero, List.getElem?_cons_succ, ok_bind, ix_tr0, hag]
          exact andE_b (by simp only [evE_cmp, evE_idx, evE_var, evE_int, List.getElem?_cons_zero, List.getElem?_cons_succ, ok_bind, ix_tr1, cmp_neI])) (fun o _ _ => by simp)
      have hnb : ∀ ρ : Env, kept (.lst []) (.lst []) ρ = ρ := fun ρ => by simp [kept, lks, lksL, anyOwn]
      have pre : ∀ {z : R Fl}, evSs T (ev T (n + 1)) [.ifs (.and (.cmp .eq (.bi .len [(.var 8)]) (.int 0)) (.and (.cmp .notin (.tup [(.var 6), (.var 7)]) (.var 3)) (.or (.cmp .eq (.var 1) (.int 0)) (.cmp .ne (.var 6) (.bi .tuple [(.bin .mul (.lst [(.int 0)]) (.var 1))]))))) [.app 3 (.tup [(.var 6), (.var 7)])] []] [.val (.int a), .val (.int p), .val (li ds), .own (.lst (rs.map tr)), .val (.int (k : Int)), .own (li part), .val (ti x), .val (.int w), .own (.lst ((rs.filter cl).map tr)), .no, .no] = z →
          evSs T (ev T (n + 1)) [.asg 5 (.slc (.var 2) (some (.bin .add (.int 1) (.bin .mul (.var 4) (.bin .add (.var 1) (.int 1))))) (some (.bin .add (.int 1) (.bin .mul (.bin .add (.var 4) (.int 1)) (.bin .add (.var 1) (.int 1)))))), .asg 6 (.bi .tuple [(.comp (.bin .mod (.idx (.lst [(.int 0), (.int 1), (.int 2), (.int 1), (.int 2), (.int 3), (.int 0), (.int 1), (.int 2), (.int 0)]) (.bin .mod (.bi .int [(.idx (.var 5) (.var 10))]) (.int 10))) (.bin .add (.var 0) (.int 1))) 10 (.rng [(.var 1)]) none)]), .asg 7 (.idx (.lst [(.int 1), (.int 2), (.int 1), (.int 1), (.int 2), (.int 3), (.int 1), (.int 2), (.int 1), (.int 2), (.int 3), (.int 1)]) (.bin .mod (.bi .int [(.idx (.var 5) (.var 1))]) (.int 12))), .ifs (.cmp .gt (.var 7) (.var 0)) [.asg 7 (.int 1)] [], .asg 8 (.comp (.var 9) 9 (.seq (.var 3)) (some (.and (.call 48 [(.idx (.var 9) (.int 0)), (.var 6)]) (.cmp .ne (.idx (.var 9) (.int 1)) (.var 7))))), .ifs (.and (.cmp .eq (.bi .len [(.var 8)]) (.int 0)) (.and (.cmp .notin (.tup [(.var 6), (.var 7)]) (.var 3)) (.or (.cmp .eq (.var 1) (.int 0)) (.cmp .ne (.var 6) (.bi .tuple [(.bin .mul (.lst [(.int 0)]) (.var 1))]))))) [.app 3 (.tup [(.var 6), (.var 7)])] []] [.val (.int a), .val (.int p), .val (li ds), .own (.lst (rs.map tr)), .val (.int (k : Int)), s5, s6, s7, s8, .no, .no] = z := fun {z} hz => by
        refine step (ρ' := [.val (.int a), .val (.int p), .val (li ds), .own (.lst (rs.map tr)), .val (.int (k : Int)), .own (li part), s6, s7, s8, .no, .no]) (by
          have q : slcD (li ds) (some ((1 : Int) + (k : Int) * ((p : Int) + 1))) (some ((1 : Int) + ((k : Int) + 1) * ((p : Int) + 1))) = .ok (li part) := by rw [e1, e2]; exact hsl2
          simp only [evS_asg, evE_slc, evO_some, evE_bin, evE_int, evE_var, List.getElem?_cons_zero, List.getElem?_cons_succ, ok_bind, bin_add, m1, m2, q, asgS_ok]
          rw [bind_new (by simp [lks, lkb, anyOwn]) (by simp [fresh])]
          rfl) ?_
        refine step (ρ' := [.val (.int a), .val (.int p), .val (li ds), .own (.lst (rs.map tr)), .val (.int (k : Int)), .own (li part), .val (ti x), s7, s8, .no, .no]) (by
          rw [evS_asg, evE_bi, evEs_cons, hcx, evEs_nil, ok_bind, ok_bind, ok_bind, bi_tupL, asgS_ok]
          rw [show D.tup (x.map D.int) = ti x from rfl, bind_ti]
          rfl) ?_
        refine step (ρ' := [.val (.int a), .val (.int p), .val (li ds), .own (.lst (rs.map tr)), .val (.int (k : Int)), .own (li part), .val (ti x), .val (.int v), s8, .no, .no]) (by
          simp only [evS_asg, evE_idx, evE_lst, evEs_cons, evEs_nil, evE_bin, evE_bi, evE_int, evE_var, List.getElem?_cons_zero, List.getElem?_cons_succ, ok_bind, ixp p (by omega), bi_int, bin_mod (show (0 : Int) < 12 by decide), ixv', asgS_ok, bind_int]
          rfl) ?_
        refine step (ρ' := [.val (.int a), .val (.int p), .val (li ds), .own (.lst (rs.map tr)), .val (.int (k : Int)), .own (li part), .val (ti x), .val (.int w), s8, .no, .no]) (by
          rw [← hw]
          by_cases hav : (a : Int) < v
          · rw [if_pos hav]; simp [hav]
          · rw [if_neg hav]; simp [hav]) ?_
        refine step (ρ' := [.val (.int a), .val (.int p), .val (li ds), .own (.lst (rs.map tr)), .val (.int (k : Int)), .own (li part), .val (ti x), .val (.int w), .own (.lst ((rs.filter cl).map tr)), .no, .no]) (by
          rw [evS_asg, hcc, asgS_ok, bind_new (by simp [lks, lkb, anyOwn]) (by simp [fresh])]
          rfl) ?_
        exact hz
      have hcond : evE T (ev T (n + 1)) [.val (.int a), .val (.int p), .val (li ds), .own (.lst (rs.map tr)), .val (.int (k : Int)), .own (li part), .val (ti x), .val (.int w), .own (.lst ((rs.filter cl).map tr)), .no, .no] (.and (.cmp .eq (.bi .len [(.var 8)]) (.int 0)) (.and (.cmp .notin (.tup [(.var 6), (.var 7)]) (.var 3)) (.or (.cmp .eq (.var 1) (.int 0)) (.cmp .ne (.var 6) (.bi .tuple [(.bin .mul (.lst [(.int 0)]) (.var 1))])))))
          = .ok (.bl (decide (((rs.filter cl).length : Int) = 0) && (!decide ((x, w) ∈ rs) && (decide ((p : Int) = 0) || !decide (x = List.replicate p 0))))) := by
        have hin : cmpD .notin (.tup [ti x, .int w]) (.lst (rs.map tr)) = .ok (!decide ((x, w) ∈ rs)) := by
          exact cmp_notin_tr (r := (x, w))
        rw [evE_and]
        simp only [evE_cmp, evE_bi, evEs_cons, evEs_nil, evE_var, evE_int, List.getElem?_cons_zero, List.getElem?_cons_succ, ok_bind, bi_lenL, List.length_map, cmp_eqI]
        refine andE_b ?_
        rw [evE_and]
        simp only [evE_cmp, evE_tup, evEs_cons, evEs_nil, evE_var, List.getElem?_cons_zero, List.getElem?_cons_succ, ok_bind, hin]
        refine andE_b ?_
        rw [evE_or]
        simp only [evE_cmp, evE_var, evE_int, List.getElem?_cons_zero, List.getElem?_cons_succ, ok_bind, cmp_eqI]
        refine orE_b ?_
        simp only [evE_cmp, evE_bi, evE_bin, evE_lst, evEs_cons, evEs_nil, evE_var, evE_int, List.getElem?_cons_zero, List.getElem?_cons_succ, ok_bind, mul_l1 (v := 0) (p := p) (by omega), bi_tupL, cmp_neT]
      -- the rows behind it
      by_cases hz : rs.filter cl = [] ∧ (x, w) ∉ rs ∧ (p = 0 ∨ x ≠ List.replicate p 0)
      · refine ⟨_, (rs ++ [(x, w)], .val (.int (k : Int)), .own (li part), .val (ti x), .val (.int w), .own (.lst [])), rfl, .inl (pre ?_), ?_, ?_⟩
        · have hc : (decide (((rs.filter cl).length : Int) = 0) && (!decide ((x, w) ∈ rs) && (decide ((p : Int) = 0) || !decide (x = List.replicate p 0)))) = true := by
            rw [hz.1]
            simp [hz.2.1]
            exact hz.2.2
          rw [hc] at hcond
          rw [evSs_cons, evS_ifs, hcond, ok_bind, truth_bl, ifS_t, evSs_cons]
          simp only [evS_app, evE_tup, evEs_cons, evEs_nil, evE_var, List.getElem?_cons_zero, List.getElem?_cons_succ, ok_bind]
          rw [app_pure (ds := rs.map tr) rfl (noMut_tr (r := (x, w))) (by rw [List.length_map]; unfold lineSz; omega), hz.1]
          simp
        · exact hm.add hxi hw1 fun o ho hne => by
            have := List.filter_eq_nil_iff.mp hz.1 o ho
            simpa [cl, hne] using this
        · show (rs ++ [(x, w)]).length ≤ k + 1
          simp; omega
      · refine ⟨_, (rs, .val (.int (k : Int)), .own (li part), .val (ti x), .val (.int w), .own (.lst ((rs.filter cl).map tr))), rfl, .inl (pre ?_), hm, ?_⟩
        · have hc : (decide (((rs.filter cl).length : Int) = 0) && (!decide ((x, w) ∈ rs) && (decide ((p : Int) = 0) || !decide (x = List.replicate p 0)))) = false := by
            rw [← Bool.not_eq_true]
            intro q
            refine hz ?_
            simp only [Bool.and_eq_true, Bool.or_eq_true, Bool.not_eq_true', decide_eq_true_iff, decide_eq_false_iff_not] at q
            refine ⟨List.length_eq_zero_iff.mp (by omega), q.2.1, ?_⟩
            rcases q.2.2 with q | q
            · left; omega
            · exact .inr q
          rw [hc] at hcond
          rw [evSs_cons, evS_ifs, hcond, ok_bind, truth_bl, ifS_f, evSs_nil]
          rfl
        · show rs.length ≤ k + 1
          omega)
  rw [List.length_range] at hlen
  obtain ⟨rs, s4, s5, s6, s7, s8⟩ := s'
  refine ⟨rs, ?_, hm, Nat.le_trans hlen hc6⟩
  rw [ev_eq hf rfl]
  have hs0 : startE fn__law_rows [.int a, .int p, li ds] = [.val (.int a), .val (.int p), .val (li ds), .no, .no, .no, .no, .no, .no, .no, .no] := rfl
  rw [hs0]
  have hbody : evSs T (ev T (n + 1)) fn__law_rows.body [.val (.int a), .val (.int p), .val (li ds), .no, .no, .no, .no, .no, .no, .no, .no] = .ok (.ret (.lst (rs.map tr)) true) := by
    simp only [fn__law_rows]
    refine step (ρ' := [.val (.int a), .val (.int p), .val (li ds), .own (.lst []), .no, .no, .no, .no, .no, .no, .no]) (by simp) ?_
    refine step hl ?_
    simp [isRoot, isOwn]
  rw [hbody]
  simp [fn__law_rows]
end
end Ev

set_option linter.all false
set_option autoImplicit false
set_option maxRecDepth 10000
/-! Plain laws: the order of tuples; a box is told by its values. -/
namespace Ev
open PySem
theorem toks_ints : ∀ (x y : List Int), PySem.W.keyToksAll (x.map PyData.int) = PySem.W.keyToksAll (y.map PyData.int) → x = y
  | [], [], _ => rfl
  | [], b :: y, h => by simp [PySem.W.keyToksAll] at h
  | a :: x, [], h => by simp [PySem.W.keyToksAll] at h
  | a :: x, b :: y, h => by
    simp only [List.map_cons, PySem.W.keyToksAll, PySem.W.keyToks, List.cons_append, List.nil_append, List.cons.injEq, Sum.inl.injEq, true_and] at h
    rw [h.1, toks_ints x y h.2]
theorem tiLe_trans (a b c : List Int) (h1 : tiLe a b = true) (h2 : tiLe b c = true) : tiLe a c = true := (PySem.W.sortLe_total (PyProof.Rows.listOrd PyProof.Rows.itemOrd) false (fun b => PySem.W.keyToks (pyD b))).trans (ti a) (ti b) (ti c) h1 h2
theorem tiLe_total (a b : List Int) : (tiLe a b || tiLe b a) = true := by
  rw [Bool.or_eq_true]
  exact (PySem.W.sortLe_total (PyProof.Rows.listOrd PyProof.Rows.itemOrd) false (fun b => PySem.W.keyToks (pyD b))).total (ti a) (ti b)
theorem tiLe_anti (a b : List Int) (h1 : tiLe a b = true) (h2 : tiLe b a = true) : a = b := by
  have e : ∀ q : List Int, PySem.W.keyToks (pyD (ti q)) = PySem.W.keyToksAll (q.map PyData.int) := fun q => by
    simp [pyD, ti, py, pys_ints, PySem.W.keyToks]
  have t := (PyProof.Rows.listOrd PyProof.Rows.itemOrd).total (PySem.W.keyToks (pyD (ti a))) (PySem.W.keyToks (pyD (ti b)))
    (by simpa [tiLe, PySem.W.dataLe, PySem.W.sortLe] using h2) (by simpa [tiLe, PySem.W.dataLe, PySem.W.sortLe] using h1)
  rw [e, e] at t
  exact toks_ints a b t
/-- lists with the same members, each once, are sorted to the same list -/
theorem sort_same {K L : List (List Int)} (hk : K.Nodup) (hl : L.Nodup) (h : ∀ q, q ∈ K ↔ q ∈ L) : K.mergeSort tiLe = L.mergeSort tiLe := by
  have p : K.Perm L := (List.perm_ext_iff_of_nodup hk hl).mpr h
  refine List.Perm.eq_of_pairwise (le := fun a b => tiLe a b = true) (fun a b _ _ h1 h2 => tiLe_anti a b h1 h2) (List.pairwise_mergeSort tiLe_trans tiLe_total K) (List.pairwise_mergeSort tiLe_trans tiLe_total L) ?_
  exact (List.mergeSort_perm K tiLe).trans (p.trans (List.mergeSort_perm L tiLe).symm)
theorem lowest_low {rs : KV} {q : List Int} (h : q ∈ keys (lowest rs)) : hasLow rs q = false := by
  have : ∀ (xs s : KV), (∀ q ∈ keys s, hasLow rs q = false) → ∀ q ∈ keys (xs.foldl (addL rs) s), hasLow rs q = false := by
    intro xs
    induction xs with
    | nil => exact fun s h => h
    | cons r xs ih =>
      intro s h
      rw [List.foldl_cons]
      refine ih _ fun q hq => ?_
      unfold addL at hq
      split at hq
      · exact h q hq
      · rename_i z
        simp only [keys, List.map_append, List.map_cons, List.map_nil] at hq
        rcases List.mem_append.mp hq with hq | hq
        · exact h q hq
        · rw [List.mem_singleton] at hq
          subst hq
          rw [← Bool.not_eq_true]
          exact fun w => z (.inr w)
  exact this rs [] (by simp [keys]) q h
theorem valAt_row {a p : Nat} {rs : KV} (h : Mono a p rs) {r : List Int × Int} (hr : r ∈ rs) {x : List Int} (hb : below r.1 x = true) : valAt rs x = r.2 := valAt_find hr hb fun s hs hsb => by
  refine Classical.byContradiction fun z => ?_
  have := h.nc s hs r hr z
  rw [agrees_of (by rw [h.wide s hs, h.wide r hr]) hsb hb] at this
  cases this
theorem valAt_ne {rs : KV} {x : List Int} (h : valAt rs x ≠ 0) : ∃ r ∈ rs, below r.1 x = true := by
  unfold valAt at h
  cases hf : rs.find? (fun r => below r.1 x) with
  | none => rw [hf] at h; exact absurd rfl h
  | some r =>
    have := List.find?_some hf
    exact ⟨r, List.mem_of_find?_eq_some hf, this⟩
/-- the least answered inputs, told by the values -/
theorem keys_least {a p : Nat} {rs : KV} (h : Mono a p rs) {q : List Int} : q ∈ keys (lowest rs) ↔ Inp a p q ∧ valAt rs q ≠ 0 ∧ ∀ y, Inp a p y → below y q = true → y ≠ q → valAt rs y = 0 := by
  constructor
  · intro hq
    obtain ⟨r, hr, rfl⟩ := List.mem_map.mp hq
    have hrr := (lowest_lw rs).1.mem r hr
    have hi := h.inp r hrr
    refine ⟨hi, ?_, fun y hy hb hne => ?_⟩
    · rw [valAt_row h hrr (below_refl _)]
      have := (h.ans r hrr).1
      omega
    · refine Classical.byContradiction fun z => ?_
      obtain ⟨s, hs, hsb⟩ := valAt_ne z
      have hsi := (h.inp s hs).len
      have n1 := nzs_lt (by rw [hy.len, hi.len]) hb hne
      have hne2 : s.1 ≠ r.1 := fun e => by
        rw [e] at hsb
        by_cases e2 : r.1 = y
        · exact hne e2.symm
        · have := nzs_lt (by rw [hy.len, hi.len]) hsb e2
          omega
      have hlow : hasLow rs r.1 = true := List.any_eq_true.mpr ⟨s, hs, by
        simp [lowAt, hne2, below_trans (by rw [hsi, hy.len]) hsb hb]⟩
      rw [lowest_low hq] at hlow; cases hlow
  · rintro ⟨hi, hv, hm⟩
    obtain ⟨r, hr, hb⟩ := valAt_ne hv
    obtain ⟨s, hs, h1⟩ := low_ex h.wide _ r hr (Nat.le_refl _)
    have hsr := leastS_sub hs
    have hb2 : below s.1 q = true := below_trans (by rw [h.wide s hsr, h.wide r hr]) h1 hb
    have hs1 := (mem_leastS.mp hs).1
    by_cases e : s.1 = q
    · rw [← e]; exact hs1
    · have := hm s.1 (h.inp s hsr) hb2 e
      rw [valAt_row h hsr (below_refl _)] at this
      have := (h.ans s hsr).1
      omega
theorem leastS_vals {a p : Nat} {rs : KV} (h : Mono a p rs) : leastS rs = ((keys (lowest rs)).mergeSort tiLe).map fun q => (q, valAt rs q) := by
  unfold leastS
  refine List.map_congr_left fun q hq => ?_
  have hq := List.mem_mergeSort.mp hq
  have hm := (lowest_lw rs).1.mem _ (valOf_mem hq)
  have := valAt_row h hm (x := q) (below_refl _)
  rw [this]
/-- boxes with the same values have the same least answered inputs -/
theorem leastS_ext {a p : Nat} {rs qs : KV} (h : Mono a p rs) (g : Mono a p qs) (e : ∀ x, Inp a p x → valAt rs x = valAt qs x) : leastS rs = leastS qs := by
  have hk : ∀ q, q ∈ keys (lowest rs) ↔ q ∈ keys (lowest qs) := fun q => by
    rw [keys_least h, keys_least g]
    constructor
    · rintro ⟨hi, hv, hm⟩
      exact ⟨hi, by rw [← e q hi]; exact hv, fun y hy hb hn => by rw [← e y hy]; exact hm y hy hb hn⟩
    · rintro ⟨hi, hv, hm⟩
      exact ⟨hi, by rw [e q hi]; exact hv, fun y hy hb hn => by rw [e y hy]; exact hm y hy hb hn⟩
  rw [leastS_vals h, leastS_vals g, sort_same (lowest_lw rs).1.nodup (lowest_lw qs).1.nodup hk]
  refine List.map_congr_left fun q hq => ?_
  have hq := List.mem_mergeSort.mp hq
  rw [e q ((keys_least g).mp hq).1]
theorem Mono.least {a p : Nat} {rs : KV} (h : Mono a p rs) : Mono a p (leastS rs) := h.sub fun _ hq => leastS_sub hq
theorem leastS_len {rs : KV} : (leastS rs).length ≤ rs.length := by
  unfold leastS
  rw [List.length_map, List.length_mergeSort, List.length_map]
  exact (lowest_lw rs).2
end Ev

set_option linter.all false
set_option autoImplicit false
set_option maxRecDepth 10000
/-! Plain laws: boxes turned: the walks. -/
namespace Ev
open PySem
def fn_joined : Fn := { np := 2, nl := 4, fr := false, body := [.asg 2 (.call 66 [(.var 0), (.var 1)]), .ifs (.cmp .isnot (.var 2) .non) [.raise] [], .ret (.bi .tuple [(.comp (.bi .max [(.idx (.var 0) (.var 3)), (.idx (.var 1) (.var 3))]) 3 (.rng [(.bi .len [(.var 0)])]) none)])] }
def fn_moved_input : Fn := { np := 2, nl := 5, fr := false, body := [.asg 2 (.comp (.int 0) 4 (.seq (.var 1)) none), .fors (.one 3) (.rng [(.bi .len [(.var 1)])]) [.seti 2 (.idx (.var 1) (.var 3)) (.idx (.var 0) (.var 3))], .ret (.bi .tuple [(.var 2)])] }
def fn_moved : Fn := { np := 2, nl := 3, fr := false, body := [.ret (.new 87 [(.att (.var 0) "answers"), (.att (.var 0) "places"), (.bi .tuple [(.comp (.tup [(.call 91 [(.idx (.var 2) (.int 0)), (.var 1)]), (.idx (.var 2) (.int 1))]) 2 (.seq (.att (.var 0) "least")) none)])])] }
def fn_renamed_value : Fn := { np := 2, nl := 2, fr := false, body := [.ifs (.cmp .eq (.var 0) (.int 0)) [.ret (.int 0)] [], .ret (.idx (.var 1) (.bin .sub (.var 0) (.int 1)))] }
def fn_renamed : Fn := { np := 2, nl := 6, fr := false, body := [.asg 2 (.lst []), .fors (.one 3) (.seq (.att (.var 0) "least")) [.asg 4 (.bi .tuple [(.comp (.call 93 [(.var 5), (.var 1)]) 5 (.seq (.idx (.var 3) (.int 0))) none)]), .app 2 (.tup [(.var 4), (.call 93 [(.idx (.var 3) (.int 1)), (.var 1)])])], .ret (.new 87 [(.att (.var 0) "answers"), (.att (.var 0) "places"), (.bi .tuple [(.var 2)])])] }
def fn_without_place : Fn := { np := 2, nl := 2, fr := false, body := [.ret (.bin .add (.slc (.var 0) none (some (.var 1))) (.slc (.var 0) (some (.bin .add (.var 1) (.int 1))) none))] }
def fn_fixed : Fn := { np := 3, nl := 5, fr := false, body := [.asg 3 (.lst []), .fors (.one 4) (.seq (.att (.var 0) "least")) [.ifs (.or (.cmp .eq (.idx (.idx (.var 4) (.int 0)) (.var 1)) (.int 0)) (.cmp .eq (.idx (.idx (.var 4) (.int 0)) (.var 1)) (.var 2))) [.app 3 (.tup [(.call 95 [(.idx (.var 4) (.int 0)), (.var 1)]), (.idx (.var 4) (.int 1))])] []], .ret (.new 87 [(.att (.var 0) "answers"), (.bin .sub (.att (.var 0) "places") (.int 1)), (.bi .tuple [(.var 3)])])] }
def fn_merged : Fn := { np := 3, nl := 8, fr := false, body := [.asg 3 (.lst []), .fors (.one 4) (.seq (.att (.var 0) "least")) [.asg 5 (.idx (.idx (.var 4) (.int 0)) (.var 1)), .asg 6 (.idx (.idx (.var 4) (.int 0)) (.var 2)), .ifs (.or (.cmp .eq (.var 5) (.int 0)) (.or (.cmp .eq (.var 6) (.int 0)) (.cmp .eq (.var 5) (.var 6)))) [.asg 7 (.bin .add (.bin .add (.slc (.idx (.var 4) (.int 0)) none (some (.var 1))) (.tup [(.bi .max [(.var 5), (.var 6)])])) (.slc (.idx (.var 4) (.int 0)) (some (.bin .add (.var 1) (.int 1))) none)), .app 3 (.tup [(.call 95 [(.var 7), (.var 2)]), (.idx (.var 4) (.int 1))])] []], .ret (.new 87 [(.att (.var 0) "answers"), (.bin .sub (.att (.var 0) "places") (.int 1)), (.bi .tuple [(.var 3)])])] }
def fn_common_part : Fn := { np := 2, nl := 5, fr := false, body := [.asg 2 (.lst []), .fors (.one 3) (.seq (.att (.var 0) "least")) [.fors (.one 4) (.seq (.att (.var 1) "least")) [.ifs (.and (.cmp .eq (.idx (.var 3) (.int 1)) (.idx (.var 4) (.int 1))) (.call 67 [(.idx (.var 3) (.int 0)), (.idx (.var 4) (.int 0))])) [.app 2 (.tup [(.call 90 [(.idx (.var 3) (.int 0)), (.idx (.var 4) (.int 0))]), (.idx (.var 3) (.int 1))])] []]], .ret (.new 87 [(.att (.var 0) "answers"), (.att (.var 0) "places"), (.bi .tuple [(.var 2)])])] }
def fn_box_below : Fn := { np := 2, nl := 3, fr := false, body := [.fors (.one 2) (.seq (.att (.var 0) "least")) [.ifs (.cmp .ne (.cal "__call__" (.var 1) [(.idx (.var 2) (.int 0))]) (.idx (.var 2) (.int 1))) [.ret (.bl false)] []], .ret (.bl true)] }
section
variable {T : Tab} {cf : Nat → List D → R D} {ρ : Env}
theorem asg_v {i : Nat} {e : E} {d : D} (he : evE T cf ρ e = .ok d) (hd : noMut d = true) : evS T cf (.asg i e) ρ = .ok (.nx (ρ.set i (.val d))) := by rw [evS_asg, he, asgS_ok, bind_pure hd]
theorem asg_n {i : Nat} {e : E} {ds : List D} (he : evE T cf ρ e = .ok (.lst ds)) (h : anyOwn (lks e) ρ = false) (hf : fresh T e = true) : evS T cf (.asg i e) ρ = .ok (.nx (ρ.set i (.own (.lst ds)))) := by rw [evS_asg, he, asgS_ok, bind_new h hf]
theorem app_v {i : Nat} {e : E} {ds : List D} {d : D} (h1 : ρ[i]? = some (.own (.lst ds))) (he : evE T cf ρ e = .ok d) (hd : noMut d = true) (hl : ds.length < lineSz) : evS T cf (.app i e) ρ = .ok (.nx (ρ.set i (.own (.lst (ds ++ [d]))))) := by
  rw [evS_app, h1, he, app_pure h1 hd hl]
theorem seti_v {i j : Nat} {k e : E} {ds : List D} {d : D} (h1 : ρ[i]? = some (.own (.lst ds))) (he : evE T cf ρ e = .ok d) (hd : noMut d = true) (hk : evE T cf ρ k = .ok (.int (j : Int))) (hj : j < ds.length) : evS T cf (.seti i k e) ρ = .ok (.nx (ρ.set i (.own (.lst (ds.set j d))))) := by
  have hx : L2.ixN ds.length (j : Int) = some j := by
    unfold L2.ixN; simp; omega
  have ho : isOwnM ρ i = true := by simp [isOwnM, h1]
  simp only [evS, ho, if_true, he, ok_bind, hk, kept_pure hd, h1, hx]
theorem ret_v {e : E} {r : List S} {d : D} (he : evE T cf ρ e = .ok d) (hd : isRoot d = false) (h1 : ∀ i, e ≠ .var i) : evSs T cf (.ret e :: r) ρ = .ok (.ret d false) := by
  rw [evSs_cons, evS_ret, he, retS_ok, seqS_ret]
  have h2 : isOwn e ρ = false := by
    cases e <;> first | rfl | exact absurd rfl (h1 _)
  rw [hd, h2, Bool.and_false, Bool.or_false]
end
/-! ### plain -/
def joinL (x y : List Int) : List Int := (List.range x.length).map fun k => max (at0 x k) (at0 y k)
def mvL (x : List Int) (o : List Nat) : List Int := (List.range o.length).foldl (fun v k => v.set ((o[k]?).getD 0) (at0 x k)) (List.replicate o.length 0)
abbrev to (o : List Nat) : List Int := o.map fun (k : Nat) => (k : Int)
def nameL (names : List Int) (v : Int) : Int := if v = 0 then 0 else at0 names (v - 1).toNat
theorem at0_map {p : Nat} {f : Nat → Int} {i : Nat} (h : i < p) : at0 ((List.range p).map f) i = f i := by
  unfold at0
  rw [List.getElem?_map, List.getElem?_range h]; rfl
theorem foldl_len {α β : Type} {f : List β → α → List β} (h : ∀ v k, (f v k).length = v.length) : ∀ {xs : List α} {v : List β}, (xs.foldl f v).length = v.length
  | [], _ => rfl
  | x :: xs, v => by rw [List.foldl_cons, foldl_len h, h]
theorem mvL_len {x : List Int} {o : List Nat} : (mvL x o).length = o.length := by
  unfold mvL
  rw [foldl_len (fun v k => by simp), List.length_replicate]
structure HasTurn (T : Tab) : Prop where
  box : HasBox T
  join : T.fn 90 = some fn_joined
  mvi : T.fn 91 = some fn_moved_input
  mv : T.fn 92 = some fn_moved
  rnv : T.fn 93 = some fn_renamed_value
  rn : T.fn 94 = some fn_renamed
  wo : T.fn 95 = some fn_without_place
  fix : T.fn 96 = some fn_fixed
  mrg : T.fn 97 = some fn_merged
  com : T.fn 98 = some fn_common_part
  bel : T.fn 99 = some fn_box_below
section
variable {T : Tab} {n : Nat}
theorem ev_joined (h : HasOrd T) (hf : T.fn 90 = some fn_joined) {x y : List Int} (hxy : x.length = y.length) (hl : x.length ≤ 1000) (ha : agrees x y = true) : ev T (n + 2) 90 [ti x, ti y] = .ok (ti (joinL x y)) := by
  have hc := (ev_contra (n := n) h (x := x) (y := y) (by omega) (by unfold lineSz; omega)).1 ha
  refine ev_of (own := false) (ρ := [.val (ti x), .val (ti y), .no, .no]) hf rfl (by simp [startE, fn_joined]) (by simp only [fn_joined]; rfl) rfl ?_
  refine step (asg_v (d := .non) (by simp only [evE_call, evEs_cons, evEs_nil, evE_var, List.getElem?_cons_zero, List.getElem?_cons_succ, ok_bind, hc]) rfl) ?_
  simp only [List.set_cons_succ, List.set_cons_zero]
  refine step (ρ' := [.val (ti x), .val (ti y), .val .non, .no]) (by simp) ?_
  have hm := comp_map (T := T) (cf := ev T (n + 1)) (ρ := [.val (ti x), .val (ti y), .val .non, .no]) (elt := .bi .max [(.idx (.var 0) (.var 3)), (.idx (.var 1) (.var 3))]) (x := 3) (src := .rng [(.bi .len [(.var 0)])]) (e := fun k : Nat => .int (k : Int)) (g := fun k => .int (max (at0 x k) (at0 y k))) (xs := List.range x.length)
    (by simp [range1s (a := x.length) hl]) (by simp [anyOwn, lkr]) (by rw [List.length_range]; unfold lineSz; omega)
    (fun k hk => by
      have hk := List.mem_range.mp hk
      have i1 := ix_ti (x := x) hk
      have i2 := ix_ti (x := y) (i := k) (by omega)
      simp only [List.set_cons_succ, List.set_cons_zero, evE_bi, evEs_cons, evEs_nil, evE_idx, evE_var, List.getElem?_cons_zero, List.getElem?_cons_succ, ok_bind, i1, i2, bi_max2])
  exact ret_v (d := ti (joinL x y)) (by
    rw [evE_bi, evEs_cons, hm, evEs_nil, ok_bind, ok_bind, ok_bind, bi_tupL]
    simp [joinL, ti, List.map_map, Function.comp_def]) rfl (fun _ z => by cases z)
theorem ev_mvi (hf : T.fn 91 = some fn_moved_input) {x : List Int} {o : List Nat} (hx : o.length ≤ x.length) (ho : ∀ k ∈ o, k < o.length) (hl : o.length ≤ 1000) : ev T (n + 1) 91 [ti x, ti (to o)] = .ok (ti (mvL x o)) := by
  refine ev_of (own := false) (ρ := [.val (ti x), .val (ti (to o)), .no, .no, .no]) hf rfl (by simp [startE, fn_moved_input]) (by simp only [fn_moved_input]; rfl) rfl ?_
  have hm := comp_map (T := T) (cf := ev T n) (ρ := [.val (ti x), .val (ti (to o)), .no, .no, .no]) (elt := .int 0) (x := 4) (src := .seq (.var 1)) (e := D.int) (g := fun _ => .int 0) (xs := to o)
    (by simp) (by simp [anyOwn, lkr, lkb]) (by simp; unfold lineSz; omega) (fun k _ => by simp)
  have e0 : (to o).map (fun _ => D.int 0) = (List.replicate o.length (0 : Int)).map D.int := by
    rw [List.map_const', List.map_replicate]; simp
  rw [e0] at hm
  refine step (asg_n hm (by simp [lks, anyOwn]) (by simp [fresh])) ?_
  simp only [List.set_cons_succ, List.set_cons_zero]
  obtain ⟨key, hb⟩ := evS_fold (T := T) (cf := ev T n) (t := .one 3) (src := .rng [(.bi .len [(.var 1)])]) (b := [.seti 2 (.idx (.var 1) (.var 3)) (.idx (.var 0) (.var 3))]) (e := fun k : Nat => .int (k : Int)) (xs := List.range o.length)
    (env := fun s : List Int × Sl => [.val (ti x), .val (ti (to o)), .own (li s.1), s.2, .no]) (f := fun s k => (s.1.set ((o[k]?).getD 0) (at0 x k), .val (.int (k : Int)))) (s := (List.replicate o.length 0, .no)) (fun _ s => s.1.length = o.length)
    (by simp [range1s (a := o.length) hl]) (by simp [srcVar, lkr, lkb, lkbL, anyOwn]) (by simp)
    (fun i s k hk hP => by
      obtain ⟨hi, rfl⟩ := range_at hk
      have i1 := ix_ti (x := x) (i := k) (by omega)
      have hok : o[k]? = some o[k] := List.getElem?_eq_getElem hi
      have i2 : idxD (ti (to o)) (.int (k : Int)) = .ok (.int ((o[k] : Nat) : Int)) := idx_tup (by rw [List.getElem?_map, List.getElem?_map, hok]; rfl)
      have hlt := ho o[k] (List.getElem_mem hi)
      refine ⟨_, rfl, .inl ?_⟩
      simp only [List.set_cons_succ, List.set_cons_zero]
      refine step (seti_v (j := o[k]) (ds := s.1.map .int) (d := .int (at0 x k)) rfl (by simp only [evE_idx, evE_var, List.getElem?_cons_zero, List.getElem?_cons_succ, ok_bind, i1]) rfl (by simp only [evE_idx, evE_var, List.getElem?_cons_zero, List.getElem?_cons_succ, ok_bind, i2]) (by rw [List.length_map, hP]; exact hlt)) ?_
      simp [List.map_set, hok])
    (fun i s k hk hP => by simpa using hP)
  have e1 : ∀ (xs : List Nat) (v : List Int) (t : Sl), (xs.foldl (fun (s : List Int × Sl) k => (s.1.set ((o[k]?).getD 0) (at0 x k), Sl.val (.int (k : Int)))) (v, t)).1 = xs.foldl (fun v k => v.set ((o[k]?).getD 0) (at0 x k)) v := by
    intro xs
    induction xs with
    | nil => exact fun _ _ => rfl
    | cons y xs ih => exact fun v t => ih _ _
  have e2 := e1 (List.range o.length) (List.replicate o.length 0) .no
  generalize (List.range o.length).foldl _ (List.replicate o.length 0, Sl.no) = S at key e2
  refine step key ?_
  exact ret_v (d := ti (mvL x o)) (by
    simp only [evE_bi, evEs_cons, evEs_nil, evE_var, List.getElem?_cons_zero, List.getElem?_cons_succ, ok_bind, bi_tupL, e2]
    rfl) rfl (fun _ z => by cases z)
theorem att_a (hB : HasBox T) {cf : Nat → List D → R D} {ρ : Env} {i a p : Nat} {rs : KV} (h : ρ[i]? = some (.val (boxD a p rs))) : evE T cf ρ (.att (.var i) "answers") = .ok (.int a) := by
  simp [h, boxD, hB.cls, fD0]
theorem att_p (hB : HasBox T) {cf : Nat → List D → R D} {ρ : Env} {i a p : Nat} {rs : KV} (h : ρ[i]? = some (.val (boxD a p rs))) : evE T cf ρ (.att (.var i) "places") = .ok (.int p) := by
  simp [h, boxD, hB.cls, fD1]
theorem att_l (hB : HasBox T) {cf : Nat → List D → R D} {ρ : Env} {i a p : Nat} {rs : KV} (h : ρ[i]? = some (.val (boxD a p rs))) : evE T cf ρ (.att (.var i) "least") = .ok (trs (leastS rs)) := by
  simp [h, boxD, hB.cls, fD2]
theorem new_box (hB : HasBox T) {ρ : Env} {e1 e2 e3 : E} {a p : Nat} {rs : KV} (h1 : evE T (ev T (n + 4)) ρ e1 = .ok (.int a)) (h2 : evE T (ev T (n + 4)) ρ e2 = .ok (.int p)) (h3 : evE T (ev T (n + 4)) ρ e3 = .ok (trs rs)) (ha : a ≤ 1000) (hp : p ≤ 1000) (hm : Mono a p rs) (hl : rs.length ≤ 10000) : evE T (ev T (n + 4)) ρ (.new 87 [e1, e2, e3]) = .ok (boxD a p rs) := by
  have hb := ev_box (n := n) hB ha (hm.ok hl hp) hm.clash
  simp only [evE_new, evEs_cons, evEs_nil, h1, h2, h3, ok_bind, hb]
theorem ev_moved (h : HasTurn T) {a p : Nat} {rs rs2 : KV} {o : List Nat} (hm : Mono a p rs) (ho : ∀ k ∈ o, k < o.length) (hol : o.length = p) (ha : a ≤ 1000) (hp : p ≤ 1000) (hl : rs.length ≤ 10000) (e2 : rs2 = (leastS rs).map fun r => (mvL r.1 o, r.2)) (hm2 : Mono a p rs2) :
    ev T (n + 5) 92 [boxD a p rs, ti (to o)] = .ok (boxD a p rs2) := by
  have hll := leastS_len (rs := rs)
  refine ev_of (own := false) (ρ := [.val (boxD a p rs), .val (ti (to o)), .no]) h.mv rfl (by simp [startE, fn_moved]) (by simp only [fn_moved]; rfl) rfl ?_
  have hc := comp_map (T := T) (cf := ev T (n + 4)) (ρ := [.val (boxD a p rs), .val (ti (to o)), .no]) (elt := .tup [(.call 91 [(.idx (.var 2) (.int 0)), (.var 1)]), (.idx (.var 2) (.int 1))]) (x := 2) (src := .seq (.att (.var 0) "least")) (e := tr) (g := fun r => tr (mvL r.1 o, r.2)) (xs := leastS rs)
    (by rw [evSrc_seq, att_l h.box rfl]; simp) (by simp [anyOwn, lkr, lkb, lks]) (by unfold lineSz; omega)
    (fun r hr => by
      have hi := hm.least.inp r hr
      have hv := ev_mvi (n := n + 3) h.mvi (x := r.1) (o := o) (by rw [hi.len, hol]; exact Nat.le_refl _) ho (by omega)
      simp only [List.set_cons_succ, List.set_cons_zero, evE_tup, evE_call, evE_idx, evEs_cons, evEs_nil, evE_var, evE_int, List.getElem?_cons_zero, List.getElem?_cons_succ, ok_bind, ix_tr0, ix_tr1, hv])
  refine ret_v (d := boxD a p rs2) ?_ rfl (fun _ z => by cases z)
  refine new_box h.box ?_ ?_ ?_ ha hp hm2 (by rw [e2, List.length_map]; omega)
  · exact att_a h.box rfl
  · exact att_p h.box rfl
  rw [evE_bi, evEs_cons, hc, evEs_nil, ok_bind, ok_bind, ok_bind, bi_tupL]
  rw [e2]
  simp [trs, List.map_map, Function.comp_def]
theorem ev_rnv (hf : T.fn 93 = some fn_renamed_value) {names : List Int} {v : Int} (h0 : 0 ≤ v) (h1 : v ≤ names.length) : ev T (n + 1) 93 [.int v, ti names] = .ok (.int (nameL names v)) := by
  refine ev_of (own := false) (ρ := [.val (.int v), .val (ti names)]) hf rfl (by simp [startE, fn_renamed_value]) (by simp only [fn_renamed_value]; rfl) rfl ?_
  unfold nameL
  by_cases z : v = 0
  · rw [if_pos z]; simp [z, isRoot, isOwn]
  · rw [if_neg z]
    have i1 := ix_ti (x := names) (i := (v - 1).toNat) (by omega)
    rw [Int.toNat_of_nonneg (by omega)] at i1
    refine step (ρ' := [.val (.int v), .val (ti names)]) (by simp [z]) ?_
    exact ret_v (by simp only [evE_idx, evE_bin, evE_var, evE_int, List.getElem?_cons_zero, List.getElem?_cons_succ, ok_bind, bin_sub, i1]) rfl (fun _ z => by cases z)
def renR (names : List Int) (r : List Int × Int) : List Int × Int := (r.1.map (nameL names), nameL names r.2)
theorem ev_renamed (h : HasTurn T) {a p : Nat} {rs rs2 : KV} {names : List Int} (hm : Mono a p rs) (hn : names.length = a) (ha : a ≤ 1000) (hp : p ≤ 1000) (hl : rs.length ≤ 10000) (e2 : rs2 = (leastS rs).map (renR names)) (hm2 : Mono a p rs2) :
    ev T (n + 5) 94 [boxD a p rs, ti names] = .ok (boxD a p rs2) := by
  have hll := leastS_len (rs := rs)
  refine ev_of (own := false) (ρ := [.val (boxD a p rs), .val (ti names), .no, .no, .no, .no]) h.rn rfl (by simp [startE, fn_renamed]) (by simp only [fn_renamed]; rfl) rfl ?_
  refine step (ρ' := [.val (boxD a p rs), .val (ti names), .own (.lst []), .no, .no, .no]) (by simp) ?_
  obtain ⟨s, key, hP⟩ := evS_inv (T := T) (cf := ev T (n + 4)) (t := .one 3) (src := .seq (.att (.var 0) "least")) (b := [.asg 4 (.bi .tuple [(.comp (.call 93 [(.var 5), (.var 1)]) 5 (.seq (.idx (.var 3) (.int 0))) none)]), .app 2 (.tup [(.var 4), (.call 93 [(.idx (.var 3) (.int 1)), (.var 1)])])]) (e := tr) (xs := leastS rs)
    (env := fun s : KV × Sl × Sl => [.val (boxD a p rs), .val (ti names), .own (.lst (s.1.map tr)), s.2.1, s.2.2, .no]) (s := ([], .no, .no)) (fun i s => s.1 = ((leastS rs).take i).map (renR names))
    (by rw [evSrc_seq, att_l h.box rfl]; simp) (by simp [srcVar, lkr, lkb, lks, anyOwn]) (by simp)
    (fun i s r hr hP => by
      have hil := (List.getElem?_eq_some_iff.mp hr).1
      have hrm := List.mem_of_getElem? hr
      have hi := hm.least.inp r hrm
      have hA := hm.least.ans r hrm
      obtain ⟨R0, s3, s4⟩ := s
      simp only at hP
      have hc := comp_map (T := T) (cf := ev T (n + 4)) (ρ := [.val (boxD a p rs), .val (ti names), .own (.lst (R0.map tr)), .val (tr r), s4, .no]) (elt := .call 93 [(.var 5), (.var 1)]) (x := 5) (src := .seq (.idx (.var 3) (.int 0))) (e := D.int) (g := fun v => .int (nameL names v)) (xs := r.1)
        (by simp only [evSrc_seq, evE_idx, evE_var, evE_int, List.getElem?_cons_zero, List.getElem?_cons_succ, ok_bind, ix_tr0, seqOf_tup, ofO_some]) (by simp [anyOwn, lkr, lkb, lks]) (by rw [hi.len]; unfold lineSz; omega)
        (fun v hv => by
          have := hi.dig v hv
          have q := ev_rnv (n := n + 3) h.rnv (names := names) (v := v) (by omega) (by omega)
          simp only [List.set_cons_succ, List.set_cons_zero, evE_call, evEs_cons, evEs_nil, evE_var, List.getElem?_cons_zero, List.getElem?_cons_succ, ok_bind, q])
      have q2 := ev_rnv (n := n + 3) h.rnv (names := names) (v := r.2) (by omega) (by omega)
      refine ⟨_, (R0 ++ [renR names r], .val (tr r), .val (ti (renR names r).1)), rfl, .inl ?_, ?_⟩
      · simp only [List.set_cons_succ, List.set_cons_zero]
        refine step (asg_v (d := ti (renR names r).1) (by
          rw [evE_bi, evEs_cons, hc, evEs_nil, ok_bind, ok_bind, ok_bind, bi_tupL]
          simp [renR, ti, List.map_map, Function.comp_def]) noMut_ti) ?_
        simp only [List.set_cons_succ, List.set_cons_zero]
        refine step (app_v (ds := R0.map tr) (d := tr (renR names r)) rfl (by
          simp only [evE_tup, evE_call, evE_idx, evEs_cons, evEs_nil, evE_var, evE_int, List.getElem?_cons_zero, List.getElem?_cons_succ, ok_bind, ix_tr1, q2]
          rfl) noMut_tr (by rw [List.length_map, hP, List.length_map, List.length_take]; unfold lineSz; omega)) ?_
        simp
      · show R0 ++ [renR names r] = _
        rw [hP, List.take_succ, hr]
        simp)
  rw [List.take_length] at hP
  refine step key ?_
  refine ret_v (d := boxD a p rs2) ?_ rfl (fun _ z => by cases z)
  refine new_box h.box ?_ ?_ ?_ ha hp hm2 (by rw [e2, List.length_map]; omega)
  · exact att_a h.box rfl
  · exact att_p h.box rfl
  simp only [evE_bi, evEs_cons, evEs_nil, evE_var, List.getElem?_cons_zero, List.getElem?_cons_succ, ok_bind, bi_tupL, hP, ← e2]
theorem ev_without (hf : T.fn 95 = some fn_without_place) {x : List Int} {i : Nat} (hi : i < x.length) (hl : x.length ≤ 1000) : ev T (n + 1) 95 [ti x, .int i] = .ok (ti (x.eraseIdx i)) := by
  have s1 := slc_to (x := x) (i := i) (by omega)
  have s2 := slc_fro (x := x) (i := i + 1) (by omega)
  rw [show ((i + 1 : Nat) : Int) = (i : Int) + 1 by omega] at s2
  have a1 : binD .add (ti (x.take i)) (ti (x.drop (i + 1))) = .ok (ti (x.eraseIdx i)) := by
    rw [bin_addT (by simp; unfold lineSz; omega), ← List.map_append, List.eraseIdx_eq_take_drop_succ]
  refine ev_of (own := false) (ρ := [.val (ti x), .val (.int i)]) hf rfl (by simp [startE, fn_without_place]) (by simp only [fn_without_place]; rfl) rfl ?_
  exact ret_v (d := ti (x.eraseIdx i)) (by
    simp only [evE_bin, evE_slc, evE_var, evE_int, evO_none, evO_some, List.getElem?_cons_zero, List.getElem?_cons_succ, ok_bind, bin_add, s1, s2, a1]) rfl (fun _ z => by cases z)
end
end Ev

set_option linter.all false
set_option autoImplicit false
set_option maxRecDepth 10000
/-! Plain laws: boxes fixed, merged, their common part, box_below: the walks. -/
namespace Ev
open PySem
def fixC (i : Nat) (v : Int) (r : List Int × Int) : Bool := decide (at0 r.1 i = 0) || decide (at0 r.1 i = v)
def fixF (i : Nat) (r : List Int × Int) : List Int × Int := (r.1.eraseIdx i, r.2)
def mrgC (i j : Nat) (r : List Int × Int) : Bool := decide (at0 r.1 i = 0) || (decide (at0 r.1 j = 0) || decide (at0 r.1 i = at0 r.1 j))
def mrgF (i j : Nat) (r : List Int × Int) : List Int × Int := ((r.1.set i (max (at0 r.1 i) (at0 r.1 j))).eraseIdx j, r.2)
def comC (r s : List Int × Int) : Bool := decide (r.2 = s.2) && agrees r.1 s.1
def comF (r s : List Int × Int) : List Int × Int := (joinL r.1 s.1, r.2)
theorem take_flt {L : KV} {c : List Int × Int → Bool} {f : List Int × Int → List Int × Int} {i : Nat} {r : List Int × Int} (hr : L[i]? = some r) : ((L.take (i + 1)).filter c).map f = ((L.take i).filter c).map f ++ (if c r then [f r] else []) := by
  rw [List.take_succ, hr]
  simp only [Option.toList_some, List.filter_append, List.map_append]
  congr 1
  by_cases h : c r = true
  · simp [h]
  · simp [h]
section
variable {T : Tab} {n : Nat}
theorem ev_fixed (h : HasTurn T) {a p i : Nat} {v : Int} {rs rs2 : KV} (hm : Mono a (p + 1) rs) (hi : i < p + 1) (ha : a ≤ 1000) (hp : p + 1 ≤ 1000) (hl : rs.length ≤ 10000) (e2 : rs2 = ((leastS rs).filter (fixC i v)).map (fixF i)) (hm2 : Mono a p rs2) :
    ev T (n + 5) 96 [boxD a (p + 1) rs, .int i, .int v] = .ok (boxD a p rs2) := by
  have hll := leastS_len (rs := rs)
  refine ev_of (own := false) (ρ := [.val (boxD a (p + 1) rs), .val (.int i), .val (.int v), .no, .no]) h.fix rfl (by simp [startE, fn_fixed]) (by simp only [fn_fixed]; rfl) rfl ?_
  refine step (ρ' := [.val (boxD a (p + 1) rs), .val (.int i), .val (.int v), .own (.lst []), .no]) (by simp) ?_
  obtain ⟨s, key, hP⟩ := evS_inv (T := T) (cf := ev T (n + 4)) (t := .one 4) (src := .seq (.att (.var 0) "least")) (b := [.ifs (.or (.cmp .eq (.idx (.idx (.var 4) (.int 0)) (.var 1)) (.int 0)) (.cmp .eq (.idx (.idx (.var 4) (.int 0)) (.var 1)) (.var 2))) [.app 3 (.tup [(.call 95 [(.idx (.var 4) (.int 0)), (.var 1)]), (.idx (.var 4) (.int 1))])] []]) (e := tr) (xs := leastS rs)
    (env := fun s : KV × Sl => [.val (boxD a (p + 1) rs), .val (.int i), .val (.int v), .own (.lst (s.1.map tr)), s.2]) (s := ([], .no)) (fun k s => s.1 = (((leastS rs).take k).filter (fixC i v)).map (fixF i))
    (by rw [evSrc_seq, att_l h.box rfl]; simp) (by simp [srcVar, lkr, lkb, lks, anyOwn]) (by simp)
    (fun k s r hr hP => by
      have hil := (List.getElem?_eq_some_iff.mp hr).1
      have hrm := List.mem_of_getElem? hr
      have hI := hm.least.inp r hrm
      obtain ⟨R0, s4⟩ := s
      simp only at hP
      have ix := ix_ti (x := r.1) (i := i) (by rw [hI.len]; exact hi)
      have hw := ev_without (n := n + 3) h.wo (x := r.1) (i := i) (by rw [hI.len]; exact hi) (by rw [hI.len]; omega)
      have hcond : evE T (ev T (n + 4)) [.val (boxD a (p + 1) rs), .val (.int i), .val (.int v), .own (.lst (R0.map tr)), .val (tr r)] (.or (.cmp .eq (.idx (.idx (.var 4) (.int 0)) (.var 1)) (.int 0)) (.cmp .eq (.idx (.idx (.var 4) (.int 0)) (.var 1)) (.var 2))) = .ok (.bl (fixC i v r)) := by
        rw [evE_or]
        simp only [evE_cmp, evE_idx, evE_var, evE_int, List.getElem?_cons_zero, List.getElem?_cons_succ, ok_bind, ix_tr0, ix, cmp_eqI]
        exact orE_b (by simp only [evE_cmp, evE_idx, evE_var, evE_int, List.getElem?_cons_zero, List.getElem?_cons_succ, ok_bind, ix_tr0, ix, cmp_eqI])
      refine ⟨_, (R0 ++ (if fixC i v r then [fixF i r] else []), .val (tr r)), rfl, .inl ?_, ?_⟩
      · simp only [List.set_cons_succ, List.set_cons_zero]
        by_cases hz : fixC i v r = true
        · rw [hz] at hcond
          rw [evSs_cons, evS_ifs, hcond, ok_bind, truth_bl, ifS_t, evSs_cons, app_v (ds := R0.map tr) (d := tr (fixF i r)) rfl (by
            simp only [evE_tup, evE_call, evE_idx, evEs_cons, evEs_nil, evE_var, evE_int, List.getElem?_cons_zero, List.getElem?_cons_succ, ok_bind, ix_tr0, ix_tr1, hw]
            rfl) noMut_tr (by
              have := List.length_filter_le (fixC i v) ((leastS rs).take k)
              rw [List.length_map, hP, List.length_map]; rw [List.length_take] at this; unfold lineSz; omega)]
          simp [hz]
        · have hz : fixC i v r = false := by simpa using hz
          rw [hz] at hcond
          rw [evSs_cons, evS_ifs, hcond, ok_bind, truth_bl, ifS_f]
          simp [hz]
      · show R0 ++ _ = _
        rw [hP, take_flt hr])
  rw [List.take_length] at hP
  refine step key ?_
  have hpp : ((p + 1 : Nat) : Int) - 1 = (p : Int) := by omega
  refine ret_v (d := boxD a p rs2) ?_ rfl (fun _ z => by cases z)
  refine new_box h.box ?_ ?_ ?_ ha (by omega) hm2 (by
    have := List.length_filter_le (fixC i v) (leastS rs)
    rw [e2, List.length_map]; omega)
  · exact att_a h.box rfl
  · rw [evE_bin, att_p h.box rfl, ok_bind, evE_int, ok_bind, bin_sub, hpp]
  · simp only [evE_bi, evEs_cons, evEs_nil, evE_var, List.getElem?_cons_zero, List.getElem?_cons_succ, ok_bind, bi_tupL, hP, ← e2]
theorem ev_merged (h : HasTurn T) {a p i j : Nat} {rs rs2 : KV} (hm : Mono a (p + 1) rs) (hij : i < j) (hj : j < p + 1) (ha : a ≤ 1000) (hp : p + 1 ≤ 1000) (hl : rs.length ≤ 10000) (e2 : rs2 = ((leastS rs).filter (mrgC i j)).map (mrgF i j)) (hm2 : Mono a p rs2) :
    ev T (n + 5) 97 [boxD a (p + 1) rs, .int i, .int j] = .ok (boxD a p rs2) := by
  have hll := leastS_len (rs := rs)
  refine ev_of (own := false) (ρ := [.val (boxD a (p + 1) rs), .val (.int i), .val (.int j), .no, .no, .no, .no, .no]) h.mrg rfl (by simp [startE, fn_merged]) (by simp only [fn_merged]; rfl) rfl ?_
  refine step (ρ' := [.val (boxD a (p + 1) rs), .val (.int i), .val (.int j), .own (.lst []), .no, .no, .no, .no]) (by simp) ?_
  obtain ⟨s, key, hP⟩ := evS_inv (T := T) (cf := ev T (n + 4)) (t := .one 4) (src := .seq (.att (.var 0) "least")) (b := [.asg 5 (.idx (.idx (.var 4) (.int 0)) (.var 1)), .asg 6 (.idx (.idx (.var 4) (.int 0)) (.var 2)), .ifs (.or (.cmp .eq (.var 5) (.int 0)) (.or (.cmp .eq (.var 6) (.int 0)) (.cmp .eq (.var 5) (.var 6)))) [.asg 7 (.bin .add (.bin .add (.slc (.idx (.var 4) (.int 0)) none (some (.var 1))) (.tup [(.bi .max [(.var 5), (.var 6)])])) (.slc (.idx (.var 4) (.int 0)) (some (.bin .add (.var 1) (.int 1))) none)), .app 3 (.tup [(.call 95 [(.var 7), (.var 2)]), (.idx (.var 4) (.int 1))])] []]) (e := tr) (xs := leastS rs)
    (env := fun s : KV × Sl × Sl × Sl × Sl => [.val (boxD a (p + 1) rs), .val (.int i), .val (.int j), .own (.lst (s.1.map tr)), s.2.1, s.2.2.1, s.2.2.2.1, s.2.2.2.2]) (s := ([], .no, .no, .no, .no)) (fun k s => s.1 = (((leastS rs).take k).filter (mrgC i j)).map (mrgF i j))
    (by rw [evSrc_seq, att_l h.box rfl]; simp) (by simp [srcVar, lkr, lkb, lks, anyOwn]) (by simp)
    (fun k s r hr hP => by
      have hil := (List.getElem?_eq_some_iff.mp hr).1
      have hrm := List.mem_of_getElem? hr
      have hI := hm.least.inp r hrm
      have hIl := hI.len
      obtain ⟨R0, s4, s5, s6, s7⟩ := s
      simp only at hP
      have ix1 := ix_ti (x := r.1) (i := i) (by omega)
      have ix2 := ix_ti (x := r.1) (i := j) (by omega)
      have c1 := slc_to (x := r.1) (i := i) (by omega)
      have c2 := slc_fro (x := r.1) (i := i + 1) (by omega)
      rw [show ((i + 1 : Nat) : Int) = (i : Int) + 1 by omega] at c2
      let m := max (at0 r.1 i) (at0 r.1 j)
      have a1 : binD .add (ti (r.1.take i)) (.tup [.int m]) = .ok (ti (r.1.take i ++ [m])) := by
        have : binD .add (ti (r.1.take i)) (ti [m]) = .ok (ti (r.1.take i ++ [m])) := by
          rw [bin_addT (by simp; unfold lineSz; omega), ← List.map_append]
        exact this
      have a2 : binD .add (ti (r.1.take i ++ [m])) (ti (r.1.drop (i + 1))) = .ok (ti (r.1.set i m)) := by
        rw [bin_addT (by simp; unfold lineSz; omega), ← List.map_append]
        congr 3
        rw [List.set_eq_take_append_cons_drop, if_pos (by omega), List.append_assoc]
        rfl
      have hw := ev_without (n := n + 3) h.wo (x := r.1.set i m) (i := j) (by simp; omega) (by simp; omega)
      have hcond : evE T (ev T (n + 4)) [.val (boxD a (p + 1) rs), .val (.int i), .val (.int j), .own (.lst (R0.map tr)), .val (tr r), .val (.int (at0 r.1 i)), .val (.int (at0 r.1 j)), s7] (.or (.cmp .eq (.var 5) (.int 0)) (.or (.cmp .eq (.var 6) (.int 0)) (.cmp .eq (.var 5) (.var 6)))) = .ok (.bl (mrgC i j r)) := by
        rw [evE_or]
        simp only [evE_cmp, evE_var, evE_int, List.getElem?_cons_zero, List.getElem?_cons_succ, ok_bind, cmp_eqI]
        refine orE_b ?_
        rw [evE_or]
        simp only [evE_cmp, evE_var, evE_int, List.getElem?_cons_zero, List.getElem?_cons_succ, ok_bind, cmp_eqI]
        exact orE_b (by simp only [evE_cmp, evE_var, evE_int, List.getElem?_cons_zero, List.getElem?_cons_succ, ok_bind, cmp_eqI])
      have pre : ∀ {z : R Fl}, evSs T (ev T (n + 4)) [.ifs (.or (.cmp .eq (.var 5) (.int 0)) (.or (.cmp .eq (.var 6) (.int 0)) (.cmp .eq (.var 5) (.var 6)))) [.asg 7 (.bin .add (.bin .add (.slc (.idx (.var 4) (.int 0)) none (some (.var 1))) (.tup [(.bi .max [(.var 5), (.var 6)])])) (.slc (.idx (.var 4) (.int 0)) (some (.bin .add (.var 1) (.int 1))) none)), .app 3 (.tup [(.call 95 [(.var 7), (.var 2)]), (.idx (.var 4) (.int 1))])] []] [.val (boxD a (p + 1) rs), .val (.int i), .val (.int j), .own (.lst (R0.map tr)), .val (tr r), .val (.int (at0 r.1 i)), .val (.int (at0 r.1 j)), s7] = z →
          evSs T (ev T (n + 4)) [.asg 5 (.idx (.idx (.var 4) (.int 0)) (.var 1)), .asg 6 (.idx (.idx (.var 4) (.int 0)) (.var 2)), .ifs (.or (.cmp .eq (.var 5) (.int 0)) (.or (.cmp .eq (.var 6) (.int 0)) (.cmp .eq (.var 5) (.var 6)))) [.asg 7 (.bin .add (.bin .add (.slc (.idx (.var 4) (.int 0)) none (some (.var 1))) (.tup [(.bi .max [(.var 5), (.var 6)])])) (.slc (.idx (.var 4) (.int 0)) (some (.bin .add (.var 1) (.int 1))) none)), .app 3 (.tup [(.call 95 [(.var 7), (.var 2)]), (.idx (.var 4) (.int 1))])] []] [.val (boxD a (p + 1) rs), .val (.int i), .val (.int j), .own (.lst (R0.map tr)), .val (tr r), s5, s6, s7] = z := fun {z} hz => by
        refine step (asg_v (d := .int (at0 r.1 i)) (by simp only [evE_idx, evE_var, evE_int, List.getElem?_cons_zero, List.getElem?_cons_succ, ok_bind, ix_tr0, ix1]) rfl) ?_
        simp only [List.set_cons_succ, List.set_cons_zero]
        refine step (asg_v (d := .int (at0 r.1 j)) (by simp only [evE_idx, evE_var, evE_int, List.getElem?_cons_zero, List.getElem?_cons_succ, ok_bind, ix_tr0, ix2]) rfl) ?_
        simp only [List.set_cons_succ, List.set_cons_zero]
        exact hz
      by_cases hz : mrgC i j r = true
      · refine ⟨_, (R0 ++ [mrgF i j r], .val (tr r), .val (.int (at0 r.1 i)), .val (.int (at0 r.1 j)), .val (ti (r.1.set i m))), rfl, .inl (pre ?_), ?_⟩
        · rw [hz] at hcond
          rw [evSs_cons, evS_ifs, hcond, ok_bind, truth_bl, ifS_t]
          have body : evSs T (ev T (n + 4)) [.asg 7 (.bin .add (.bin .add (.slc (.idx (.var 4) (.int 0)) none (some (.var 1))) (.tup [(.bi .max [(.var 5), (.var 6)])])) (.slc (.idx (.var 4) (.int 0)) (some (.bin .add (.var 1) (.int 1))) none)), .app 3 (.tup [(.call 95 [(.var 7), (.var 2)]), (.idx (.var 4) (.int 1))])] [.val (boxD a (p + 1) rs), .val (.int i), .val (.int j), .own (.lst (R0.map tr)), .val (tr r), .val (.int (at0 r.1 i)), .val (.int (at0 r.1 j)), s7] = .ok (.nx [.val (boxD a (p + 1) rs), .val (.int i), .val (.int j), .own (.lst ((R0 ++ [mrgF i j r]).map tr)), .val (tr r), .val (.int (at0 r.1 i)), .val (.int (at0 r.1 j)), .val (ti (r.1.set i m))]) := by
            refine step (asg_v (d := ti (r.1.set i m)) (by
              simp only [evE_bin, evE_slc, evE_tup, evE_bi, evE_idx, evEs_cons, evEs_nil, evE_var, evE_int, evO_none, evO_some, List.getElem?_cons_zero, List.getElem?_cons_succ, ok_bind, ix_tr0, bin_add, bi_max2, c1, c2]
              show (binD .add (ti (r.1.take i)) (.tup [.int m]) >>= fun x => binD .add x (ti (r.1.drop (i + 1)))) = _
              rw [a1, ok_bind, a2]) noMut_ti) ?_
            simp only [List.set_cons_succ, List.set_cons_zero]
            refine step (app_v (ds := R0.map tr) (d := tr (mrgF i j r)) rfl (by
              simp only [evE_tup, evE_call, evE_idx, evEs_cons, evEs_nil, evE_var, evE_int, List.getElem?_cons_zero, List.getElem?_cons_succ, ok_bind, ix_tr0, ix_tr1, hw]
              rfl) noMut_tr (by
                have := List.length_filter_le (mrgC i j) ((leastS rs).take k)
                rw [List.length_map, hP, List.length_map]; rw [List.length_take] at this; unfold lineSz; omega)) ?_
            simp
          rw [body, seqS_nx, evSs_nil]
        · show R0 ++ _ = _
          rw [hP, take_flt hr, hz]; rfl
      · have hz : mrgC i j r = false := by simpa using hz
        refine ⟨_, (R0, .val (tr r), .val (.int (at0 r.1 i)), .val (.int (at0 r.1 j)), s7), rfl, .inl (pre ?_), ?_⟩
        · rw [hz] at hcond
          rw [evSs_cons, evS_ifs, hcond, ok_bind, truth_bl, ifS_f]
          simp
        · show R0 = _
          rw [hP, take_flt hr, hz]; simp)
  rw [List.take_length] at hP
  refine step key ?_
  have hpp : ((p + 1 : Nat) : Int) - 1 = (p : Int) := by omega
  refine ret_v (d := boxD a p rs2) ?_ rfl (fun _ z => by cases z)
  refine new_box h.box ?_ ?_ ?_ ha (by omega) hm2 (by
    have := List.length_filter_le (mrgC i j) (leastS rs)
    rw [e2, List.length_map]; omega)
  · exact att_a h.box rfl
  · rw [evE_bin, att_p h.box rfl, ok_bind, evE_int, ok_bind, bin_sub, hpp]
  · simp only [evE_bi, evEs_cons, evEs_nil, evE_var, List.getElem?_cons_zero, List.getElem?_cons_succ, ok_bind, bi_tupL, hP, ← e2]
def comRow (L2 : KV) (r : List Int × Int) : KV := (L2.filter (comC r)).map (comF r)
theorem comRow_len {L2 : KV} {r : List Int × Int} : (comRow L2 r).length ≤ L2.length := by
  unfold comRow
  rw [List.length_map]; exact List.length_filter_le _ _
theorem com_len {L2 : KV} : ∀ {L : KV}, (L.flatMap (comRow L2)).length ≤ L.length * L2.length
  | [] => by simp
  | r :: L => by
    have h1 := comRow_len (L2 := L2) (r := r)
    have h2 := com_len (L2 := L2) (L := L)
    rw [List.flatMap_cons, List.length_append, List.length_cons, Nat.succ_mul]
    omega
theorem ev_compart (h : HasTurn T) {a p : Nat} {rs qs rs2 : KV} (hm : Mono a p rs) (hq : Mono a p qs) (ha : a ≤ 1000) (hp : p ≤ 1000) (hl : rs.length ≤ 100) (hlq : qs.length ≤ 100) (e2 : rs2 = (leastS rs).flatMap (comRow (leastS qs))) (hm2 : Mono a p rs2) :
    ev T (n + 5) 98 [boxD a p rs, boxD a p qs] = .ok (boxD a p rs2) := by
  have hll := leastS_len (rs := rs)
  have hll2 := leastS_len (rs := qs)
  have hb100 : ∀ k, (((leastS rs).take k).flatMap (comRow (leastS qs))).length ≤ 10000 := fun k => by
    have h1 : ((leastS rs).take k).length ≤ 100 := by rw [List.length_take]; omega
    have h2 : (leastS qs).length ≤ 100 := by omega
    exact Nat.le_trans com_len (Nat.le_trans (Nat.mul_le_mul h1 h2) (by decide))
  refine ev_of (own := false) (ρ := [.val (boxD a p rs), .val (boxD a p qs), .no, .no, .no]) h.com rfl (by simp [startE, fn_common_part]) (by simp only [fn_common_part]; rfl) rfl ?_
  refine step (ρ' := [.val (boxD a p rs), .val (boxD a p qs), .own (.lst []), .no, .no]) (by simp) ?_
  obtain ⟨s, key, hP⟩ := evS_inv (T := T) (cf := ev T (n + 4)) (t := .one 3) (src := .seq (.att (.var 0) "least")) (b := [.fors (.one 4) (.seq (.att (.var 1) "least")) [.ifs (.and (.cmp .eq (.idx (.var 3) (.int 1)) (.idx (.var 4) (.int 1))) (.call 67 [(.idx (.var 3) (.int 0)), (.idx (.var 4) (.int 0))])) [.app 2 (.tup [(.call 90 [(.idx (.var 3) (.int 0)), (.idx (.var 4) (.int 0))]), (.idx (.var 3) (.int 1))])] []]]) (e := tr) (xs := leastS rs)
    (env := fun s : KV × Sl × Sl => [.val (boxD a p rs), .val (boxD a p qs), .own (.lst (s.1.map tr)), s.2.1, s.2.2]) (s := ([], .no, .no)) (fun k s => s.1 = ((leastS rs).take k).flatMap (comRow (leastS qs)))
    (by rw [evSrc_seq, att_l h.box rfl]; simp) (by simp [srcVar, lkr, lkb, lks, anyOwn]) (by simp)
    (fun k s r hr hP => by
      have hil := (List.getElem?_eq_some_iff.mp hr).1
      have hrm := List.mem_of_getElem? hr
      have hI := hm.least.inp r hrm
      have hIl := hI.len
      obtain ⟨R0, s3, s4⟩ := s
      simp only at hP
      obtain ⟨t, key2, hP2⟩ := evS_inv (T := T) (cf := ev T (n + 4)) (t := .one 4) (src := .seq (.att (.var 1) "least")) (b := [.ifs (.and (.cmp .eq (.idx (.var 3) (.int 1)) (.idx (.var 4) (.int 1))) (.call 67 [(.idx (.var 3) (.int 0)), (.idx (.var 4) (.int 0))])) [.app 2 (.tup [(.call 90 [(.idx (.var 3) (.int 0)), (.idx (.var 4) (.int 0))]), (.idx (.var 3) (.int 1))])] []]) (e := tr) (xs := leastS qs)
        (env := fun s : KV × Sl => [.val (boxD a p rs), .val (boxD a p qs), .own (.lst (s.1.map tr)), .val (tr r), s.2]) (s := (R0, s4)) (fun j s => s.1 = R0 ++ (((leastS qs).take j).filter (comC r)).map (comF r))
        (by rw [evSrc_seq, att_l h.box rfl]; simp) (by simp [srcVar, lkr, lkb, lks, anyOwn]) (by simp)
        (fun j u q hq' hQ => by
          have hqm := List.mem_of_getElem? hq'
          have hJ := hq.least.inp q hqm
          have hJl := hJ.len
          obtain ⟨R1, u4⟩ := u
          simp only at hQ
          have hag := ev_agree (n := n + 2) h.box.rows.ord (x := r.1) (y := q.1) (by omega) (by unfold lineSz; omega)
          have hcond : evE T (ev T (n + 4)) [.val (boxD a p rs), .val (boxD a p qs), .own (.lst (R1.map tr)), .val (tr r), .val (tr q)] (.and (.cmp .eq (.idx (.var 3) (.int 1)) (.idx (.var 4) (.int 1))) (.call 67 [(.idx (.var 3) (.int 0)), (.idx (.var 4) (.int 0))])) = .ok (.bl (comC r q)) := by
            rw [evE_and]
            simp only [evE_cmp, evE_idx, evE_var, evE_int, List.getElem?_cons_zero, List.getElem?_cons_succ, ok_bind, ix_tr1, cmp_eqI]
            exact andE_b (by simp only [evE_call, evE_idx, evEs_cons, evEs_nil, evE_var, evE_int, List.getElem?_cons_zero, List.getElem?_cons_succ, ok_bind, ix_tr0, hag])
          refine ⟨_, (R1 ++ (if comC r q then [comF r q] else []), .val (tr q)), rfl, .inl ?_, ?_⟩
          · simp only [List.set_cons_succ, List.set_cons_zero]
            by_cases hz : comC r q = true
            · rw [hz] at hcond
              have hag2 : agrees r.1 q.1 = true := by
                simp only [comC, Bool.and_eq_true] at hz; exact hz.2
              have hj := ev_joined (n := n + 2) h.box.rows.ord h.join (x := r.1) (y := q.1) (by omega) (by omega) hag2
              rw [evSs_cons, evS_ifs, hcond, ok_bind, truth_bl, ifS_t, evSs_cons, app_v (ds := R1.map tr) (d := tr (comF r q)) rfl (by
                simp only [evE_tup, evE_call, evE_idx, evEs_cons, evEs_nil, evE_var, evE_int, List.getElem?_cons_zero, List.getElem?_cons_succ, ok_bind, ix_tr0, ix_tr1, hj]
                rfl) noMut_tr (by
                  have h1 := hb100 k
                  rw [← hP] at h1
                  have h2 := List.length_filter_le (comC r) ((leastS qs).take j)
                  rw [List.length_take] at h2
                  rw [List.length_map, hQ, List.length_append, List.length_map]; unfold lineSz; omega)]
              simp [hz]
            · have hz : comC r q = false := by simpa using hz
              rw [hz] at hcond
              rw [evSs_cons, evS_ifs, hcond, ok_bind, truth_bl, ifS_f]
              simp [hz]
          · show R1 ++ _ = _
            rw [hQ, take_flt hq', List.append_assoc])
      rw [List.take_length] at hP2
      refine ⟨_, (t.1, .val (tr r), t.2), rfl, .inl ?_, ?_⟩
      · simp only [List.set_cons_succ, List.set_cons_zero]
        exact step key2 (evSs_nil (T := T))
      · show t.1 = _
        rw [hP2, hP, List.take_succ, hr, Option.toList_some, List.flatMap_append]
        simp [comRow])
  rw [List.take_length] at hP
  refine step key ?_
  refine ret_v (d := boxD a p rs2) ?_ rfl (fun _ z => by cases z)
  refine new_box h.box ?_ ?_ ?_ ha hp hm2 (by
    have := hb100 (leastS rs).length
    rw [List.take_length] at this
    rw [e2]; exact this)
  · exact att_a h.box rfl
  · exact att_p h.box rfl
  · simp only [evE_bi, evEs_cons, evEs_nil, evE_var, List.getElem?_cons_zero, List.getElem?_cons_succ, ok_bind, bi_tupL, hP, ← e2]
def belowB (rs qs : KV) : Bool := (leastS rs).all fun r => decide (valAt qs r.1 = r.2)
theorem ev_bbelow (h : HasTurn T) {a p : Nat} {rs qs : KV} (hm : Mono a p rs) (hq : Mono a p qs) (hp : p ≤ 1000) (hl : rs.length ≤ 10000) (hlq : qs.length ≤ 10000) :
    ev T (n + 3) 99 [boxD a p rs, boxD a p qs] = .ok (.bl (belowB rs qs)) := by
  have hll := leastS_len (rs := rs)
  have hloop := evS_for (T := T) (cf := ev T (n + 2)) (t := .one 2) (src := .seq (.att (.var 0) "least")) (b := [.ifs (.cmp .ne (.cal "__call__" (.var 1) [(.idx (.var 2) (.int 0))]) (.idx (.var 2) (.int 1))) [.ret (.bl false)] []]) (e := tr) (env := fun s : Sl => [.val (boxD a p rs), .val (boxD a p qs), s])
    (step := fun _ r => if decide (valAt qs r.1 = r.2) then .nx (.val (tr r)) else .ret (.bl false) false) (xs := leastS rs) (s := .no) (fun _ _ => True)
    (by rw [evSrc_seq, att_l h.box rfl]; simp) (by simp [srcVar, lkr, lkb, lks, anyOwn]) trivial
    (fun k s r hr _ => by
      have hrm := List.mem_of_getElem? hr
      have hI := hm.least.inp r hrm
      have hc := ev_call (n := n) h.box (hq.ok hlq hp) (x := r.1) hI.len (a := a)
      rw [valAt_least hq.wide hq.clash] at hc
      have hcal : evE T (ev T (n + 2)) [.val (boxD a p rs), .val (boxD a p qs), .val (tr r)] (.cal "__call__" (.var 1) [(.idx (.var 2) (.int 0))]) = .ok (.int (valAt qs r.1)) := by
        rw [evE_cal (c := cBox) (fs := [.int a, .int p, trs (leastS qs), ti (kindsOf a qs)]) (ds := [ti r.1]) (f := 88) (by simp [boxD]) (by simp) h.box.cls h.box.mcall]
        exact hc
      refine ⟨_, rfl, .inl ?_⟩
      simp only [List.set_cons_succ, List.set_cons_zero]
      by_cases hz : valAt qs r.1 = r.2
      · rw [evSs_cons, evS_ifs, evE_cmp, hcal]
        simp [hz, St.fl]
      · rw [evSs_cons, evS_ifs, evE_cmp, hcal]
        simp [hz, St.fl, isRoot, isOwn])
    (fun _ _ _ _ _ _ _ => trivial)
  obtain ⟨h1, h2⟩ := loopS_all (step := fun (_ : Sl) (r : List Int × Int) => if decide (valAt qs r.1 = r.2) then St.nx (Sl.val (tr r)) else .ret (.bl false) false) (p := fun r => decide (valAt qs r.1 = r.2)) (f := fun r => Sl.val (tr r)) (d := .bl false) (o := false) (xs := leastS rs) (s := .no) (fun s k _ => rfl)
  refine ev_of (own := false) (ρ := [.val (boxD a p rs), .val (boxD a p qs), .no]) h.bel rfl (by simp [startE, fn_box_below]) (by simp only [fn_box_below]; rfl) rfl ?_
  rw [evSs_cons, hloop]
  cases hz : belowB rs qs with
  | true =>
    obtain ⟨s', e⟩ := h1 hz
    rw [e]
    simp [St.fl, isRoot, isOwn]
  | false =>
    rw [h2 hz]
    simp [St.fl]
end
end Ev

set_option linter.all false
set_option autoImplicit false
set_option maxRecDepth 10000
/-! Plain laws: the values of boxes turned. -/
namespace Ev
open PySem
theorem joinL_len {x y : List Int} : (joinL x y).length = x.length := by simp [joinL]
theorem join_below {x y : List Int} (h : x.length = y.length) (ha : agrees x y = true) (hx : ∀ i, 0 ≤ at0 x i) (hy : ∀ i, 0 ≤ at0 y i) {z : List Int} (hz : x.length = z.length) : below (joinL x y) z = (below x z && below y z) := by
  rw [Bool.eq_iff_iff, Bool.and_eq_true, below_iff, below_iff, below_iff, joinL_len]
  have hag := agrees_iff.mp ha
  constructor
  · intro hb
    constructor
    · intro i hi
      have h1 := hb i hi
      have h2 := hag i hi
      unfold joinL at h1
      rw [at0_map hi] at h1
      have := hx i
      have := hy i
      omega
    · intro i hi
      have h1 := hb i (by omega)
      have h2 := hag i (by omega)
      unfold joinL at h1
      rw [at0_map (by omega)] at h1
      have := hx i
      have := hy i
      omega
  · rintro ⟨h1, h2⟩ i hi
    unfold joinL
    rw [at0_map hi]
    have := h1 i hi
    have := h2 i (by omega)
    have := hx i
    have := hy i
    omega
theorem at0_mem {x : List Int} {i : Nat} (h : i < x.length) : at0 x i ∈ x := by
  unfold at0; rw [List.getElem?_eq_getElem h]; exact List.getElem_mem h
theorem mem_at0 {x : List Int} {e : Int} (h : e ∈ x) : ∃ i, i < x.length ∧ e = at0 x i := by
  obtain ⟨i, hi, rfl⟩ := List.getElem_of_mem h
  exact ⟨i, hi, by unfold at0; rw [List.getElem?_eq_getElem hi]; rfl⟩
theorem Inp.of {a p : Nat} {x : List Int} (h : x.length = p) (hd : ∀ i, i < p → 0 ≤ at0 x i ∧ at0 x i ≤ a) : Inp a p x := ⟨h, fun e he => by
  obtain ⟨i, hi, rfl⟩ := mem_at0 he
  exact hd i (by omega)⟩
theorem Inp.join {a p : Nat} {x y : List Int} (hx : Inp a p x) (hy : Inp a p y) : Inp a p (joinL x y) := .of (by rw [joinL_len, hx.len]) fun i hi => by
  unfold joinL
  rw [at0_map (by rw [hx.len]; exact hi)]
  have := hx.at i
  have := hy.at i
  omega
/-- all inputs are told -/
theorem inputs_all {a : Nat} : ∀ {p : Nat} {x : List Int}, Inp a p x → x ∈ inputsL a p
  | 0, x, h => by
    have := List.length_eq_zero_iff.mp h.len
    subst this; simp [inputsL]
  | p + 1, x, h => by
    have hne : x ≠ [] := fun z => by have := h.len; rw [z] at this; simp at this
    have hd : Inp a p x.dropLast := ⟨by rw [List.length_dropLast, h.len]; rfl, fun e he => h.dig e (List.dropLast_subset x he)⟩
    have hl := h.dig _ (List.getLast_mem hne)
    have ih := inputs_all hd
    obtain ⟨i, hi, e⟩ := List.getElem_of_mem ih
    have hlast : (x.getLast hne).toNat < a + 1 := by omega
    refine List.mem_map.mpr ⟨i * (a + 1) + (x.getLast hne).toNat, List.mem_range.mpr ?_, ?_⟩
    · have : (i + 1) * (a + 1) ≤ (inputsL a p).length * (a + 1) := Nat.mul_le_mul_right _ hi
      rw [Nat.succ_mul] at this; omega
    · have e1 : (i * (a + 1) + (x.getLast hne).toNat) / (a + 1) = i := by
        rw [Nat.mul_comm, Nat.mul_add_div (by omega), Nat.div_eq_of_lt hlast]; rfl
      have e2 : (i * (a + 1) + (x.getLast hne).toNat) % (a + 1) = (x.getLast hne).toNat := by
        rw [Nat.mul_comm, Nat.mul_add_mod, Nat.mod_eq_of_lt hlast]
      rw [e1, e2, List.getElem?_eq_getElem hi, Option.getD_some, e, Int.toNat_of_nonneg hl.1]
      exact List.dropLast_concat_getLast hne
/-- rows turned by f: what lies below z lay below g z -/
theorem Mono.map {a p a' p' : Nat} {rs : KV} (h : Mono a p rs) {f : List Int × Int → List Int × Int} {g : List Int → List Int} (hin : ∀ r ∈ rs, Inp a' p' (f r).1) (hans : ∀ r ∈ rs, 1 ≤ (f r).2 ∧ (f r).2 ≤ a')
    (hb : ∀ r ∈ rs, ∀ z, Inp a' p' z → below (f r).1 z = true → below r.1 (g z) = true) (h2 : ∀ r ∈ rs, ∀ s ∈ rs, r.2 = s.2 → (f r).2 = (f s).2) : Mono a' p' (rs.map f) := by
  refine ⟨fun r hr => ?_, fun r hr => ?_, fun r hr s hs hne => ?_⟩
  · obtain ⟨q, hq, rfl⟩ := List.mem_map.mp hr
    exact hin q hq
  · obtain ⟨q, hq, rfl⟩ := List.mem_map.mp hr
    exact hans q hq
  · obtain ⟨q, hq, rfl⟩ := List.mem_map.mp hr
    obtain ⟨t, ht, rfl⟩ := List.mem_map.mp hs
    rw [← Bool.not_eq_true]
    intro hag
    have i1 := hin q hq
    have i2 := hin t ht
    have hz := i1.join i2
    have hj := join_below (x := (f q).1) (y := (f t).1) (z := joinL (f q).1 (f t).1) (by rw [i1.len, i2.len]) hag (fun i => (i1.at i).1) (fun i => (i2.at i).1) (by rw [joinL_len])
    rw [below_refl] at hj
    have hj := hj.symm
    rw [Bool.and_eq_true] at hj
    have b1 := hb q hq _ hz hj.1
    have b2 := hb t ht _ hz hj.2
    have hne2 : q.2 ≠ t.2 := fun e => hne (h2 q hq t ht e)
    have := h.nc q hq t ht hne2
    rw [agrees_of (by rw [h.wide q hq, h.wide t ht]) b1 b2] at this
    cases this
theorem valAt_cons {r : List Int × Int} {L : KV} {x : List Int} : valAt (r :: L) x = if below r.1 x = true then r.2 else valAt L x := by
  unfold valAt
  rw [List.find?_cons]
  by_cases h : below r.1 x = true
  · simp [h]
  · simp [h]
theorem valAt_via {c : List Int × Int → Bool} {f : List Int × Int → List Int × Int} {nm : Int → Int} {x y : List Int} (h0 : nm 0 = 0) : ∀ {L : KV}, (∀ r ∈ L, (below r.1 y = true ↔ c r = true ∧ below (f r).1 x = true)) → (∀ r ∈ L, (f r).2 = nm r.2) → valAt ((L.filter c).map f) x = nm (valAt L y)
  | [], _, _ => by simp [valAt, h0]
  | r :: L, hb, h2 => by
    have ih := valAt_via (c := c) (f := f) (nm := nm) (x := x) (y := y) h0 (L := L) (fun s hs => hb s (List.mem_cons_of_mem _ hs)) fun s hs => h2 s (List.mem_cons_of_mem _ hs)
    have hr := hb r List.mem_cons_self
    by_cases hz : below r.1 y = true
    · obtain ⟨h1, h3⟩ := hr.mp hz
      have e1 : valAt (((r :: L).filter c).map f) x = (f r).2 := by
        rw [List.filter_cons_of_pos h1, List.map_cons, valAt_cons, if_pos h3]
      have e2 : valAt (r :: L) y = r.2 := by
        rw [valAt_cons, if_pos hz]
      rw [e1, e2, h2 r List.mem_cons_self]
    · have e2 : valAt (r :: L) y = valAt L y := by
        rw [valAt_cons, if_neg hz]
      rw [e2, ← ih]
      by_cases h1 : c r = true
      · have h3 : ¬ below (f r).1 x = true := fun q => hz (hr.mpr ⟨h1, q⟩)
        rw [List.filter_cons_of_pos h1, List.map_cons, valAt_cons, if_neg h3]
      · rw [List.filter_cons_of_neg h1]
/-! ### orders -/
structure Prm (p : Nat) (o : List Nat) : Prop where
  len : o.length = p
  lt : ∀ k ∈ o, k < p
  inj : ∀ (i j k : Nat), o[i]? = some k → o[j]? = some k → i = j
  sur : ∀ k, k < p → ∃ i : Nat, o[i]? = some k
/-- the input with the places in order -/
def ordL (x : List Int) (o : List Nat) : List Int := o.map fun k => at0 x k
theorem at0_ord {x : List Int} {o : List Nat} {i k : Nat} (h : o[i]? = some k) : at0 (ordL x o) i = at0 x k := by
  unfold ordL at0
  rw [List.getElem?_map, h]; rfl
theorem Inp.ord {a p : Nat} {x : List Int} (h : Inp a p x) {o : List Nat} (ho : o.length = p) : Inp a p (ordL x o) := ⟨by simp [ordL, ho], fun e he => by
  obtain ⟨k, _, rfl⟩ := List.mem_map.mp he
  exact h.at k⟩
theorem mv_at {x : List Int} {o : List Nat} : ∀ (m : Nat) (k : Nat), m ≤ o.length → (∀ i j k : Nat, o[i]? = some k → o[j]? = some k → i = j) → (∀ k ∈ o, k < o.length) →
    at0 ((List.range m).foldl (fun v k => v.set ((o[k]?).getD 0) (at0 x k)) (List.replicate o.length 0)) k = if ∃ i : Nat, i < m ∧ o[i]? = some k then at0 x (o.idxOf k) else 0
  | 0, k, _, _, _ => by
    simp
    by_cases h : k < o.length
    · exact at0_rep h
    · unfold at0; rw [List.getElem?_eq_none (by simp; omega)]; rfl
  | m + 1, k, hm, hinj, hlt => by
    have ih := mv_at (x := x) m k (by omega) hinj hlt
    rw [List.range_succ, List.foldl_append, List.foldl_cons, List.foldl_nil]
    generalize hV : (List.range m).foldl (fun v k => v.set ((o[k]?).getD 0) (at0 x k)) (List.replicate o.length 0) = V at ih
    have hVl : V.length = o.length := by rw [← hV, foldl_len (fun v k => by simp), List.length_replicate]
    have hok : o[m]? = some o[m] := List.getElem?_eq_getElem (by omega)
    have hl := hlt o[m] (List.getElem_mem (by omega))
    rw [hok, Option.getD_some, at0_set (by omega), ih]
    by_cases e : o[m] = k
    · rw [if_pos e]
      have hx : ∃ i : Nat, i < m + 1 ∧ o[i]? = some k := ⟨m, by omega, by rw [hok, e]⟩
      rw [if_pos hx]
      have hmem : k ∈ o := by rw [← e]; exact List.getElem_mem (by omega)
      have hidx : o[o.idxOf k]? = some k := by
        rw [List.getElem?_eq_getElem (List.idxOf_lt_length_of_mem hmem)]
        simp
      rw [hinj _ m k hidx (by rw [hok, e])]
    · rw [if_neg e]
      have : (∃ i : Nat, i < m + 1 ∧ o[i]? = some k) ↔ ∃ i : Nat, i < m ∧ o[i]? = some k := by
        constructor
        · rintro ⟨i, h1, h2⟩
          refine ⟨i, ?_, h2⟩
          by_cases q : i = m
          · subst q; rw [hok] at h2; exact absurd (Option.some.inj h2) e
          · omega
        · rintro ⟨i, h1, h2⟩; exact ⟨i, by omega, h2⟩
      simp only [this]
theorem mvL_at {x : List Int} {o : List Nat} {p : Nat} (h : Prm p o) {i k : Nat} (hi : o[i]? = some k) : at0 (mvL x o) k = at0 x i := by
  have hlen := h.len
  have := mv_at (x := x) (o := o) o.length k (Nat.le_refl _) h.inj (by rw [hlen]; exact h.lt)
  unfold mvL
  rw [this, if_pos ⟨i, (List.getElem?_eq_some_iff.mp hi).1, hi⟩]
  have hmem : k ∈ o := List.mem_of_getElem? hi
  have hidx : o[o.idxOf k]? = some k := by
    rw [List.getElem?_eq_getElem (List.idxOf_lt_length_of_mem hmem)]
    simp
  rw [h.inj _ i k hidx hi]
theorem mv_below {p : Nat} {o : List Nat} (h : Prm p o) {q z : List Int} (hq : q.length = p) : below (mvL q o) z = below q (ordL z o) := by
  rw [Bool.eq_iff_iff, below_iff, below_iff, mvL_len, h.len, hq]
  constructor
  · intro hb i hi
    have hio : i < o.length := by rw [h.len]; exact hi
    have hik : o[i]? = some o[i] := List.getElem?_eq_getElem hio
    have := hb o[i] (h.lt _ (List.getElem_mem hio))
    rw [mvL_at h hik] at this
    rw [at0_ord hik]; exact this
  · intro hb k hk
    obtain ⟨i, hi⟩ := h.sur k hk
    have := hb i (by rw [← h.len]; exact (List.getElem?_eq_some_iff.mp hi).1)
    rw [at0_ord hi] at this
    rw [mvL_at h hi]; exact this
theorem Inp.mv {a p : Nat} {x : List Int} (hx : Inp a p x) {o : List Nat} (h : Prm p o) : Inp a p (mvL x o) := .of (by rw [mvL_len, h.len]) fun k hk => by
  obtain ⟨i, hi⟩ := h.sur k hk
  rw [mvL_at h hi]
  exact hx.at i
def mvR (L : KV) (o : List Nat) : KV := L.map fun r => (mvL r.1 o, r.2)
theorem mono_mv {a p : Nat} {L : KV} (hm : Mono a p L) {o : List Nat} (h : Prm p o) : Mono a p (mvR L o) :=
  hm.map (g := fun z => ordL z o) (fun r hr => (hm.inp r hr).mv h) hm.ans (fun r hr z _ hb => by rw [← mv_below h (hm.wide r hr)]; exact hb) fun _ _ _ _ e => e
theorem val_mv {a p : Nat} {L : KV} (hm : Mono a p L) {o : List Nat} (h : Prm p o) {x : List Int} : valAt (mvR L o) x = valAt L (ordL x o) := by
  have := valAt_via (c := fun _ => true) (f := fun r => (mvL r.1 o, r.2)) (nm := id) (x := x) (y := ordL x o) rfl (L := L) (fun r hr => by simp [mv_below h (hm.wide r hr)]) (fun _ _ => rfl)
  rw [List.filter_eq_self.mpr (fun _ _ => rfl)] at this
  exact this
end Ev

set_option linter.all false
set_option autoImplicit false
set_option maxRecDepth 10000
/-! Plain laws: the values of boxes renamed, fixed, merged; common parts. -/
namespace Ev
open PySem
/-! ### the order turned back -/
def bk (o : List Nat) : List Nat := (List.range o.length).map fun k => o.idxOf k
theorem Prm.get {p : Nat} {o : List Nat} (h : Prm p o) {i : Nat} (hi : i < p) : ∃ k, o[i]? = some k ∧ k < p := by
  have hio : i < o.length := by rw [h.len]; exact hi
  exact ⟨o[i], List.getElem?_eq_getElem hio, h.lt _ (List.getElem_mem hio)⟩
theorem idxOf_get {o : List Nat} {k : Nat} (h : k ∈ o) : o[o.idxOf k]? = some k := by
  rw [List.getElem?_eq_getElem (List.idxOf_lt_length_of_mem h)]
  simp
theorem bk_get {p : Nat} {o : List Nat} (h : Prm p o) {i k : Nat} (hi : o[i]? = some k) : (bk o)[k]? = some i := by
  have hk := h.lt k (List.mem_of_getElem? hi)
  unfold bk
  rw [List.getElem?_map, List.getElem?_range (by rw [h.len]; exact hk)]
  show some (o.idxOf k) = some i
  rw [h.inj _ i k (idxOf_get (List.mem_of_getElem? hi)) hi]
theorem bk_prm {p : Nat} {o : List Nat} (h : Prm p o) : Prm p (bk o) := by
  have hg : ∀ k i : Nat, (bk o)[k]? = some i → o[i]? = some k := fun k i hk => by
    unfold bk at hk
    rw [List.getElem?_map] at hk
    by_cases hl : k < o.length
    · rw [List.getElem?_range hl] at hk
      have hk : o.idxOf k = i := Option.some.inj hk
      obtain ⟨j, hj⟩ := h.sur k (by rw [← h.len]; exact hl)
      rw [← hk]; exact idxOf_get (List.mem_of_getElem? hj)
    · rw [List.getElem?_eq_none (by simp; omega)] at hk; cases hk
  refine ⟨by simp [bk, h.len], fun k hk => ?_, fun i j k hi hj => ?_, fun k hk => ?_⟩
  · obtain ⟨i, hi⟩ := List.mem_iff_getElem?.mp hk
    have := hg i k hi
    rw [← h.len]; exact (List.getElem?_eq_some_iff.mp this).1
  · have h1 := hg i k hi
    have h2 := hg j k hj
    rw [h1] at h2; exact Option.some.inj h2
  · obtain ⟨i, hi, _⟩ := h.get hk
    exact ⟨i, bk_get h hi⟩
theorem ord_bk {a p : Nat} {o : List Nat} (h : Prm p o) {x : List Int} (hx : x.length = p) : ordL (ordL x (bk o)) o = x := by
  refine at0_ext (by simp [ordL, h.len, hx]) fun i hi => ?_
  have hip : i < p := by rw [← h.len]; simpa [ordL] using hi
  obtain ⟨k, hk, hkp⟩ := h.get hip
  rw [at0_ord hk, at0_ord (bk_get h hk)]
theorem at0_to {o : List Nat} {i k : Nat} (h : o[i]? = some k) : at0 (to o) i = (k : Int) := by
  unfold at0
  rw [List.getElem?_map, h]; rfl
/-- the numbers of the places, in the order -/
theorem mv_up {p : Nat} {o : List Nat} (h : Prm p o) : mvL (to (List.range p)) o = to (bk o) := by
  refine at0_ext (by rw [mvL_len]; simp [bk]) fun k hk => ?_
  rw [mvL_len, h.len] at hk
  obtain ⟨i, hi⟩ := h.sur k hk
  have hip : i < p := by rw [← h.len]; exact (List.getElem?_eq_some_iff.mp hi).1
  rw [mvL_at h hi, at0_to (bk_get h hi), at0_to (List.getElem?_range hip)]
/-! ### renamed -/
def nm1 (o : List Nat) : List Int := o.map fun (k : Nat) => 1 + (k : Int)
/-- the old name of a value -/
def old1 (o : List Nat) (z : Int) : Int := if z = 0 then 0 else 1 + (((bk o)[(z - 1).toNat]?).getD 0 : Nat)
theorem nm_at {a : Nat} {o : List Nat} (h : Prm a o) {v : Int} (h1 : 1 ≤ v) (h2 : v ≤ a) : ∃ k : Nat, o[(v - 1).toNat]? = some k ∧ k < a ∧ nameL (nm1 o) v = 1 + (k : Int) := by
  obtain ⟨k, hk, hka⟩ := h.get (i := (v - 1).toNat) (by omega)
  refine ⟨k, hk, hka, ?_⟩
  unfold nameL
  rw [if_neg (by omega)]
  unfold at0 nm1
  rw [List.getElem?_map, hk]; rfl
theorem nm_zero {o : List Nat} : nameL (nm1 o) 0 = 0 := rfl
theorem old_of {a : Nat} {o : List Nat} (h : Prm a o) {i k : Nat} (hi : o[i]? = some k) : old1 o (1 + (k : Int)) = 1 + (i : Int) := by
  unfold old1
  rw [if_neg (by omega), show (1 + (k : Int) - 1).toNat = k by omega, bk_get h hi]; rfl
theorem old_rng {a : Nat} {o : List Nat} (h : Prm a o) {z : Int} (h0 : 0 ≤ z) (h1 : z ≤ a) : 0 ≤ old1 o z ∧ old1 o z ≤ a := by
  by_cases hz : z = 0
  · subst hz; unfold old1; simp
  · obtain ⟨i, hi⟩ := h.sur (z - 1).toNat (by omega)
    have := old_of h hi
    rw [show 1 + (((z - 1).toNat : Nat) : Int) = z by omega] at this
    have := (List.getElem?_eq_some_iff.mp hi).1
    have := h.len
    omega
/-- names and old names are one another's contrary -/
theorem nm_iff {a : Nat} {o : List Nat} (h : Prm a o) {v z : Int} (h0 : 0 ≤ v) (h1 : v ≤ a) (z0 : 0 ≤ z) (z1 : z ≤ a) : (nameL (nm1 o) v = 0 ∨ nameL (nm1 o) v = z) ↔ (v = 0 ∨ v = old1 o z) := by
  by_cases hv : v = 0
  · subst hv; simp [nm_zero]
  · obtain ⟨k, hk, hka, e⟩ := nm_at h (v := v) (by omega) h1
    rw [e]
    constructor
    · rintro (q | q)
      · omega
      · right
        rw [← q, old_of h hk]; omega
    · rintro (q | q)
      · exact absurd q hv
      · right
        by_cases hz : z = 0
        · subst hz; unfold old1 at q; simp at q; omega
        · obtain ⟨i, hi⟩ := h.sur (z - 1).toNat (by omega)
          have ho := old_of h hi
          rw [show 1 + (((z - 1).toNat : Nat) : Int) = z by omega] at ho
          rw [ho] at q
          have : i = (v - 1).toNat := by omega
          subst this
          rw [hk] at hi
          have := Option.some.inj hi
          omega
theorem nm_rng {a : Nat} {o : List Nat} (h : Prm a o) {v : Int} (h0 : 0 ≤ v) (h1 : v ≤ a) : 0 ≤ nameL (nm1 o) v ∧ nameL (nm1 o) v ≤ a := by
  by_cases hv : v = 0
  · subst hv; simp [nm_zero]
  · obtain ⟨k, hk, hka, e⟩ := nm_at h (v := v) (by omega) h1
    omega
theorem at0_mapf {x : List Int} {f : Int → Int} (h0 : f 0 = 0) (i : Nat) : at0 (x.map f) i = f (at0 x i) := by
  unfold at0
  rw [List.getElem?_map]
  cases x[i]? with
  | none => exact h0.symm
  | some v => rfl
theorem ren_below {a p : Nat} {o : List Nat} (h : Prm a o) {q z : List Int} (hq : Inp a p q) (hz : Inp a p z) : below (q.map (nameL (nm1 o))) z = below q (z.map (old1 o)) := by
  rw [Bool.eq_iff_iff, below_iff, below_iff, List.length_map]
  refine forall_congr' fun i => forall_congr' fun hi => ?_
  rw [at0_mapf nm_zero, at0_mapf (by unfold old1; simp)]
  exact nm_iff h (hq.at i).1 (hq.at i).2 (hz.at i).1 (hz.at i).2
theorem Inp.map {a a' p : Nat} {x : List Int} (hx : Inp a p x) {f : Int → Int} (h : ∀ v : Int, 0 ≤ v → v ≤ a → 0 ≤ f v ∧ f v ≤ a') : Inp a' p (x.map f) := ⟨by rw [List.length_map, hx.len], fun e he => by
  obtain ⟨v, hv, rfl⟩ := List.mem_map.mp he
  have := hx.dig v hv
  exact h v this.1 this.2⟩
theorem mono_ren {a p : Nat} {L : KV} (hm : Mono a p L) {o : List Nat} (h : Prm a o) : Mono a p (L.map (renR (nm1 o))) :=
  hm.map (g := fun z => z.map (old1 o)) (fun r hr => (hm.inp r hr).map fun v h0 h1 => nm_rng h h0 h1)
    (fun r hr => by
      have hA := hm.ans r hr
      obtain ⟨k, _, hka, e⟩ := nm_at h hA.1 hA.2
      show 1 ≤ nameL (nm1 o) r.2 ∧ nameL (nm1 o) r.2 ≤ a
      omega)
    (fun r hr z hz hb => by rw [← ren_below h (hm.inp r hr) hz]; exact hb) fun r _ s _ e => by
      show nameL (nm1 o) r.2 = nameL (nm1 o) s.2
      rw [e]
theorem val_ren {a p : Nat} {L : KV} (hm : Mono a p L) {o : List Nat} (h : Prm a o) {x : List Int} (hx : Inp a p x) : valAt (L.map (renR (nm1 o))) x = nameL (nm1 o) (valAt L (x.map (old1 o))) := by
  have := valAt_via (c := fun _ => true) (f := renR (nm1 o)) (nm := nameL (nm1 o)) (x := x) (y := x.map (old1 o)) rfl (L := L) (fun r hr => by simp [renR, ren_below h (hm.inp r hr) hx]) (fun _ _ => rfl)
  rw [List.filter_eq_self.mpr (fun _ _ => rfl)] at this
  exact this
theorem valAt_rng {a p : Nat} {L : KV} (hm : Mono a p L) {x : List Int} : 0 ≤ valAt L x ∧ valAt L x ≤ a := by
  by_cases h : valAt L x = 0
  · rw [h]; omega
  · obtain ⟨r, hr, hb⟩ := valAt_ne h
    rw [valAt_row hm hr hb]
    have := hm.ans r hr
    omega
/-- renamed back -/
theorem nm_back {a : Nat} {o : List Nat} (h : Prm a o) {v : Int} (h0 : 0 ≤ v) (h1 : v ≤ a) : nameL (nm1 (bk o)) (nameL (nm1 o) v) = v := by
  by_cases hv : v = 0
  · subst hv; rfl
  · obtain ⟨k, hk, hka, e⟩ := nm_at h (v := v) (by omega) h1
    rw [e]
    obtain ⟨j, hj, _, e2⟩ := nm_at (bk_prm h) (v := 1 + (k : Int)) (by omega) (by omega)
    rw [show (1 + (k : Int) - 1).toNat = k by omega, bk_get h hk] at hj
    have := Option.some.inj hj
    rw [e2]; omega
theorem old_back {a : Nat} {o : List Nat} (h : Prm a o) {z : Int} (h0 : 0 ≤ z) (h1 : z ≤ a) : old1 o (old1 (bk o) z) = z := by
  by_cases hz : z = 0
  · subst hz; unfold old1; simp
  · obtain ⟨k, hk, hka⟩ := h.get (i := (z - 1).toNat) (by omega)
    have e1 := old_of (bk_prm h) (bk_get h hk)
    rw [show 1 + (((z - 1).toNat : Nat) : Int) = z by omega] at e1
    rw [e1, old_of h hk]
    omega
/-! ### fixed, merged -/
def insL (x : List Int) (i : Nat) (v : Int) : List Int := x.take i ++ [v] ++ x.drop i
theorem insL_len {x : List Int} {i : Nat} {v : Int} (h : i ≤ x.length) : (insL x i v).length = x.length + 1 := by
  simp [insL]; omega
theorem at0_ins {x : List Int} {i j : Nat} {v : Int} (h : i ≤ x.length) : at0 (insL x i v) j = if j < i then at0 x j else if j = i then v else at0 x (j - 1) := by
  unfold insL at0
  rw [List.append_assoc]
  by_cases h1 : j < i
  · rw [if_pos h1, List.getElem?_append_left (by simp; omega), List.getElem?_take_of_lt h1]
  · rw [if_neg h1, List.getElem?_append_right (by simp; omega)]
    have hl : (x.take i).length = i := by simp; omega
    rw [hl]
    by_cases h2 : j = i
    · subst h2; simp
    · rw [if_neg h2, show j - i = (j - i - 1) + 1 by omega, List.cons_append, List.getElem?_cons_succ, List.nil_append, List.getElem?_drop]
      rw [show i + (j - i - 1) = j - 1 by omega]
theorem at0_era {x : List Int} {i j : Nat} : at0 (x.eraseIdx i) j = if j < i then at0 x j else at0 x (j + 1) := by
  unfold at0
  rw [List.getElem?_eraseIdx]
  by_cases h : j < i <;> simp [h]
theorem fix_below {p i : Nat} {v : Int} {r : List Int × Int} {x : List Int} (hr : r.1.length = p + 1) (hx : x.length = p) (hi : i < p + 1) : below r.1 (insL x i v) = true ↔ fixC i v r = true ∧ below (fixF i r).1 x = true := by
  have hel : (r.1.eraseIdx i).length = p := by rw [List.length_eraseIdx]; simp [hr, hi]
  rw [below_iff, below_iff, fixC, Bool.or_eq_true, decide_eq_true_iff, decide_eq_true_iff]
  show _ ↔ _ ∧ ∀ j, j < (r.1.eraseIdx i).length → at0 (r.1.eraseIdx i) j = 0 ∨ at0 (r.1.eraseIdx i) j = at0 x j
  rw [hr, hel]
  constructor
  · intro h
    refine ⟨?_, fun j hj => ?_⟩
    · have := h i hi
      rw [at0_ins (by omega), if_neg (by omega), if_pos rfl] at this
      exact this
    · rw [at0_era]
      by_cases q : j < i
      · have := h j (by omega)
        rw [at0_ins (by omega), if_pos q] at this
        rw [if_pos q]; exact this
      · have := h (j + 1) (by omega)
        rw [at0_ins (by omega), if_neg (by omega), if_neg (by omega)] at this
        rw [if_neg q]; exact this
  · rintro ⟨h1, h2⟩ j hj
    rw [at0_ins (by omega)]
    by_cases q : j < i
    · have := h2 j (by omega)
      rw [at0_era, if_pos q] at this
      rw [if_pos q]; exact this
    · by_cases q2 : j = i
      · subst q2; rw [if_neg q, if_pos rfl]; exact h1
      · have := h2 (j - 1) (by omega)
        rw [at0_era, if_neg (by omega), show j - 1 + 1 = j by omega] at this
        rw [if_neg q, if_neg q2]; exact this
theorem mrg_below {a p f s : Nat} {r : List Int × Int} {x : List Int} (hr : Inp a (p + 1) r.1) (hx : x.length = p) (hfs : f < s) (hs : s < p + 1) : below r.1 (insL x s (at0 x f)) = true ↔ mrgC f s r = true ∧ below (mrgF f s r).1 x = true := by
  have hrl := hr.len
  have hel : ((r.1.set f (max (at0 r.1 f) (at0 r.1 s))).eraseIdx s).length = p := by rw [List.length_eraseIdx]; simp [hrl, hs]
  have n1 := (hr.at f).1
  have n2 := (hr.at s).1
  rw [below_iff, below_iff, mrgC, Bool.or_eq_true, Bool.or_eq_true, decide_eq_true_iff, decide_eq_true_iff, decide_eq_true_iff]
  show _ ↔ _ ∧ ∀ j, j < ((r.1.set f (max (at0 r.1 f) (at0 r.1 s))).eraseIdx s).length → at0 ((r.1.set f (max (at0 r.1 f) (at0 r.1 s))).eraseIdx s) j = 0 ∨ at0 ((r.1.set f (max (at0 r.1 f) (at0 r.1 s))).eraseIdx s) j = at0 x j
  rw [hrl, hel]
  have hat : ∀ j, at0 ((r.1.set f (max (at0 r.1 f) (at0 r.1 s))).eraseIdx s) j = if j < s then (if f = j then max (at0 r.1 f) (at0 r.1 s) else at0 r.1 j) else at0 r.1 (j + 1) := fun j => by
    rw [at0_era, at0_set (by omega), at0_set (by omega)]
    by_cases q : j < s
    · rw [if_pos q, if_pos q]
    · rw [if_neg q, if_neg q, if_neg (by omega)]
  constructor
  · intro h
    have hf := h f (by omega)
    rw [at0_ins (by omega), if_pos hfs] at hf
    have hs' := h s hs
    rw [at0_ins (by omega), if_neg (by omega), if_pos rfl] at hs'
    refine ⟨by omega, fun j hj => ?_⟩
    rw [hat]
    by_cases q : j < s
    · rw [if_pos q]
      by_cases e : f = j
      · subst e; rw [if_pos rfl]; omega
      · rw [if_neg e]
        have := h j (by omega)
        rw [at0_ins (by omega), if_pos q] at this
        exact this
    · rw [if_neg q]
      have := h (j + 1) (by omega)
      rw [at0_ins (by omega), if_neg (by omega), if_neg (by omega)] at this
      exact this
  · rintro ⟨h1, h2⟩ j hj
    have hf := h2 f (by omega)
    rw [hat, if_pos hfs, if_pos rfl] at hf
    rw [at0_ins (by omega)]
    by_cases q : j < s
    · rw [if_pos q]
      by_cases e : f = j
      · subst e; omega
      · have := h2 j (by omega)
        rw [hat, if_pos q, if_neg e] at this
        exact this
    · by_cases q2 : j = s
      · subst q2; rw [if_neg q, if_pos rfl]; omega
      · have := h2 (j - 1) (by omega)
        rw [hat, if_neg (by omega), show j - 1 + 1 = j by omega] at this
        rw [if_neg q, if_neg q2]; exact this
theorem Inp.era {a p i : Nat} {x : List Int} (hx : Inp a (p + 1) x) (hi : i < p + 1) : Inp a p (x.eraseIdx i) := ⟨by rw [List.length_eraseIdx]; simp [hx.len, hi], fun e he => hx.dig e (List.mem_of_mem_eraseIdx he)⟩
theorem Inp.set {a p i : Nat} {x : List Int} (hx : Inp a p x) {v : Int} (h : 0 ≤ v ∧ v ≤ a) : Inp a p (x.set i v) := ⟨by rw [List.length_set, hx.len], fun e he => by
  rcases List.mem_or_eq_of_mem_set he with q | q
  · exact hx.dig e q
  · rw [q]; exact h⟩
theorem mono_fix {a p i : Nat} {v : Int} {L : KV} (hm : Mono a (p + 1) L) (hi : i < p + 1) : Mono a p ((L.filter (fixC i v)).map (fixF i)) := by
  have hs : Mono a (p + 1) (L.filter (fixC i v)) := hm.sub fun q hq => (List.mem_filter.mp hq).1
  exact hs.map (g := fun z => insL z i v) (fun r hr => (hs.inp r hr).era hi) hs.ans (fun r hr z hz hb => (fix_below (hs.wide r hr) hz.len hi).mpr ⟨(List.mem_filter.mp hr).2, hb⟩) fun _ _ _ _ e => e
theorem val_fix {a p i : Nat} {v : Int} {L : KV} (hm : Mono a (p + 1) L) (hi : i < p + 1) {x : List Int} (hx : x.length = p) : valAt ((L.filter (fixC i v)).map (fixF i)) x = valAt L (insL x i v) :=
  valAt_via (nm := id) rfl (fun r hr => fix_below (hm.wide r hr) hx hi) fun _ _ => rfl
theorem mono_mrg {a p f s : Nat} {L : KV} (hm : Mono a (p + 1) L) (hfs : f < s) (hs : s < p + 1) : Mono a p ((L.filter (mrgC f s)).map (mrgF f s)) := by
  have hq : Mono a (p + 1) (L.filter (mrgC f s)) := hm.sub fun q hq => (List.mem_filter.mp hq).1
  exact hq.map (g := fun z => insL z s (at0 z f)) (fun r hr => ((hq.inp r hr).set (by
      have := (hq.inp r hr).at f
      have := (hq.inp r hr).at s
      omega)).era hs) hq.ans (fun r hr z hz hb => (mrg_below (hq.inp r hr) hz.len hfs hs).mpr ⟨(List.mem_filter.mp hr).2, hb⟩) fun _ _ _ _ e => e
theorem val_mrg {a p f s : Nat} {L : KV} (hm : Mono a (p + 1) L) (hfs : f < s) (hs : s < p + 1) {x : List Int} (hx : x.length = p) : valAt ((L.filter (mrgC f s)).map (mrgF f s)) x = valAt L (insL x s (at0 x f)) :=
  valAt_via (nm := id) rfl (fun r hr => mrg_below (hm.inp r hr) hx hfs hs) fun _ _ => rfl
/-! ### the common part -/
theorem com_mem {L M : KV} {t : List Int × Int} : t ∈ L.flatMap (comRow M) ↔ ∃ r ∈ L, ∃ s ∈ M, r.2 = s.2 ∧ agrees r.1 s.1 = true ∧ t = comF r s := by
  rw [List.mem_flatMap]
  constructor
  · rintro ⟨r, hr, h⟩
    obtain ⟨s, hs, rfl⟩ := List.mem_map.mp h
    obtain ⟨h1, h2⟩ := List.mem_filter.mp hs
    simp only [comC, Bool.and_eq_true, decide_eq_true_iff] at h2
    exact ⟨r, hr, s, h1, h2.1, h2.2, rfl⟩
  · rintro ⟨r, hr, s, hs, h1, h2, rfl⟩
    exact ⟨r, hr, List.mem_map.mpr ⟨s, List.mem_filter.mpr ⟨hs, by simp [comC, h1, h2]⟩, rfl⟩⟩
theorem com_below {a p : Nat} {L M : KV} (hl : Mono a p L) (hm : Mono a p M) {r s : List Int × Int} (hr : r ∈ L) (hs : s ∈ M) (ha : agrees r.1 s.1 = true) {x : List Int} (hx : x.length = p) : below (comF r s).1 x = (below r.1 x && below s.1 x) :=
  join_below (by rw [hl.wide r hr, hm.wide s hs]) ha (fun i => ((hl.inp r hr).at i).1) (fun i => ((hm.inp s hs).at i).1) (by rw [hl.wide r hr, hx])
theorem mono_com {a p : Nat} {L M : KV} (hl : Mono a p L) (hm : Mono a p M) : Mono a p (L.flatMap (comRow M)) := by
  refine ⟨fun t ht => ?_, fun t ht => ?_, fun t ht u hu hne => ?_⟩
  · obtain ⟨r, hr, s, hs, _, _, rfl⟩ := com_mem.mp ht
    exact (hl.inp r hr).join (hm.inp s hs)
  · obtain ⟨r, hr, s, hs, _, _, rfl⟩ := com_mem.mp ht
    exact hl.ans r hr
  · obtain ⟨r, hr, s, hs, _, ha, rfl⟩ := com_mem.mp ht
    obtain ⟨r', hr', s', hs', _, ha', rfl⟩ := com_mem.mp hu
    rw [← Bool.not_eq_true]
    intro hag
    have i1 := (hl.inp r hr).join (hm.inp s hs)
    have i2 := (hl.inp r' hr').join (hm.inp s' hs')
    have hz := i1.join i2
    have hj := join_below (x := joinL r.1 s.1) (y := joinL r'.1 s'.1) (z := joinL (joinL r.1 s.1) (joinL r'.1 s'.1)) (by rw [i1.len, i2.len]) hag (fun i => (i1.at i).1) (fun i => (i2.at i).1) (by rw [joinL_len, joinL_len, joinL_len])
    rw [below_refl] at hj
    have hj := hj.symm
    rw [Bool.and_eq_true] at hj
    have b1 := com_below hl hm hr hs ha hz.len
    have b2 := com_below hl hm hr' hs' ha' hz.len
    rw [show below (comF r s).1 _ = true from hj.1] at b1
    rw [show below (comF r' s').1 _ = true from hj.2] at b2
    have b1 := b1.symm
    have b2 := b2.symm
    rw [Bool.and_eq_true] at b1 b2
    have := hl.nc r hr r' hr' hne
    rw [agrees_of (by rw [hl.wide r hr, hl.wide r' hr']) b1.1 b2.1] at this
    cases this
theorem val_com {a p : Nat} {L M : KV} (hl : Mono a p L) (hm : Mono a p M) {x : List Int} (hx : x.length = p) : valAt (L.flatMap (comRow M)) x = valAt L x * (if valAt L x = valAt M x then 1 else 0) := by
  have hc := mono_com hl hm
  by_cases h0 : valAt L x = 0
  · rw [h0, Int.zero_mul]
    refine valAt_none fun t ht => ?_
    obtain ⟨r, hr, s, hs, e, ha, rfl⟩ := com_mem.mp ht
    rw [← Bool.not_eq_true, com_below hl hm hr hs ha hx, Bool.and_eq_true]
    intro z
    rw [valAt_row hl hr z.1] at h0
    have := (hl.ans r hr).1
    omega
  · obtain ⟨r, hr, hb⟩ := valAt_ne h0
    have e1 := valAt_row hl hr hb
    by_cases he : valAt L x = valAt M x
    · rw [if_pos he, Int.mul_one]
      obtain ⟨s, hs, hb2⟩ := valAt_ne (rs := M) (x := x) (by rw [← he]; exact h0)
      have e2 := valAt_row hm hs hb2
      have ha := agrees_of (by rw [hl.wide r hr, hm.wide s hs]) hb hb2
      have ht : comF r s ∈ L.flatMap (comRow M) := com_mem.mpr ⟨r, hr, s, hs, by omega, ha, rfl⟩
      rw [valAt_row hc ht (by rw [com_below hl hm hr hs ha hx, hb, hb2]; rfl), e1]
      rfl
    · rw [if_neg he, Int.mul_zero]
      refine valAt_none fun t ht => ?_
      obtain ⟨r', hr', s', hs', e, ha, rfl⟩ := com_mem.mp ht
      rw [← Bool.not_eq_true, com_below hl hm hr' hs' ha hx, Bool.and_eq_true]
      intro z
      have := valAt_row hl hr' z.1
      have := valAt_row hm hs' z.2
      omega
/-! ### below -/
def valsL (a p : Nat) (rs : KV) : List Int := (inputsL a p).map (valAt rs)
theorem below_vals {a p : Nat} {rs qs : KV} (hm : Mono a p rs) (hq : Mono a p qs) : belowB rs qs = below (valsL a p rs) (valsL a p qs) := by
  have hat : ∀ (ws : KV) (i : Nat) (x : List Int), (inputsL a p)[i]? = some x → at0 (valsL a p ws) i = valAt ws x := fun ws i x hx => by
    unfold valsL at0
    rw [List.getElem?_map, hx]; rfl
  rw [Bool.eq_iff_iff, below_iff]
  unfold belowB
  rw [List.all_eq_true]
  constructor
  · intro h i hi
    have hi' : i < (inputsL a p).length := by simpa [valsL] using hi
    have hx := List.getElem?_eq_getElem hi'
    rw [hat rs i _ hx, hat qs i _ hx]
    generalize (inputsL a p)[i] = x at hx
    have hxi := inputsL_inp a p x (List.mem_of_getElem? hx)
    by_cases h0 : valAt rs x = 0
    · exact .inl h0
    · right
      rw [← valAt_least hm.wide hm.clash] at h0 ⊢
      obtain ⟨r, hr, hb⟩ := valAt_ne h0
      rw [valAt_row hm.least hr hb]
      have hv := of_decide_eq_true (h r hr)
      have hne : valAt qs r.1 ≠ 0 := by
        rw [hv]; have := (hm.least.ans r hr).1; omega
      obtain ⟨s, hs, hb2⟩ := valAt_ne hne
      rw [valAt_row hq hs (below_trans (by rw [hq.wide s hs, hm.least.wide r hr]) hb2 hb), ← hv, valAt_row hq hs hb2]
  · intro h r hr
    have hri := hm.least.inp r hr
    obtain ⟨i, hi⟩ := List.mem_iff_getElem?.mp (inputs_all hri)
    have := h i (by
      have := (List.getElem?_eq_some_iff.mp hi).1
      simpa [valsL] using this)
    rw [hat rs i _ hi, hat qs i _ hi, ← valAt_least hm.wide hm.clash, valAt_row hm.least hr (below_refl _)] at this
    have := (hm.least.ans r hr).1
    rw [decide_eq_true_iff]; omega
end Ev

set_option linter.all false
set_option autoImplicit false
set_option maxRecDepth 10000
/-! Plain laws: the helpers of the law of k06. -/
namespace Ev
open PySem
def fn__law_order : Fn := { np := 2, nl := 6, fr := true, body := [.asg 2 (.comp (.var 3) 3 (.rng [(.var 0)]) none), .fors (.one 3) (.rng [(.var 0)]) [.asg 4 (.bin .mod (.bi .int [(.idx (.var 1) (.var 3))]) (.var 0)), .asg 5 (.idx (.var 2) (.var 3)), .seti 2 (.var 3) (.idx (.var 2) (.var 4)), .seti 2 (.var 4) (.var 5)], .ret (.var 2)] }
def fn__law_back : Fn := { np := 1, nl := 3, fr := true, body := [.asg 1 (.comp (.int 0) 2 (.seq (.var 0)) none), .fors (.one 2) (.rng [(.bi .len [(.var 0)])]) [.seti 1 (.idx (.var 0) (.var 2)) (.var 2)], .ret (.var 1)] }
def fn__law_has_1 : Fn := { np := 4, nl := 6, fr := false, body := [.ifs (.or (.not (.call 8 [(.att (.var 0) "answers"), (.var 1)])) (.not (.call 8 [(.att (.var 0) "places"), (.var 2)]))) [.ret (.bl false)] [], .asg 4 (.call 46 [(.var 1), (.var 2)]), .fors (.one 5) (.rng [(.bi .len [(.var 4)])]) [.ifs (.not (.call 8 [(.cal "__call__" (.var 0) [(.idx (.var 4) (.var 5))]), (.idx (.var 3) (.var 5))])) [.ret (.bl false)] []], .ret (.bl true)] }
def fn__law_renamed_value : Fn := { np := 3, nl := 6, fr := false, body := [.asg 3 (.comp (.int 0) 4 (.rng [(.bin .add (.bi .len [(.var 1)]) (.int 1))]) none), .fors (.one 4) (.rng [(.bi .len [(.var 1)])]) [.seti 3 (.idx (.var 1) (.var 4)) (.bin .add (.var 4) (.int 1))], .asg 5 (.call 49 [(.var 0), (.bi .tuple [(.comp (.idx (.var 3) (.var 4)) 4 (.seq (.var 2)) none)])]), .ifs (.cmp .eq (.var 5) (.int 0)) [.ret (.int 0)] [], .ret (.idx (.var 1) (.bin .sub (.var 5) (.int 1)))] }
def swp (o : List Nat) (k j : Nat) : List Nat := (o.set k ((o[j]?).getD 0)).set j ((o[k]?).getD 0)
theorem swp_get {p : Nat} {o : List Nat} (h : Prm p o) {k j : Nat} (hk : k < p) (hj : j < p) (i : Nat) : (swp o k j)[i]? = o[if i = j then k else if i = k then j else i]? := by
  obtain ⟨x, hx, _⟩ := h.get hk
  obtain ⟨y, hy, _⟩ := h.get hj
  unfold swp
  rw [hx, hy, Option.getD_some, Option.getD_some, List.getElem?_set, List.getElem?_set]
  have hl := h.len
  by_cases e1 : j = i
  · rw [if_pos e1, if_pos e1.symm, if_pos (by simp; omega), hx]
  · have e1' : ¬ i = j := fun z => e1 z.symm
    rw [if_neg e1, if_neg e1']
    by_cases e2 : k = i
    · rw [if_pos e2, if_pos e2.symm, if_pos (by omega), hy]
    · have e2' : ¬ i = k := fun z => e2 z.symm
      rw [if_neg e2, if_neg e2']
theorem swp_prm {p : Nat} {o : List Nat} (h : Prm p o) {k j : Nat} (hk : k < p) (hj : j < p) : Prm p (swp o k j) := by
  refine ⟨by simp [swp, h.len], fun v hv => ?_, fun i i' v h1 h2 => ?_, fun v hv => ?_⟩
  · obtain ⟨i, hi⟩ := List.mem_iff_getElem?.mp hv
    rw [swp_get h hk hj] at hi
    exact h.lt v (List.mem_of_getElem? hi)
  · rw [swp_get h hk hj] at h1 h2
    have := h.inj _ _ v h1 h2
    split at this <;> split at this <;> (try split at this) <;> (try split at this) <;> omega
  · obtain ⟨i, hi⟩ := h.sur v hv
    refine ⟨if i = j then k else if i = k then j else i, ?_⟩
    rw [swp_get h hk hj]
    have : (if (if i = j then k else if i = k then j else i) = j then k else if (if i = j then k else if i = k then j else i) = k then j else (if i = j then k else if i = k then j else i)) = i := by
      by_cases e1 : i = j
      · subst e1; rw [if_pos rfl]
        by_cases e2 : k = i
        · rw [if_pos e2]; exact e2
        · rw [if_neg e2, if_pos rfl]
      · rw [if_neg e1]
        by_cases e2 : i = k
        · subst e2; rw [if_pos rfl, if_pos rfl]
        · rw [if_neg e2, if_neg e1, if_neg e2]
    rw [this]; exact hi
theorem range_prm (p : Nat) : Prm p (List.range p) := ⟨List.length_range, fun k hk => List.mem_range.mp hk, fun i j k h1 h2 => by
  have := range_at h1
  have := range_at h2
  omega, fun k hk => ⟨k, List.getElem?_range hk⟩⟩
theorem to_set {o : List Nat} {k v : Nat} : (to o).set k (v : Int) = to (o.set k v) := by simp [to, List.map_set]
theorem ix_to {o : List Nat} {k v : Nat} (h : o[k]? = some v) : idxD (li (to o)) (.int (k : Int)) = .ok (.int (v : Int)) := ix_li (by rw [List.getElem?_map, h]; rfl)
structure Has06a (T : Tab) : Prop where
  turn : HasTurn T
  same : HasSame T
  lv : HasLV T
  inp : T.fn 46 = some fn__law_inputs
  order : T.fn 100 = some fn__law_order
  back : T.fn 101 = some fn__law_back
  has : T.fn 102 = some fn__law_has_1
  rnv : T.fn 103 = some fn__law_renamed_value
  under : T.fn 104 = some fn_is_below
section
variable {T : Tab} {n : Nat}
theorem ev_lorder (hf : T.fn 100 = some fn__law_order) {m : Nat} {ds : List Int} (hm : 0 < m) (hml : m ≤ 1000) (hd : m ≤ ds.length) : ∃ o : List Nat, ev T (n + 1) 100 [.int m, li ds] = .ok (li (to o)) ∧ Prm m o := by
  have hc := comp_map (T := T) (cf := ev T n) (ρ := [.val (.int m), .val (li ds), .no, .no, .no, .no]) (elt := .var 3) (x := 3) (src := .rng [(.var 0)]) (e := fun k : Nat => .int (k : Int)) (g := fun k : Nat => .int (k : Int)) (xs := List.range m)
    (by simp [range1s hml]) (by simp [anyOwn, lkr]) (by rw [List.length_range]; unfold lineSz; omega) (fun k _ => by simp)
  have e0 : (List.range m).map (fun k : Nat => D.int (k : Int)) = (to (List.range m)).map D.int := by simp [to, List.map_map, Function.comp_def]
  rw [e0] at hc
  obtain ⟨s, key, hP⟩ := evS_inv (T := T) (cf := ev T n) (t := .one 3) (src := .rng [(.var 0)]) (b := [.asg 4 (.bin .mod (.bi .int [(.idx (.var 1) (.var 3))]) (.var 0)), .asg 5 (.idx (.var 2) (.var 3)), .seti 2 (.var 3) (.idx (.var 2) (.var 4)), .seti 2 (.var 4) (.var 5)]) (e := fun k : Nat => .int (k : Int)) (xs := List.range m)
    (env := fun s : List Nat × Sl × Sl × Sl => [.val (.int m), .val (li ds), .own (li (to s.1)), s.2.1, s.2.2.1, s.2.2.2]) (s := (List.range m, .no, .no, .no)) (fun _ s => Prm m s.1)
    (by simp [range1s hml]) (by simp [srcVar, lkr, lkb, anyOwn]) (range_prm m)
    (fun i s k hk hP => by
      obtain ⟨hi, rfl⟩ := range_at hk
      obtain ⟨o, s3, s4, s5⟩ := s
      simp only at hP
      have hj0 := Int.emod_nonneg (at0 ds k) (show (m : Int) ≠ 0 by omega)
      have hj1 := Int.emod_lt_of_pos (at0 ds k) (show (0 : Int) < m by omega)
      obtain ⟨j, hj⟩ : ∃ j : Nat, at0 ds k % (m : Int) = j := ⟨(at0 ds k % (m : Int)).toNat, by omega⟩
      have hjm : j < m := by omega
      obtain ⟨x, hx, _⟩ := hP.get hi
      obtain ⟨y, hy, _⟩ := hP.get hjm
      have i1 := ix_li (ds := ds) (i := k) (at0_get (by omega))
      refine ⟨_, (swp o k j, .val (.int (k : Int)), .val (.int (j : Int)), .val (.int (x : Int))), rfl, .inl ?_, swp_prm hP hi hjm⟩
      simp only [List.set_cons_succ, List.set_cons_zero]
      refine step (asg_v (d := .int (j : Int)) (by simp only [evE_bin, evE_bi, evE_idx, evEs_cons, evEs_nil, evE_var, List.getElem?_cons_zero, List.getElem?_cons_succ, ok_bind, i1, bi_int, bin_mod (show (0 : Int) < m by omega), hj]) rfl) ?_
      simp only [List.set_cons_succ, List.set_cons_zero]
      refine step (asg_v (d := .int (x : Int)) (by simp only [evE_idx, evE_var, List.getElem?_cons_zero, List.getElem?_cons_succ, ok_bind, ix_to hx]) rfl) ?_
      simp only [List.set_cons_succ, List.set_cons_zero]
      refine step (seti_v (j := k) (ds := (to o).map .int) (d := .int (y : Int)) rfl (by simp only [evE_idx, evE_var, List.getElem?_cons_zero, List.getElem?_cons_succ, ok_bind, ix_to hy]) rfl (by simp only [evE_var, List.getElem?_cons_zero, List.getElem?_cons_succ]) (by simp [hP.len]; exact hi)) ?_
      simp only [List.set_cons_succ, List.set_cons_zero]
      refine step (seti_v (j := j) (ds := ((to o).map .int).set k (.int (y : Int))) (d := .int (x : Int)) rfl (by simp only [evE_var, List.getElem?_cons_zero, List.getElem?_cons_succ]) rfl (by simp only [evE_var, List.getElem?_cons_zero, List.getElem?_cons_succ]) (by simp [hP.len]; exact hjm)) ?_
      simp [swp, hx, hy, to, List.map_set])
  obtain ⟨o, s3, s4, s5⟩ := s
  refine ⟨o, ?_, hP⟩
  rw [ev_eq hf rfl]
  have hs0 : startE fn__law_order [.int m, li ds] = [.val (.int m), .val (li ds), .no, .no, .no, .no] := rfl
  rw [hs0]
  have hbody : evSs T (ev T n) fn__law_order.body [.val (.int m), .val (li ds), .no, .no, .no, .no] = .ok (.ret (li (to o)) true) := by
    simp only [fn__law_order]
    refine step (asg_n hc (by simp [lks, anyOwn]) (by simp [fresh])) ?_
    simp only [List.set_cons_succ, List.set_cons_zero]
    refine step key ?_
    simp [isRoot, isOwn]
  rw [hbody]
  simp [fn__law_order]
theorem ev_lback (hf : T.fn 101 = some fn__law_back) {p : Nat} {o : List Nat} (hp : p ≤ 1000) (h : Prm p o) : ev T (n + 1) 101 [li (to o)] = .ok (li (to (bk o))) := by
  have hol := h.len
  have hc := comp_map (T := T) (cf := ev T n) (ρ := [.val (li (to o)), .no, .no]) (elt := .int 0) (x := 2) (src := .seq (.var 0)) (e := D.int) (g := fun _ => .int 0) (xs := to o)
    (by simp) (by simp [anyOwn, lkr, lkb]) (by simp; unfold lineSz; omega) (fun k _ => by simp)
  have e0 : (to o).map (fun _ => D.int 0) = (List.replicate o.length (0 : Int)).map D.int := by
    rw [List.map_const', List.map_replicate]; simp
  rw [e0] at hc
  obtain ⟨s, key, hP, _⟩ := evS_inv (T := T) (cf := ev T n) (t := .one 2) (src := .rng [(.bi .len [(.var 0)])]) (b := [.seti 1 (.idx (.var 0) (.var 2)) (.var 2)]) (e := fun k : Nat => .int (k : Int)) (xs := List.range o.length)
    (env := fun s : List Int × Sl => [.val (li (to o)), .own (li s.1), s.2]) (s := (List.replicate o.length 0, .no)) (fun i s => s.1 = (List.range i).foldl (fun v k => v.set ((o[k]?).getD 0) (at0 (to (List.range p)) k)) (List.replicate o.length 0) ∧ s.1.length = o.length)
    (by simp [range1s (a := o.length) (by omega)]) (by simp [srcVar, lkr, lkb, lkbL, anyOwn]) ⟨rfl, by simp⟩
    (fun i s k hk hP => by
      obtain ⟨hi, rfl⟩ := range_at hk
      obtain ⟨v, s2⟩ := s
      obtain ⟨hP, hvl⟩ := hP
      simp only at hP hvl
      obtain ⟨x, hx, hxp⟩ := h.get (i := k) (by omega)
      refine ⟨_, (v.set x (k : Int), .val (.int (k : Int))), rfl, .inl ?_, ?_, by simp [hvl]⟩
      · simp only [List.set_cons_succ, List.set_cons_zero]
        refine step (seti_v (j := x) (ds := v.map .int) (d := .int (k : Int)) rfl (by simp only [evE_var, List.getElem?_cons_zero, List.getElem?_cons_succ]) rfl (by simp only [evE_idx, evE_var, List.getElem?_cons_zero, List.getElem?_cons_succ, ok_bind, ix_to hx]) (by rw [List.length_map, hvl]; omega)) ?_
        simp [List.map_set]
      · show v.set x (k : Int) = _
        rw [List.range_succ, List.foldl_append, ← hP, List.foldl_cons, List.foldl_nil, hx, Option.getD_some, at0_to (List.getElem?_range (by omega))])
  rw [List.length_range] at hP
  obtain ⟨v, s2⟩ := s
  have hv : v = to (bk o) := by rw [← mv_up h]; exact hP
  subst hv
  rw [ev_eq hf rfl]
  have hs0 : startE fn__law_back [li (to o)] = [.val (li (to o)), .no, .no] := rfl
  rw [hs0]
  have hbody : evSs T (ev T n) fn__law_back.body [.val (li (to o)), .no, .no] = .ok (.ret (li (to (bk o))) true) := by
    simp only [fn__law_back]
    refine step (asg_n hc (by simp [lks, anyOwn]) (by simp [fresh])) ?_
    simp only [List.set_cons_succ, List.set_cons_zero]
    refine step key ?_
    simp [isRoot, isOwn]
  rw [hbody]
  simp [fn__law_back]
theorem ev_lhas (h : Has06a T) {a p : Nat} {rs : KV} (ha : a ≤ 1000) (hp : p ≤ 1000) (hm : Mono a p rs) (hl : rs.length ≤ 10000) (hs : (a + 1) ^ p ≤ 100000) : ev T (n + 3) 102 [boxD a p rs, .int a, .int p, li (valsL a p rs)] = .ok (.bl true) := by
  have hB := h.turn.box
  have s1 := same_int (n := n) h.same a
  have s2 := same_int (n := n) h.same p
  have hin := ev_inputs (n := n + 1) h.inp ha hp hs
  have hlen : (inputsL a p).length ≤ 100000 := by rw [inputsL_len]; exact hs
  have hol : anyOwn (lkr (.rng [(.bi .len [(.var 4)])])) ([.val (boxD a p rs), .val (.int a), .val (.int p), .val (li (valsL a p rs)), .own (.lst ((inputsL a p).map ti)), .no] : Env) = false := by simp [anyOwn, lkr, lkb, lkbL]
  refine ev_of (own := false) (ρ := [.val (boxD a p rs), .val (.int a), .val (.int p), .val (li (valsL a p rs)), .no, .no]) h.has rfl (by simp [startE, fn__law_has_1]) (by simp only [fn__law_has_1]; rfl) rfl ?_
  refine step (skipE ?_) ?_
  · rw [evE_or, evE_not, evE_call]
    simp only [evEs_cons, evEs_nil, att_a hB (i := 0) (a := a) (p := p) (rs := rs) (ρ := [.val (boxD a p rs), .val (.int a), .val (.int p), .val (li (valsL a p rs)), .no, .no]) rfl, att_p hB (i := 0) (a := a) (p := p) (rs := rs) (ρ := [.val (boxD a p rs), .val (.int a), .val (.int p), .val (li (valsL a p rs)), .no, .no]) rfl, evE_not, evE_call, evE_var, List.getElem?_cons_zero, List.getElem?_cons_succ, ok_bind, s1, s2, truth_bl, Bool.not_true, orE_f]
  refine step (asg_n (ds := (inputsL a p).map ti) (by simp only [evE_call, evEs_cons, evEs_nil, evE_var, List.getElem?_cons_zero, List.getElem?_cons_succ, ok_bind, hin]) (by simp [lks, lksL, anyOwn]) (by simp [fresh, h.inp, fn__law_inputs])) ?_
  simp only [List.set_cons_succ, List.set_cons_zero]
  obtain ⟨s, key, _⟩ := evS_inv (T := T) (cf := ev T (n + 2)) (t := .one 5) (src := .rng [(.bi .len [(.var 4)])]) (b := [.ifs (.not (.call 8 [(.cal "__call__" (.var 0) [(.idx (.var 4) (.var 5))]), (.idx (.var 3) (.var 5))])) [.ret (.bl false)] []]) (e := fun k : Nat => .int (k : Int)) (xs := List.range (inputsL a p).length)
    (env := fun s : Sl => [.val (boxD a p rs), .val (.int a), .val (.int p), .val (li (valsL a p rs)), .own (.lst ((inputsL a p).map ti)), s]) (s := .no) (fun _ _ => True)
    (by
      have r := range1 (m := (inputsL a p).length) (by unfold lineSz; omega)
      simp [r]) (by simp [srcVar, lkr, lkb, lkbL, anyOwn]) trivial
    (fun i s k hk _ => by
      obtain ⟨hi, rfl⟩ := range_at hk
      have hx := List.getElem?_eq_getElem hi
      generalize (inputsL a p)[k] = x at hx
      have hxi := inputsL_inp a p x (List.mem_of_getElem? hx)
      have i4 : idxD (.lst ((inputsL a p).map ti)) (.int (k : Int)) = .ok (ti x) := idx_lst (by rw [List.getElem?_map, hx]; rfl)
      have i3 : idxD (li (valsL a p rs)) (.int (k : Int)) = .ok (.int (valAt rs x)) := ix_li (by unfold valsL; rw [List.getElem?_map, hx]; rfl)
      have hv := ev_call (n := n) hB (hm.ok hl hp) hxi.len (a := a)
      rw [valAt_least hm.wide hm.clash] at hv
      have hss := same_int (n := n) h.same (valAt rs x)
      have hcal : evE T (ev T (n + 2)) [.val (boxD a p rs), .val (.int a), .val (.int p), .val (li (valsL a p rs)), .own (.lst ((inputsL a p).map ti)), .val (.int (k : Int))] (.cal "__call__" (.var 0) [(.idx (.var 4) (.var 5))]) = .ok (.int (valAt rs x)) := by
        rw [evE_cal (c := cBox) (fs := [.int a, .int p, trs (leastS rs), ti (kindsOf a rs)]) (ds := [ti x]) (f := 88) (by simp [boxD]) (by simp only [evEs_cons, evEs_nil, evE_idx, evE_var, List.getElem?_cons_zero, List.getElem?_cons_succ, ok_bind, i4]) hB.cls hB.mcall]
        exact hv
      refine ⟨_, .val (.int (k : Int)), rfl, .inl ?_, trivial⟩
      simp only [List.set_cons_succ, List.set_cons_zero]
      refine step (same_ns ?_) (evSs_nil (T := T))
      simp only [evE_call, evEs_cons, evEs_nil, evE_idx, evE_var, List.getElem?_cons_zero, List.getElem?_cons_succ, ok_bind, hcal, i3, hss])
  refine step key ?_
  simp [isRoot, isOwn]
theorem ev_lrnv (h : Has06a T) {a p : Nat} {rs : KV} {RD : D} (hs : seqOf RD = some (rs.map tr)) {o : List Nat} (ha : a ≤ 1000) (hp : p ≤ 1000) (hm : Mono a p rs) (ho : Prm a o) {x : List Int} (hx : Inp a p x) : ev T (n + 3) 103 [RD, li (nm1 o), ti x] = .ok (.int (nameL (nm1 o) (valAt rs (x.map (old1 o))))) := by
  have hol := ho.len
  have hnl : (nm1 o).length = a := by simp [nm1, hol]
  have hxl := hx.len
  have r1 : rangeD [.int ((a : Int) + 1)] = some ((List.range (a + 1)).map fun (k : Nat) => D.int (k : Int)) := by
    have := range1 (m := a + 1) (by unfold lineSz; omega)
    rw [show ((a + 1 : Nat) : Int) = (a : Int) + 1 by omega] at this
    exact this
  have hc := comp_map (T := T) (cf := ev T (n + 2)) (ρ := [.val RD, .val (li (nm1 o)), .val (ti x), .no, .no, .no]) (elt := .int 0) (x := 4) (src := .rng [(.bin .add (.bi .len [(.var 1)]) (.int 1))]) (e := fun k : Nat => .int (k : Int)) (g := fun _ => .int 0) (xs := List.range (a + 1))
    (by simp only [evSrc_rng, evEs_cons, evEs_nil, evE_bin, evE_bi, evE_var, evE_int, List.getElem?_cons_zero, List.getElem?_cons_succ, ok_bind, bi_lenL, List.length_map, hnl, bin_add, r1, ofO_some]) (by simp [anyOwn, lkr, lkb, lkbL]) (by rw [List.length_range]; unfold lineSz; omega) (fun k _ => by simp)
  have e0 : (List.range (a + 1)).map (fun _ => D.int 0) = (List.replicate (a + 1) (0 : Int)).map D.int := by
    rw [List.map_const', List.map_replicate, List.length_range]
  rw [e0] at hc
  obtain ⟨s, key, hvl, hv0, hP⟩ := evS_inv (T := T) (cf := ev T (n + 2)) (t := .one 4) (src := .rng [(.bi .len [(.var 1)])]) (b := [.seti 3 (.idx (.var 1) (.var 4)) (.bin .add (.var 4) (.int 1))]) (e := fun k : Nat => .int (k : Int)) (xs := List.range a)
    (env := fun s : List Int × Option D => [.val RD, .val (li (nm1 o)), .val (ti x), .own (li s.1), slV s.2, .no]) (s := (List.replicate (a + 1) 0, none)) (fun k s => s.1.length = a + 1 ∧ at0 s.1 0 = 0 ∧ ∀ (i c : Nat), i < k → o[i]? = some c → at0 s.1 (1 + c) = 1 + (i : Int))
    (by simp [hnl, range1s ha]) (by simp [srcVar, lkr, lkb, lkbL, anyOwn]) ⟨by simp, at0_rep (by omega), fun i c hi => by omega⟩
    (fun i s k hk hP => by
      obtain ⟨hi, rfl⟩ := range_at hk
      obtain ⟨v, s2⟩ := s
      obtain ⟨hvl, hv0, hP⟩ := hP
      simp only at hvl hv0 hP
      obtain ⟨c, hc, hca⟩ := ho.get hi
      have ix : idxD (li (nm1 o)) (.int (k : Int)) = .ok (.int (1 + (c : Int))) := ix_li (by unfold nm1; rw [List.getElem?_map, hc]; rfl)
      refine ⟨_, (v.set (1 + c) ((k : Int) + 1), some (.int (k : Int))), rfl, .inl ?_, by simp [hvl], ?_, fun j d hj hd => ?_⟩
      · simp only [List.set_cons_succ, List.set_cons_zero]
        refine step (seti_v (j := 1 + c) (ds := v.map .int) (d := .int ((k : Int) + 1)) rfl (by simp only [evE_bin, evE_var, evE_int, List.getElem?_cons_zero, List.getElem?_cons_succ, ok_bind, bin_add]) rfl (by
          simp only [evE_idx, evE_var, List.getElem?_cons_zero, List.getElem?_cons_succ, ok_bind, ix]
          rw [show (1 : Int) + (c : Int) = ((1 + c : Nat) : Int) by omega]) (by rw [List.length_map, hvl]; omega)) ?_
        simp [List.map_set]
      · show at0 (v.set (1 + c) _) 0 = 0
        rw [at0_set (by omega), if_neg (by omega)]; exact hv0
      · show at0 (v.set (1 + c) _) (1 + d) = _
        rw [at0_set (by omega)]
        by_cases e : c = d
        · subst e
          have := ho.inj j k c hd hc
          subst this
          rw [if_pos rfl]; omega
        · rw [if_neg (by omega)]
          refine hP j d ?_ hd
          by_cases q : j = k
          · subst q; rw [hc] at hd; exact absurd (Option.some.inj hd) e
          · omega)
  rw [List.length_range] at hP
  obtain ⟨v, s2⟩ := s
  simp only at hvl hv0 hP
  have hold : ∀ z : Int, 0 ≤ z → z ≤ a → at0 v z.toNat = old1 o z := fun z z0 z1 => by
    by_cases hz : z = 0
    · subst hz; unfold old1; rw [if_pos rfl]; exact hv0
    · obtain ⟨i, hi⟩ := ho.sur (z - 1).toNat (by omega)
      have hia := (List.getElem?_eq_some_iff.mp hi).1
      have h1 := hP i (z - 1).toNat (by omega) hi
      have h2 := old_of ho hi
      rw [show 1 + (((z - 1).toNat : Nat) : Int) = z by omega] at h2
      rw [show 1 + (z - 1).toNat = z.toNat by omega] at h1
      rw [h1, h2]
  have hcx := comp_map (T := T) (cf := ev T (n + 2)) (ρ := [.val RD, .val (li (nm1 o)), .val (ti x), .own (li v), slV s2, .no]) (elt := .idx (.var 3) (.var 4)) (x := 4) (src := .seq (.var 2)) (e := D.int) (g := fun z => .int (old1 o z)) (xs := x)
    (by simp) (by cases s2 <;> simp [anyOwn, lkr, lkb]) (by rw [hxl]; unfold lineSz; omega)
    (fun z hz => by
      have hd := hx.dig z hz
      have ix := ix_li (ds := v) (i := z.toNat) (at0_get (by omega))
      rw [hold z hd.1 hd.2, Int.toNat_of_nonneg hd.1] at ix
      simp only [List.set_cons_succ, List.set_cons_zero, evE_idx, evE_var, List.getElem?_cons_zero, List.getElem?_cons_succ, ok_bind, ix])
  have hval := ev_lvalue (n := n) h.lv hs (x := x.map (old1 o)) (fun r hr => by rw [hm.wide r hr, List.length_map, hxl]; exact Nat.le_refl _) (by rw [List.length_map, hxl]; unfold lineSz; omega)
  have hvr := valAt_rng hm (x := x.map (old1 o))
  refine ev_of (own := false) (ρ := [.val RD, .val (li (nm1 o)), .val (ti x), .no, .no, .no]) h.rnv rfl (by simp [startE, fn__law_renamed_value]) (by simp only [fn__law_renamed_value]; rfl) rfl ?_
  refine step (asg_n hc (by simp [lks, anyOwn]) (by simp [fresh])) ?_
  simp only [List.set_cons_succ, List.set_cons_zero]
  refine step key ?_
  refine step (asg_v (d := .int (valAt rs (x.map (old1 o)))) (by
    rw [evE_call, evEs_cons, evEs_cons, evEs_nil, evE_bi, evEs_cons, hcx, evEs_nil]
    simp only [evE_var, List.getElem?_cons_zero, ok_bind, bi_tupL]
    rw [show (D.tup (x.map fun z => D.int (old1 o z))) = ti (x.map (old1 o)) by simp [ti, List.map_map, Function.comp_def], hval]) rfl) ?_
  simp only [List.set_cons_succ, List.set_cons_zero]
  unfold nameL
  by_cases z : valAt rs (x.map (old1 o)) = 0
  · rw [if_pos z]
    exact takeE (by simp only [evE_cmp, evE_var, evE_int, List.getElem?_cons_zero, List.getElem?_cons_succ, ok_bind, cmp_eqI, decide_eq_true z]) (retI (by simp) (fun _ z => by cases z))
  · rw [if_neg z]
    refine step (skipE (by simp only [evE_cmp, evE_var, evE_int, List.getElem?_cons_zero, List.getElem?_cons_succ, ok_bind, cmp_eqI, decide_eq_false z])) ?_
    have ix := ix_li (ds := nm1 o) (i := (valAt rs (x.map (old1 o)) - 1).toNat) (at0_get (by omega))
    rw [Int.toNat_of_nonneg (by omega)] at ix
    exact retI (by simp only [evE_idx, evE_bin, evE_var, evE_int, List.getElem?_cons_zero, List.getElem?_cons_succ, ok_bind, bin_sub, ix]) (fun _ z => by cases z)
end
end Ev

set_option linter.all false
set_option autoImplicit false
set_option maxRecDepth 10000
/-! Walks: a run of statements is shown forward, by what must hold behind it. -/
namespace Ev
open PySem
/-- how a function ends -/
def fin (fr : Bool) : R Fl → R D
  | .ok (.nx _) => if fr then .bad else .ok .non
  | .ok (.ret d own) => if fr && !own then .bad else .ok d
  | .exc c fs => .exc c fs
  | _ => .bad
/-- what simp does not enter -/
class Hd (α : Type) where
  v : α
def Wp [K : Hd (R Fl → Prop)] (x : R Fl) : Prop := K.v x
def sq [r : Hd (List S)] (T : Tab) (cf : Nat → List D → R D) (x : R Fl) : R Fl := seqS T cf x r.v
def asH [h : Hd (Nat × E × Env)] (T : Tab) (x : R D) : R Fl := asgS T h.v.1 h.v.2.1 h.v.2.2 x
def rtH [h : Hd (E × Env)] (T : Tab) (x : R D) : R Fl := retS T h.v.1 h.v.2 x
def ifH [h : Hd (Env × List S × List S)] (T : Tab) (cf : Nat → List D → R D) (x : R Bool) : R Fl := ifS T cf h.v.1 x h.v.2.1 h.v.2.2
def anH [h : Hd (Env × E)] (T : Tab) (cf : Nat → List D → R D) (x : R D) : R D := andE T cf h.v.1 x h.v.2
def orH [h : Hd (Env × E)] (T : Tab) (cf : Nat → List D → R D) (x : R D) : R D := orE T cf h.v.1 x h.v.2
def itH [h : Hd (Env × E × E)] (T : Tab) (cf : Nat → List D → R D) (x : R Bool) : R D := iteE T cf h.v.1 x h.v.2.1 h.v.2.2
def chH [h : Hd (Env × COp × E)] (T : Tab) (cf : Nat → List D → R D) (x : R Bool) (y : D) : R D := chnE T cf h.v.1 x h.v.2.1 y h.v.2.2
def bd {α β : Type} [f : Hd (α → R β)] (x : R α) : R β := x >>= f.v
/-- the function gives z -/
def KF (fr : Bool) (z : R D) (x : R Fl) : Prop := fin fr x = z
/-- the function gives a value of which Q holds -/
def KX (fr : Bool) (Q : D → Prop) (x : R Fl) : Prop := ∃ d, fin fr x = .ok d ∧ Q d
theorem fin_ret {fr o : Bool} {d : D} (h : fr = true → o = true) : fin fr (.ok (.ret d o)) = .ok d := by
  cases fr <;> cases o <;> simp_all [fin]
/-! ### environments -/
def setAll (ρ : Env) : List (Nat × Sl) → Env
  | [] => ρ
  | p :: ps => setAll (ρ.set p.1 p.2) ps
theorem setAll_nil {ρ : Env} : setAll ρ [] = ρ := nrfl rfl
theorem setAll_cons {ρ : Env} {p : Nat × Sl} {ps : List (Nat × Sl)} : setAll ρ (p :: ps) = setAll (ρ.set p.1 p.2) ps := nrfl rfl
theorem setAll_app : ∀ {a b : List (Nat × Sl)} {ρ : Env}, setAll ρ (a ++ b) = setAll (setAll ρ a) b
  | [], _, _ => rfl
  | p :: a, b, ρ => setAll_app (a := a) (ρ := ρ.set p.1 p.2)
def notOwn : Sl → Bool
  | .no => true
  | .val _ => true
  | _ => false
/-- the same environment, but for junk at J -/
def EqX (J : List Nat) : Nat → Env → Env → Prop
  | _, [], [] => True
  | k, a :: as, b :: bs => (if J.contains k = true then notOwn a = true else a = b) ∧ EqX J (k + 1) as bs
  | _, _, _ => False
theorem EqX_nil {J : List Nat} {k : Nat} : EqX J k [] [] = True := nrfl rfl
def EqC (c : Bool) (a b : Sl) (p : Prop) : Prop := (if c = true then notOwn a = true else a = b) ∧ p
theorem EqC_t {a b : Sl} {p : Prop} : EqC true a b p = (notOwn a = true ∧ p) := by simp [EqC]
theorem EqC_f {a b : Sl} {p : Prop} : EqC false a b p = (a = b ∧ p) := by simp [EqC]
theorem EqX_c {J : List Nat} {k : Nat} {a b : Sl} {as bs : Env} : EqX J k (a :: as) (b :: bs) = EqC (J.contains k) a b (EqX J (k + 1) as bs) := nrfl rfl
theorem notOwn_no : notOwn .no = true := nrfl rfl
theorem notOwn_val {d : D} : notOwn (.val d) = true := nrfl rfl
theorem notOwn_sv {d : Option D} : notOwn (slV d) = true := by cases d <;> rfl
/-- junk -/
def jk (J : List Nat) (js : Nat → Option D) : List (Nat × Sl) := J.map fun j => (j, slV (js j))
theorem jk_nil {js : Nat → Option D} : jk [] js = [] := nrfl rfl
theorem jk_cons {j : Nat} {J : List Nat} {js : Nat → Option D} : jk (j :: J) js = (j, slV (js j)) :: jk J js := nrfl rfl
theorem setJ_get (js : Nat → Option D) : ∀ (J : List Nat) (b : Env) (i : Nat), (setAll b (jk J js))[i]? = if i ∈ J ∧ i < b.length then some (slV (js i)) else b[i]?
  | [], b, i => by simp [jk, setAll]
  | j :: J, b, i => by
    rw [jk_cons, setAll_cons, setJ_get js J, List.length_set, List.getElem?_set]
    by_cases h1 : i ∈ J ∧ i < b.length
    · rw [if_pos h1, if_pos ⟨List.mem_cons_of_mem _ h1.1, h1.2⟩]
    · rw [if_neg h1]
      by_cases h2 : j = i
      · subst h2
        by_cases h3 : j < b.length
        · simp [h3]
        · simp [h3]
      · rw [if_neg h2]
        have : ¬ (i ∈ j :: J ∧ i < b.length) := fun z => by
          rcases List.mem_cons.mp z.1 with q | q
          · exact h2 q.symm
          · exact h1 ⟨q, z.2⟩
        rw [if_neg this]
theorem EqX_get {J : List Nat} : ∀ {k : Nat} {a b : Env}, EqX J k a b → a.length = b.length ∧ ∀ i, if J.contains (k + i) = true then (∀ x, a[i]? = some x → notOwn x = true) else a[i]? = b[i]?
  | k, [], [], _ => ⟨rfl, fun i => by split <;> simp⟩
  | k, x :: a, y :: b, h => by
    have h : (if J.contains k = true then notOwn x = true else x = y) ∧ EqX J (k + 1) a b := h
    obtain ⟨h1, h2⟩ := h
    obtain ⟨e1, e2⟩ := EqX_get h2
    refine ⟨by simp [e1], fun i => ?_⟩
    cases i with
    | zero =>
      rw [Nat.add_zero]
      split
      · rename_i q
        rw [if_pos q] at h1
        intro z hz
        have hz : some x = some z := hz
        cases hz; exact h1
      · rename_i q
        rw [if_neg q] at h1
        simp [h1]
    | succ i =>
      have := e2 i
      rw [show k + 1 + i = k + (i + 1) by omega] at this
      simpa using this
  | _, [], _ :: _, h => h.elim
  | _, _ :: _, [], h => h.elim
theorem EqX_junk {J : List Nat} {a b : Env} (h : EqX J 0 a b) : ∃ js, a = setAll b (jk J js) := by
  obtain ⟨h1, h2⟩ := EqX_get h
  refine ⟨fun j => match a[j]? with
    | some (.val d) => some d
    | _ => none, List.ext_getElem? fun i => ?_⟩
  rw [setJ_get]
  have := h2 i
  rw [Nat.zero_add] at this
  by_cases q : i ∈ J
  · rw [if_pos (by simpa using q)] at this
    by_cases l : i < b.length
    · rw [if_pos ⟨q, l⟩]
      have e : a[i]? = some a[i] := List.getElem?_eq_getElem (by omega)
      have t := this _ e
      rw [e]
      cases hz : a[i] with
      | no => rfl
      | val d => rfl
      | own d => rw [hz] at t; simp [notOwn] at t
      | slf c fs => rw [hz] at t; simp [notOwn] at t
    · rw [if_neg (fun z => l z.2), List.getElem?_eq_none (by omega), List.getElem?_eq_none (by omega)]
  · rw [if_neg (by simpa using q)] at this
    rw [if_neg (fun z => q z.1), this]
/-! ### loops -/
/-- what a turn of a loop has to give -/
def KB {σ : Type} (J : List Nat) (ρ : Env) (u : σ → List (Nat × Sl)) (P Q : σ → Prop) (K : R Fl → Prop) : R Fl → Prop
  | .ok (.nx ρ') => ∃ s, EqX J 0 ρ' (setAll ρ (u s)) ∧ P s
  | .ok (.cont ρ') => ∃ s, EqX J 0 ρ' (setAll ρ (u s)) ∧ P s
  | .ok (.brk ρ') => ∃ s, EqX J 0 ρ' (setAll ρ (u s)) ∧ Q s
  | .ok (.ret d o) => K (.ok (.ret d o))
  | .exc c fs => K (.exc c fs)
  | .bad => False
def okFor (src : Src) (b : List S) (ρ : Env) : Bool := !(match srcVar src with
  | some y => (mutSs b).contains y
  | none => anyOwn (lkr src) ρ)
/-- the state of a loop -/
def stE {σ : Type} (J : List Nat) (ρ : Env) (u : σ → List (Nat × Sl)) (s : σ) (js : Nat → Option D) : Env := setAll ρ (u s ++ jk J js)
theorem stE_of {σ : Type} {J : List Nat} {ρ ρ' : Env} {u : σ → List (Nat × Sl)} {s : σ} (h : EqX J 0 ρ' (setAll ρ (u s))) : ∃ js, ρ' = stE J ρ u s js := by
  obtain ⟨js, e⟩ := EqX_junk h
  exact ⟨js, by rw [stE, setAll_app]; exact e⟩
theorem forR_w {σ α : Type} {J : List Nat} {ρ : Env} {u : σ → List (Nat × Sl)} {P : Nat → σ → Prop} {Q : σ → Prop} {K : R Fl → Prop} {set : Env → D → R Env} {body : Env → R Fl} {e : α → D} {st : Env → α → Env} :
    ∀ {xs : List α} {k : Nat} {s : σ} {js : Nat → Option D}, P k s → (∀ x ∈ xs, ∀ ρ, set ρ (e x) = .ok (st ρ x)) →
      (∀ i s x js, xs[i]? = some x → P (k + i) s → KB J ρ u (P (k + i + 1)) Q K (body (st (stE J ρ u s js) x))) →
      (∃ s' js', forR set body (xs.map e) (stE J ρ u s js) = .ok (.nx (stE J ρ u s' js')) ∧ (P (k + xs.length) s' ∨ Q s')) ∨ (∃ d o, forR set body (xs.map e) (stE J ρ u s js) = .ok (.ret d o) ∧ K (.ok (.ret d o))) ∨ (∃ c fs, forR set body (xs.map e) (stE J ρ u s js) = .exc c fs ∧ K (.exc c fs))
  | [], k, s, js, hP, _, _ => .inl ⟨s, js, rfl, .inl hP⟩
  | x :: xs, k, s, js, hP, ht, hb => by
    have h1 := hb 0 s x js rfl hP
    have ih : ∀ s' js', P (k + 1) s' → _ := fun s' js' hP' => forR_w (set := set) (body := body) (e := e) (st := st) (xs := xs) (k := k + 1) (s := s') (js := js') hP' (fun y hy => ht y (List.mem_cons_of_mem _ hy)) fun i s y js hy hP => by
      have := hb (i + 1) s y js (by simpa using hy) (by rw [show k + (i + 1) = k + 1 + i by omega]; exact hP)
      rw [show k + (i + 1) + 1 = k + 1 + i + 1 by omega] at this
      exact this
    have el : k + (x :: xs).length = k + 1 + xs.length := by simp; omega
    rw [el]
    simp only [List.map_cons, forR, ht x List.mem_cons_self]
    cases hy : body (st (stE J ρ u s js) x) with
    | ok y =>
      rw [hy] at h1
      cases y with
      | nx ρ' =>
        obtain ⟨s', e1, e2⟩ := h1
        obtain ⟨js', rfl⟩ := stE_of e1
        exact ih s' js' e2
      | cont ρ' =>
        obtain ⟨s', e1, e2⟩ := h1
        obtain ⟨js', rfl⟩ := stE_of e1
        exact ih s' js' e2
      | brk ρ' =>
        obtain ⟨s', e1, e2⟩ := h1
        obtain ⟨js', rfl⟩ := stE_of e1
        exact .inl ⟨s', js', rfl, .inr e2⟩
      | ret d o => exact .inr (.inl ⟨d, o, rfl, h1⟩)
    | exc c fs => rw [hy] at h1; exact .inr (.inr ⟨c, fs, rfl, h1⟩)
    | bad => rw [hy] at h1; exact h1.elim
section
variable {T : Tab} {cf : Nat → List D → R D} {ρ : Env} {K : R Fl → Prop}
theorem w_forT {σ α : Type} {t : Tgt} {src : Src} {b r : List S} (xs : List α) (e : α → D) (st : Env → α → Env) (J : List Nat) (u : σ → List (Nat × Sl)) (s0 : σ) (P : Nat → σ → Prop) (Q : σ → Prop)
    (hs : evSrc T cf ρ src = .ok (xs.map e)) (ho : okFor src b ρ = true) (ht : ∀ x ∈ xs, ∀ ρ, setT ρ t (e x) = .ok (st ρ x)) (h0 : EqX J 0 ρ (setAll ρ (u s0))) (hP : P 0 s0) (hPQ : ∀ s, P xs.length s → Q s)
    (hb : ∀ i s x js, xs[i]? = some x → P i s → Wp (K := ⟨KB J ρ u (P (i + 1)) Q K⟩) (evSs T cf b (st (stE J ρ u s js) x)))
    (hk : ∀ s js, Q s → Wp (K := ⟨K⟩) (evSs T cf r (stE J ρ u s js))) : Wp (K := ⟨K⟩) (sq (r := ⟨r⟩) T cf (evS T cf (.fors t src b) ρ)) := by
  obtain ⟨js0, e0⟩ := stE_of h0
  have key := forR_w (J := J) (ρ := ρ) (u := u) (P := P) (Q := Q) (K := K) (set := fun ρ d => setT ρ t d) (body := fun ρ => evSs T cf b ρ) (e := e) (st := st) (xs := xs) (k := 0) (s := s0) (js := js0) hP ht fun i s x js hx hP => by
    rw [Nat.zero_add] at hP ⊢
    exact hb i s x js hx hP
  rw [← e0, Nat.zero_add] at key
  have hev : evS T cf (.fors t src b) ρ = forR (fun ρ d => setT ρ t d) (fun ρ => evSs T cf b ρ) (xs.map e) ρ := by
    unfold okFor at ho
    simp only [evS]
    cases hv : srcVar src with
    | some y =>
      rw [hv] at ho
      simp only [Bool.not_eq_true'] at ho
      simp only [ho]
      rw [hs]; rfl
    | none =>
      rw [hv] at ho
      simp only [Bool.not_eq_true'] at ho
      simp only [ho]
      rw [hs]; rfl
  show Wp (K := ⟨K⟩) (seqS T cf _ r)
  rw [hev]
  rcases key with ⟨s', js', h1, h2⟩ | ⟨d, o, h1, h2⟩ | ⟨c, fs, h1, h2⟩
  · rw [h1, seqS_nx]
    exact hk s' js' (h2.elim (hPQ s') id)
  · rw [h1, seqS_ret]; exact h2
  · rw [h1, seqS_exc]; exact h2
/-- a loop without break -/
theorem w_for {σ α : Type} {t : Nat} {src : Src} {b r : List S} (xs : List α) (e : α → D) (J : List Nat) (u : σ → List (Nat × Sl)) (s0 : σ) (P : Nat → σ → Prop)
    (hs : evSrc T cf ρ src = .ok (xs.map e)) (ho : okFor src b ρ = true) (h0 : EqX J 0 ρ (setAll ρ (u s0))) (hP : P 0 s0)
    (hb : ∀ i s x js, xs[i]? = some x → P i s → Wp (K := ⟨KB J ρ u (P (i + 1)) (P xs.length) K⟩) (evSs T cf b ((stE J ρ u s js).set t (.val (e x)))))
    (hk : ∀ s js, P xs.length s → Wp (K := ⟨K⟩) (evSs T cf r (stE J ρ u s js))) : Wp (K := ⟨K⟩) (sq (r := ⟨r⟩) T cf (evS T cf (.fors (.one t) src b) ρ)) :=
  w_forT xs e (fun ρ x => ρ.set t (.val (e x))) J u s0 P (P xs.length) hs ho (fun _ _ _ => rfl) h0 hP (fun _ h => h) hb hk
/-- a loop with break -/
theorem w_forb {σ α : Type} {t : Nat} {src : Src} {b r : List S} (xs : List α) (e : α → D) (J : List Nat) (u : σ → List (Nat × Sl)) (s0 : σ) (P : Nat → σ → Prop) (Q : σ → Prop)
    (hs : evSrc T cf ρ src = .ok (xs.map e)) (ho : okFor src b ρ = true) (h0 : EqX J 0 ρ (setAll ρ (u s0))) (hP : P 0 s0) (hPQ : ∀ s, P xs.length s → Q s)
    (hb : ∀ i s x js, xs[i]? = some x → P i s → Wp (K := ⟨KB J ρ u (P (i + 1)) Q K⟩) (evSs T cf b ((stE J ρ u s js).set t (.val (e x)))))
    (hk : ∀ s js, Q s → Wp (K := ⟨K⟩) (evSs T cf r (stE J ρ u s js))) : Wp (K := ⟨K⟩) (sq (r := ⟨r⟩) T cf (evS T cf (.fors (.one t) src b) ρ)) :=
  w_forT xs e (fun ρ x => ρ.set t (.val (e x))) J u s0 P Q hs ho (fun _ _ _ => rfl) h0 hP hPQ hb hk
/-- a while -/
theorem whileR_w {σ : Type} {J : List Nat} {u : σ → List (Nat × Sl)} {P Q : σ → Prop} {m : σ → Nat} {c : Env → R Bool} {body : Env → R Fl} 
    (hb : ∀ s js, P s → (c (stE J ρ u s js) = .ok false ∧ Q s) ∨ (c (stE J ρ u s js) = .ok true ∧ KB J ρ u (fun s' => P s' ∧ m s' < m s) Q K (body (stE J ρ u s js)))) :
    ∀ {n : Nat} {s : σ} {js : Nat → Option D}, P s → m s < n →
      (∃ s' js', whileR c body n (stE J ρ u s js) = .ok (.nx (stE J ρ u s' js')) ∧ Q s') ∨ (∃ d o, whileR c body n (stE J ρ u s js) = .ok (.ret d o) ∧ K (.ok (.ret d o))) ∨ (∃ e fs, whileR c body n (stE J ρ u s js) = .exc e fs ∧ K (.exc e fs))
  | 0, s, js, _, hm => by omega
  | n + 1, s, js, hP, hm => by
    simp only [whileR]
    rcases hb s js hP with ⟨h1, h2⟩ | ⟨h1, h2⟩
    · rw [h1]; exact .inl ⟨s, js, rfl, h2⟩
    · rw [h1]
      simp only
      cases hy : body (stE J ρ u s js) with
      | ok y =>
        rw [hy] at h2
        cases y with
        | nx ρ' =>
          obtain ⟨s', e1, e2, e3⟩ := h2
          obtain ⟨js', rfl⟩ := stE_of e1
          exact whileR_w hb e2 (by omega)
        | cont ρ' =>
          obtain ⟨s', e1, e2, e3⟩ := h2
          obtain ⟨js', rfl⟩ := stE_of e1
          exact whileR_w hb e2 (by omega)
        | brk ρ' =>
          obtain ⟨s', e1, e2⟩ := h2
          obtain ⟨js', rfl⟩ := stE_of e1
          exact .inl ⟨s', js', rfl, e2⟩
        | ret d o => exact .inr (.inl ⟨d, o, rfl, h2⟩)
      | exc e fs => rw [hy] at h2; exact .inr (.inr ⟨e, fs, rfl, h2⟩)
      | bad => rw [hy] at h2; exact h2.elim
theorem w_while {σ : Type} {c : E} {b r : List S} (J : List Nat) (u : σ → List (Nat × Sl)) (s0 : σ) (P Q : σ → Prop) (m : σ → Nat) (h0 : EqX J 0 ρ (setAll ρ (u s0))) (hP : P s0) (hm : m s0 < T.wf)
    (hb : ∀ s js, P s → ((evE T cf (stE J ρ u s js) c >>= truth) = .ok false ∧ Q s) ∨ ((evE T cf (stE J ρ u s js) c >>= truth) = .ok true ∧ Wp (K := ⟨KB J ρ u (fun s' => P s' ∧ m s' < m s) Q K⟩) (evSs T cf b (stE J ρ u s js))))
    (hk : ∀ s js, Q s → Wp (K := ⟨K⟩) (evSs T cf r (stE J ρ u s js))) : Wp (K := ⟨K⟩) (sq (r := ⟨r⟩) T cf (evS T cf (.while c b) ρ)) := by
  obtain ⟨js0, e0⟩ := stE_of h0
  have key := whileR_w (K := K) (ρ := ρ) (J := J) (u := u) (P := P) (Q := Q) (m := m) (c := fun ρ => (evE T cf ρ c).bind truth) (body := fun ρ => evSs T cf b ρ) hb (n := T.wf) (s := s0) (js := js0) hP hm
  rw [← e0] at key
  show Wp (K := ⟨K⟩) (seqS T cf _ r)
  simp only [evS]
  rcases key with ⟨s', js', h1, h2⟩ | ⟨d, o, h1, h2⟩ | ⟨c, fs, h1, h2⟩
  · rw [h1, seqS_nx]
    exact hk s' js' h2
  · rw [h1, seqS_ret]; exact h2
  · rw [h1, seqS_exc]; exact h2
/-- where branches meet again -/
def KM {σ : Type} (J : List Nat) (ρ : Env) (u : σ → List (Nat × Sl)) (P : σ → Prop) (K : R Fl → Prop) : R Fl → Prop
  | .ok (.nx ρ') => ∃ s, EqX J 0 ρ' (setAll ρ (u s)) ∧ P s
  | x => K x
theorem w_meet {σ : Type} {x : R Fl} {r : List S} (J : List Nat) (ρ : Env) (u : σ → List (Nat × Sl)) (P : σ → Prop) (hx : Wp (K := ⟨KM J ρ u P K⟩) x) (hk : ∀ s js, P s → Wp (K := ⟨K⟩) (evSs T cf r (stE J ρ u s js))) : Wp (K := ⟨K⟩) (sq (r := ⟨r⟩) T cf x) := by
  unfold Wp at hx
  show Wp (K := ⟨K⟩) (seqS T cf x r)
  cases x with
  | ok y => cases y with
    | nx ρ' =>
      obtain ⟨s', e1, e2⟩ := hx
      obtain ⟨js', rfl⟩ := stE_of e1
      rw [seqS_nx]; exact hk s' js' e2
    | cont ρ' => exact hx
    | brk ρ' => exact hx
    | ret d o => exact hx
  | exc c fs => exact hx
  | bad => exact hx
end
/-! ### what holds behind a run -/
section
variable {T : Tab} {cf : Nat → List D → R D} {ρ : Env} {K : R Fl → Prop}
theorem h_cons {s : S} {r : List S} : evSs T cf (s :: r) ρ = sq (r := ⟨r⟩) T cf (evS T cf s ρ) := evSs_cons
theorem h_asg {i : Nat} {e : E} : evS T cf (.asg i e) ρ = asH (h := ⟨(i, e, ρ)⟩) T (evE T cf ρ e) := evS_asg
theorem h_ret {e : E} : evS T cf (.ret e) ρ = rtH (h := ⟨(e, ρ)⟩) T (evE T cf ρ e) := evS_ret
theorem h_ifs {c : E} {a b : List S} : evS T cf (.ifs c a b) ρ = ifH (h := ⟨(ρ, a, b)⟩) T cf (bd (f := ⟨truth⟩) (evE T cf ρ c)) := evS_ifs
theorem h_expr {e : E} : evS T cf (.expr e) ρ = bd (f := ⟨fun _ => .ok (.nx ρ)⟩) (evE T cf ρ e) := evS_expr
theorem h_asgok {i : Nat} {e : E} {d : D} : asH (h := ⟨(i, e, ρ)⟩) T (.ok d) = .ok (.nx (bindTo T i e d ρ)) := nrfl rfl
theorem h_sqnx {r : List S} : sq (r := ⟨r⟩) T cf (.ok (.nx ρ)) = evSs T cf r ρ := nrfl rfl
theorem bd_ok {α β : Type} {a : α} {f : α → R β} : bd (f := ⟨f⟩) (.ok a) = f a := nrfl rfl
theorem bd_assoc {α β γ : Type} {x : R α} {f : α → R β} {g : β → R γ} : bd (f := ⟨g⟩) (bd (f := ⟨f⟩) x) = bd (f := ⟨fun a => bd (f := ⟨g⟩) (f a)⟩) x := by cases x <;> rfl
theorem bd_bind {α β : Type} {x : R α} {f : α → R β} : (x >>= f) = bd (f := ⟨f⟩) x := nrfl rfl
theorem h_and {a b : E} : evE T cf ρ (.and a b) = anH (h := ⟨(ρ, b)⟩) T cf (evE T cf ρ a) := evE_and
theorem h_or {a b : E} : evE T cf ρ (.or a b) = orH (h := ⟨(ρ, b)⟩) T cf (evE T cf ρ a) := evE_or
theorem h_ife {c a b : E} : evE T cf ρ (.ife c a b) = itH (h := ⟨(ρ, a, b)⟩) T cf (bd (f := ⟨truth⟩) (evE T cf ρ c)) := evE_ife
theorem h_chain {o o' : COp} {a b c : E} : evE T cf ρ (.chain o o' a b c) = bd (f := ⟨fun x => bd (f := ⟨fun y => chH (h := ⟨(ρ, o', c)⟩) T cf (cmpD o x y) y⟩) (evE T cf ρ b)⟩) (evE T cf ρ a) := evE_chain
theorem h_andT {b : E} : anH (h := ⟨(ρ, b)⟩) T cf (.ok (.bl true)) = evE T cf ρ b := nrfl rfl
theorem h_andF {b : E} : anH (h := ⟨(ρ, b)⟩) T cf (.ok (.bl false)) = .ok (.bl false) := nrfl rfl
theorem h_orT {b : E} : orH (h := ⟨(ρ, b)⟩) T cf (.ok (.bl true)) = .ok (.bl true) := nrfl rfl
theorem h_orF {b : E} : orH (h := ⟨(ρ, b)⟩) T cf (.ok (.bl false)) = evE T cf ρ b := nrfl rfl
theorem h_iteT {a b : E} : itH (h := ⟨(ρ, a, b)⟩) T cf (.ok true) = evE T cf ρ a := nrfl rfl
theorem h_iteF {a b : E} : itH (h := ⟨(ρ, a, b)⟩) T cf (.ok false) = evE T cf ρ b := nrfl rfl
theorem w_ifT {a b r : List S} : sq (r := ⟨r⟩) T cf (ifH (h := ⟨(ρ, a, b)⟩) T cf (.ok true)) = evSs T cf (a ++ r) ρ := by
  show seqS T cf (ifS T cf ρ (.ok true) a b) r = _
  rw [ifS_t]
  induction a generalizing ρ with
  | nil => simp
  | cons s a ih =>
    rw [List.cons_append, evSs_cons, evSs_cons]
    cases evS T cf s ρ with
    | ok y => cases y <;> simp [ih]
    | exc c fs => simp
    | bad => rfl
theorem w_ifF {a b r : List S} : sq (r := ⟨r⟩) T cf (ifH (h := ⟨(ρ, a, b)⟩) T cf (.ok false)) = evSs T cf (b ++ r) ρ := by
  have := w_ifT (T := T) (cf := cf) (ρ := ρ) (a := b) (b := a) (r := r)
  rw [← this]; rfl
theorem w_ifMT {a b : List S} : Wp (K := ⟨K⟩) (ifH (h := ⟨(ρ, a, b)⟩) T cf (.ok true)) = Wp (K := ⟨K⟩) (evSs T cf a ρ) := nrfl rfl
theorem w_ifMF {a b : List S} : Wp (K := ⟨K⟩) (ifH (h := ⟨(ρ, a, b)⟩) T cf (.ok false)) = Wp (K := ⟨K⟩) (evSs T cf b ρ) := nrfl rfl
theorem ev_w {n f : Nat} {F : Fn} {ds : List D} {z : R D} (h : T.fn f = some F) (hl : ds.length = F.np) (hi : F.ini = none) {fr : Bool} (hfr : F.fr = fr) (hn : 1 ≤ n) (hw : Wp (K := ⟨KF fr z⟩) (evSs T (ev T (n - 1)) F.body (startE F ds))) : ev T n f ds = z := by
  subst hfr
  obtain ⟨m, rfl⟩ : ∃ m, n = m + 1 := ⟨n - 1, by omega⟩
  rw [ev_eq h hl hi]
  have hw : fin F.fr (evSs T (ev T (m + 1 - 1)) F.body (startE F ds)) = z := hw
  rw [← hw, Nat.add_sub_cancel]
  unfold fin
  rcases evSs T (ev T m) F.body (startE F ds) with (_ | _ | _ | _) | _ | _ <;> rfl
theorem ev_wx {n f : Nat} {F : Fn} {ds : List D} {Q : D → Prop} (h : T.fn f = some F) (hl : ds.length = F.np) (hi : F.ini = none) {fr : Bool} (hfr : F.fr = fr) (hn : 1 ≤ n) (hw : Wp (K := ⟨KX fr Q⟩) (evSs T (ev T (n - 1)) F.body (startE F ds))) : ∃ d, ev T n f ds = .ok d ∧ Q d := by
  obtain ⟨d, h1, h2⟩ := hw
  exact ⟨d, ev_w h hl hi hfr hn h1, h2⟩
theorem sq_ret {e : E} {d : D} {r : List S} : sq (r := ⟨r⟩) T cf (rtH (h := ⟨(e, ρ)⟩) T (.ok d)) = .ok (.ret d ((fresh T e && isRoot d) || isOwn e ρ)) := nrfl rfl
theorem w_retF {e : E} {d : D} {r : List S} {z : R D} : Wp (K := ⟨KF false z⟩) (sq (r := ⟨r⟩) T cf (rtH (h := ⟨(e, ρ)⟩) T (.ok d))) = (R.ok d = z) := by rw [sq_ret]; simp [Wp, KF, fin]
def rtT (c : Bool) (p q : Prop) : Prop := if c = true then p else q
theorem rtT_t {p q : Prop} : rtT true p q = p := by simp [rtT]
theorem w_retT {e : E} {d : D} {r : List S} {z : R D} : Wp (K := ⟨KF true z⟩) (sq (r := ⟨r⟩) T cf (rtH (h := ⟨(e, ρ)⟩) T (.ok d))) = rtT ((fresh T e && isRoot d) || isOwn e ρ) (R.ok d = z) (R.bad = z) := by
  rw [sq_ret]; cases ((fresh T e && isRoot d) || isOwn e ρ) <;> simp [Wp, KF, fin, rtT]
theorem w_retXF {e : E} {d : D} {r : List S} {Q : D → Prop} : Wp (K := ⟨KX false Q⟩) (sq (r := ⟨r⟩) T cf (rtH (h := ⟨(e, ρ)⟩) T (.ok d))) = Q d := by rw [sq_ret]; simp [Wp, KX, fin]
theorem w_retXT {e : E} {d : D} {r : List S} {Q : D → Prop} : Wp (K := ⟨KX true Q⟩) (sq (r := ⟨r⟩) T cf (rtH (h := ⟨(e, ρ)⟩) T (.ok d))) = rtT ((fresh T e && isRoot d) || isOwn e ρ) (Q d) False := by
  rw [sq_ret]; cases ((fresh T e && isRoot d) || isOwn e ρ) <;> simp [Wp, KX, fin, rtT]
theorem w_nxF {z : R D} : Wp (K := ⟨KF false z⟩) (.ok (.nx ρ)) = (R.ok .non = z) := by simp [Wp, KF, fin]
theorem w_nxXF {Q : D → Prop} : Wp (K := ⟨KX false Q⟩) (.ok (.nx ρ)) = Q .non := by simp [Wp, KX, fin]
theorem w_retB {σ : Type} {J : List Nat} {ρ0 : Env} {u : σ → List (Nat × Sl)} {P Q : σ → Prop} {e : E} {d : D} {r : List S} : Wp (K := ⟨KB J ρ0 u P Q K⟩) (sq (r := ⟨r⟩) T cf (rtH (h := ⟨(e, ρ)⟩) T (.ok d))) = Wp (K := ⟨K⟩) (sq (r := ⟨[]⟩) T cf (rtH (h := ⟨(e, ρ)⟩) T (.ok d))) := nrfl rfl
theorem w_retM {σ : Type} {J : List Nat} {ρ0 : Env} {u : σ → List (Nat × Sl)} {P : σ → Prop} {e : E} {d : D} {r : List S} : Wp (K := ⟨KM J ρ0 u P K⟩) (sq (r := ⟨r⟩) T cf (rtH (h := ⟨(e, ρ)⟩) T (.ok d))) = Wp (K := ⟨K⟩) (sq (r := ⟨[]⟩) T cf (rtH (h := ⟨(e, ρ)⟩) T (.ok d))) := nrfl rfl
theorem w_nxB {σ : Type} {J : List Nat} {ρ0 : Env} {u : σ → List (Nat × Sl)} {P Q : σ → Prop} : Wp (K := ⟨KB J ρ0 u P Q K⟩) (.ok (.nx ρ)) = ∃ s, EqX J 0 ρ (setAll ρ0 (u s)) ∧ P s := nrfl rfl
theorem w_contB {σ : Type} {J : List Nat} {ρ0 : Env} {u : σ → List (Nat × Sl)} {P Q : σ → Prop} {r : List S} : Wp (K := ⟨KB J ρ0 u P Q K⟩) (sq (r := ⟨r⟩) T cf (.ok (.cont ρ))) = ∃ s, EqX J 0 ρ (setAll ρ0 (u s)) ∧ P s := nrfl rfl
theorem w_brkB {σ : Type} {J : List Nat} {ρ0 : Env} {u : σ → List (Nat × Sl)} {P Q : σ → Prop} {r : List S} : Wp (K := ⟨KB J ρ0 u P Q K⟩) (sq (r := ⟨r⟩) T cf (.ok (.brk ρ))) = ∃ s, EqX J 0 ρ (setAll ρ0 (u s)) ∧ Q s := nrfl rfl
theorem w_nxM {σ : Type} {J : List Nat} {ρ0 : Env} {u : σ → List (Nat × Sl)} {P : σ → Prop} : Wp (K := ⟨KM J ρ0 u P K⟩) (.ok (.nx ρ)) = ∃ s, EqX J 0 ρ (setAll ρ0 (u s)) ∧ P s := nrfl rfl
/-! expressions -/
theorem h_bin {o : BOp} {a b : E} : evE T cf ρ (.bin o a b) = bd (f := ⟨fun x => bd (f := ⟨fun y => binD o x y⟩) (evE T cf ρ b)⟩) (evE T cf ρ a) := evE_bin
theorem h_not {a : E} : evE T cf ρ (.not a) = bd (f := ⟨fun x => bd (f := ⟨fun b => .ok (.bl (!b))⟩) (truth x)⟩) (evE T cf ρ a) := evE_not
def negD : D → R D
  | .int i => .ok (.int (-i))
  | _ => .bad
theorem h_neg {a : E} : evE T cf ρ (.neg a) = bd (f := ⟨negD⟩) (evE T cf ρ a) := by
  rw [evE_neg]; rfl
theorem negD_int {i : Int} : negD (.int i) = .ok (.int (-i)) := rfl
theorem h_cmp {o : COp} {a b : E} : evE T cf ρ (.cmp o a b) = bd (f := ⟨fun x => bd (f := ⟨fun y => bd (f := ⟨fun c => .ok (.bl c)⟩) (cmpD o x y)⟩) (evE T cf ρ b)⟩) (evE T cf ρ a) := evE_cmp
theorem h_tup {es : List E} : evE T cf ρ (.tup es) = bd (f := ⟨fun ds => .ok (.tup ds)⟩) (evEs T cf ρ es) := evE_tup
theorem h_lst {es : List E} : evE T cf ρ (.lst es) = bd (f := ⟨fun ds => .ok (.lst ds)⟩) (evEs T cf ρ es) := evE_lst
theorem h_ddisp {k v : E} : evE T cf ρ (.ddisp true k v) = bd (f := ⟨fun x => bd (f := ⟨fun y => dput (.dN []) x y⟩) (evE T cf ρ v)⟩) (evE T cf ρ k) := evE_ddisp
theorem h_idx {a i : E} : evE T cf ρ (.idx a i) = bd (f := ⟨fun x => bd (f := ⟨fun y => idxD x y⟩) (evE T cf ρ i)⟩) (evE T cf ρ a) := evE_idx
theorem h_slc {a : E} {lo hi : Option E} : evE T cf ρ (.slc a lo hi) = bd (f := ⟨fun x => bd (f := ⟨fun l => bd (f := ⟨fun h => slcD x l h⟩) (evO T cf ρ hi)⟩) (evO T cf ρ lo)⟩) (evE T cf ρ a) := evE_slc
theorem h_rev {a : E} : evE T cf ρ (.rev a) = bd (f := ⟨fun x => revD x⟩) (evE T cf ρ a) := evE_rev
theorem h_call {f : Nat} {es : List E} : evE T cf ρ (.call f es) = bd (f := ⟨fun ds => cf f ds⟩) (evEs T cf ρ es) := evE_call
theorem h_new {f : Nat} {es : List E} : evE T cf ρ (.new f es) = bd (f := ⟨fun ds => cf f ds⟩) (evEs T cf ρ es) := evE_new
theorem h_bi {b : Bi} {es : List E} : evE T cf ρ (.bi b es) = bd (f := ⟨fun ds => biD b ds⟩) (evEs T cf ρ es) := evE_bi
theorem h_isi {a : E} {t : Ty} : evE T cf ρ (.isi a t) = bd (f := ⟨fun x => bd (f := ⟨fun b => .ok (.bl b)⟩) (isTy x t)⟩) (evE T cf ρ a) := evE_isi
theorem h_escons {e : E} {es : List E} : evEs T cf ρ (e :: es) = bd (f := ⟨fun d => bd (f := ⟨fun ds => .ok (d :: ds)⟩) (evEs T cf ρ es)⟩) (evE T cf ρ e) := evEs_cons
def optD : D → R (Option Int)
  | .int i => .ok (some i)
  | _ => .bad
theorem optD_int {i : Int} : optD (.int i) = .ok (some i) := rfl
theorem h_some {e : E} : evO T cf ρ (some e) = bd (f := ⟨optD⟩) (evE T cf ρ e) := by rw [evO_some]; rfl
theorem h_rng {es : List E} : evSrc T cf ρ (.rng es) = bd (f := ⟨fun ds => ofO (rangeD ds)⟩) (evEs T cf ρ es) := evSrc_rng
theorem h_seq {e : E} : evSrc T cf ρ (.seq e) = bd (f := ⟨fun d => ofO (seqOf d)⟩) (evE T cf ρ e) := evSrc_seq
end
end Ev

set_option linter.all false
set_option autoImplicit false
set_option maxRecDepth 10000
/-! Walks: operations, with their conditions as plain arithmetic. -/
namespace Ev
open PySem
abbrev intN (k : Nat) : D := .int (k : Int)
def at_ {α : Type} [Inhabited α] (xs : List α) (i : Nat) : α := xs[i]?.getD default
theorem at_of {α : Type} [Inhabited α] {xs : List α} {i : Nat} {x : α} (h : xs[i]? = some x) : at_ xs i = x := by rw [at_, h]; rfl
theorem at_get {α : Type} [Inhabited α] {xs : List α} {i : Nat} (h : i < xs.length) : xs[i]? = some (at_ xs i) := by rw [at_, List.getElem?_eq_getElem h]; rfl
theorem at_mem {α : Type} [Inhabited α] {xs : List α} {i : Nat} (h : i < xs.length) : at_ xs i ∈ xs := List.mem_of_getElem? (at_get h)
theorem at0_of {xs : List Int} {i : Nat} {x : Int} (h : xs[i]? = some x) : at0 xs i = x := by rw [at0, h]; rfl
theorem at_int {xs : List Int} {i : Nat} : at_ xs i = at0 xs i := rfl
theorem toNat_add1 {k : Nat} : ((k : Int) + 1).toNat = k + 1 := by omega
theorem toNat_1add {k : Nat} : (1 + (k : Int)).toNat = 1 + k := by omega
section
variable {T : Tab} {cf : Nat → List D → R D} {ρ : Env} {K : R Fl → Prop}
/-! ### ranges -/
theorem w_range1 {i : Int} (h1 : -4611686018427387904 ≤ i) (h2 : i < 4611686018427387904) : rangeD [.int i] = some ((List.range i.toNat).map intN) := by
  have h : -(2 ^ 62 : Int) ≤ i ∧ i < 2 ^ 62 := by omega
  simp only [rangeD, if_pos h]
theorem w_range2 {i j : Int} (h1 : -4611686018427387904 ≤ i) (h2 : i < 4611686018427387904) (h3 : -4611686018427387904 ≤ j) (h4 : j < 4611686018427387904) : rangeD [.int i, .int j] = some ((List.range (j - i).toNat).map fun k => .int (i + (k : Int))) := by
  have h : -(2 ^ 62 : Int) ≤ i ∧ i < 2 ^ 62 ∧ -(2 ^ 62 : Int) ≤ j ∧ j < 2 ^ 62 := by omega
  simp only [rangeD, if_pos h]
theorem w_range3 {i j : Int} (h1 : -2305843009213693952 ≤ i) (h2 : i < 2305843009213693952) (h3 : -2305843009213693952 ≤ j) (h4 : j < 2305843009213693952) : rangeD [.int i, .int j, .int (-1)] = some ((List.range (i - j).toNat).map fun k => .int (i - (k : Int))) := by
  have h : True ∧ -(2 ^ 61 : Int) ≤ i ∧ i < 2 ^ 61 ∧ -(2 ^ 61 : Int) ≤ j ∧ j < 2 ^ 61 := ⟨trivial, by omega⟩
  simp only [rangeD]; rw [if_pos h]
/-! ### items -/
theorem w_ixT {x : List Int} {i : Int} (h0 : 0 ≤ i) (h1 : i < x.length) : idxD (.tup (x.map D.int)) (.int i) = .ok (.int (at0 x i.toNat)) := by
  have := ix_ti (x := x) (i := i.toNat) (by omega)
  rw [Int.toNat_of_nonneg h0] at this
  exact this
theorem w_ixL {x : List Int} {i : Int} (h0 : 0 ≤ i) (h1 : i < x.length) : idxD (.lst (x.map D.int)) (.int i) = .ok (.int (at0 x i.toNat)) := by
  have := ix_li (ds := x) (i := i.toNat) (at0_get (by omega))
  rw [Int.toNat_of_nonneg h0] at this
  exact this
theorem w_ixTg {α : Type} [Inhabited α] {e : α → D} {x : List α} {i : Int} (h0 : 0 ≤ i) (h1 : i < x.length) : idxD (.tup (x.map e)) (.int i) = .ok (e (at_ x i.toNat)) := by
  have := idx_tup (a := x.map e) (i := i.toNat) (d := e (at_ x i.toNat)) (by rw [List.getElem?_map, at_get (by omega)]; rfl)
  rw [Int.toNat_of_nonneg h0] at this
  exact this
theorem w_ixLg {α : Type} [Inhabited α] {e : α → D} {x : List α} {i : Int} (h0 : 0 ≤ i) (h1 : i < x.length) : idxD (.lst (x.map e)) (.int i) = .ok (e (at_ x i.toNat)) := by
  have := idx_lst (a := x.map e) (i := i.toNat) (d := e (at_ x i.toNat)) (by rw [List.getElem?_map, at_get (by omega)]; rfl)
  rw [Int.toNat_of_nonneg h0] at this
  exact this
theorem w_ix0T {a : D} {ds : List D} : idxD (.tup (a :: ds)) (.int 0) = .ok a := idx_tup (i := 0) rfl
theorem w_ix1T {a b : D} {ds : List D} : idxD (.tup (a :: b :: ds)) (.int 1) = .ok b := idx_tup (i := 1) rfl
theorem w_ix2T {a b c : D} {ds : List D} : idxD (.tup (a :: b :: c :: ds)) (.int 2) = .ok c := idx_tup (i := 2) rfl
theorem w_ix3T {a b c d : D} {ds : List D} : idxD (.tup (a :: b :: c :: d :: ds)) (.int 3) = .ok d := idx_tup (i := 3) rfl
theorem w_ix0L {a : D} {ds : List D} : idxD (.lst (a :: ds)) (.int 0) = .ok a := idx_lst (i := 0) rfl
theorem w_ix1L {a b : D} {ds : List D} : idxD (.lst (a :: b :: ds)) (.int 1) = .ok b := idx_lst (i := 1) rfl
/-! ### parts -/
theorem w_slcTn {α : Type} {e : α → D} {x : List α} {i : Int} (h0 : 0 ≤ i) : slcD (.tup (x.map e)) none (some i) = .ok (.tup ((x.take i.toNat).map e)) := by
  obtain ⟨k, rfl⟩ : ∃ k : Nat, i = k := ⟨i.toNat, by omega⟩
  have h1 : HT.sIx x.length x.length (some (k : Int)) = min k x.length := by rw [HT.sIx_nat]
  have h2 : HT.sIx x.length 0 none = 0 := rfl
  simp only [slcD, cut, List.length_map, h1, h2, List.drop_zero, Int.toNat_natCast, Nat.sub_zero]
  rw [List.map_take]
  congr 2
  by_cases h : k ≤ x.length
  · rw [Nat.min_eq_left h]
  · rw [Nat.min_eq_right (by omega), List.take_of_length_le (by simp), List.take_of_length_le (by simp; omega)]
theorem w_slcLn {α : Type} {e : α → D} {x : List α} {i : Int} (h0 : 0 ≤ i) : slcD (.lst (x.map e)) none (some i) = .ok (.lst ((x.take i.toNat).map e)) := by
  have := w_slcTn (e := e) (x := x) h0
  simp only [slcD, R.ok.injEq, D.tup.injEq] at this
  simp only [slcD, this]
theorem w_slcTf {α : Type} {e : α → D} {x : List α} {i : Int} (h0 : 0 ≤ i) : slcD (.tup (x.map e)) (some i) none = .ok (.tup ((x.drop i.toNat).map e)) := by
  obtain ⟨k, rfl⟩ : ∃ k : Nat, i = k := ⟨i.toNat, by omega⟩
  have h1 : HT.sIx x.length 0 (some (k : Int)) = min k x.length := by rw [HT.sIx_nat]
  have h2 : HT.sIx x.length x.length none = x.length := rfl
  simp only [slcD, cut, List.length_map, h1, h2, Int.toNat_natCast]
  rw [List.map_drop]
  congr 2
  by_cases h : k ≤ x.length
  · rw [Nat.min_eq_left h, List.take_of_length_le (by simp)]
  · rw [Nat.min_eq_right (by omega), List.drop_of_length_le (by simp), List.drop_of_length_le (by simp; omega)]; simp
theorem w_slcLf {α : Type} {e : α → D} {x : List α} {i : Int} (h0 : 0 ≤ i) : slcD (.lst (x.map e)) (some i) none = .ok (.lst ((x.drop i.toNat).map e)) := by
  have := w_slcTf (e := e) (x := x) h0
  simp only [slcD, R.ok.injEq, D.tup.injEq] at this
  simp only [slcD, this]
theorem w_slcT {α : Type} {e : α → D} {x : List α} {i j : Int} (h0 : 0 ≤ i) (h1 : i ≤ j) (h2 : j ≤ x.length) : slcD (.tup (x.map e)) (some i) (some j) = .ok (.tup (((x.drop i.toNat).take (j.toNat - i.toNat)).map e)) := by
  obtain ⟨k, rfl⟩ : ∃ k : Nat, i = k := ⟨i.toNat, by omega⟩
  obtain ⟨m, rfl⟩ : ∃ k : Nat, j = k := ⟨j.toNat, by omega⟩
  have h1 : HT.sIx x.length 0 (some (k : Int)) = k := by rw [HT.sIx_nat]; omega
  have h2 : HT.sIx x.length x.length (some (m : Int)) = m := by rw [HT.sIx_nat]; omega
  simp only [slcD, cut, List.length_map, h1, h2, Int.toNat_natCast]
  rw [← List.map_drop, ← List.map_take]
theorem w_slcL {α : Type} {e : α → D} {x : List α} {i j : Int} (h0 : 0 ≤ i) (h1 : i ≤ j) (h2 : j ≤ x.length) : slcD (.lst (x.map e)) (some i) (some j) = .ok (.lst (((x.drop i.toNat).take (j.toNat - i.toNat)).map e)) := by
  have := w_slcT (e := e) (x := x) h0 h1 h2
  simp only [slcD, R.ok.injEq, D.tup.injEq] at this
  simp only [slcD, this]
/-! ### numbers -/
theorem w_mulL {i j : Int} (h1 : -18446744073709551616 < i) (h2 : i < 18446744073709551616) : binD .mul (.int i) (.int j) = .ok (.int (i * j)) := bin_mul (.inl (by omega))
theorem w_mulR {i j : Int} (h1 : -18446744073709551616 < j) (h2 : j < 18446744073709551616) : binD .mul (.int i) (.int j) = .ok (.int (i * j)) := bin_mul (.inr (by omega))
theorem w_pow {i j : Int} (h0 : 0 ≤ j) (h1 : j ≤ 1000000) (h2 : -18446744073709551616 < i) (h3 : i < 18446744073709551616) : binD .pow (.int i) (.int j) = .ok (.int (i ^ j.toNat)) := by
  simp only [binD]; rw [if_pos ⟨h0, h1, by omega⟩]
theorem w_addL {α : Type} {e : α → D} {a b : List α} (h : a.length + b.length ≤ 16777216) : binD .add (.lst (a.map e)) (.lst (b.map e)) = .ok (.lst ((a ++ b).map e)) := by
  rw [bin_addL (by simpa [lineSz] using h), List.map_append]
theorem w_addT {α : Type} {e : α → D} {a b : List α} (h : a.length + b.length ≤ 16777216) : binD .add (.tup (a.map e)) (.tup (b.map e)) = .ok (.tup ((a ++ b).map e)) := by
  rw [bin_addT (by simpa [lineSz] using h), List.map_append]
theorem w_addT1 {a : List Int} {v : Int} (h : a.length + 1 ≤ 16777216) : binD .add (.tup (a.map D.int)) (.tup [.int v]) = .ok (.tup ((a ++ [v]).map D.int)) := by
  have := w_addT (e := D.int) (a := a) (b := [v]) (by simpa using h)
  exact this
theorem w_addL1 {α : Type} {e : α → D} {a : List α} {d : D} (v : α) (hv : d = e v) (h : a.length + 1 ≤ 16777216) : binD .add (.lst (a.map e)) (.lst [d]) = .ok (.lst ((a ++ [v]).map e)) := by
  subst hv
  have := w_addL (e := e) (a := a) (b := [v]) (by simpa using h)
  exact this
theorem w_addLi {a : List Int} {v : Int} (h : a.length + 1 ≤ 16777216) : binD .add (.lst (a.map D.int)) (.lst [.int v]) = .ok (.lst ((a ++ [v]).map D.int)) := w_addL1 v rfl h
theorem w_add1L {a : List Int} {v : Int} (h : a.length + 1 ≤ 16777216) : binD .add (.lst [.int v]) (.lst (a.map D.int)) = .ok (.lst ((v :: a).map D.int)) := by
  have := w_addL (e := D.int) (a := [v]) (b := a) (by simpa [Nat.add_comm] using h)
  exact this
/-! ### names -/
def frz1 (ρ : Env) (i : Nat) : Option Sl → Env
  | some (.own d) => ρ.set i (.val d)
  | _ => ρ
theorem frz_nil : freeze [] ρ = ρ := nrfl rfl
theorem frz_cons {i : Nat} {is : List Nat} : freeze (i :: is) ρ = freeze is (frz1 ρ i ρ[i]?) := nrfl rfl
theorem frz1_own {i : Nat} {d : D} : frz1 ρ i (some (.own d)) = ρ.set i (.val d) := nrfl rfl
theorem frz1_val {i : Nat} {d : D} : frz1 ρ i (some (.val d)) = ρ := nrfl rfl
theorem frz1_no {i : Nat} : frz1 ρ i (some .no) = ρ := nrfl rfl
theorem frz1_none {i : Nat} : frz1 ρ i none = ρ := nrfl rfl
theorem frz1_sv {i : Nat} {o : Option D} : frz1 ρ i (some (slV o)) = ρ := by cases o <;> rfl
def bindM (o f : Bool) (is : List Nat) (i : Nat) (ds : List D) (ρ : Env) : Env := (if o = true then freeze is ρ else ρ).set i (if f = true then .own (.lst ds) else .val (.lst ds))
def bmH [h : Hd (Nat × List D × Env)] (o f : Bool) (is : List Nat) : Env := bindM o f is h.v.1 h.v.2.1 h.v.2.2
theorem w_bindL {i : Nat} {e : E} {ds : List D} : bindTo T i e (.lst ds) ρ = bindM (anyOwn (lks e) ρ) (fresh T e) (lks e) i ds ρ := by
  unfold bindM
  cases h : anyOwn (lks e) ρ with
  | true =>
    unfold bindTo kept
    cases hf : fresh T e <;> simp [h, hf, noMut]
  | false =>
    cases hf : fresh T e with
    | true => exact bind_new h hf
    | false => unfold bindTo kept; simp [h, hf]
theorem h_bindL {i : Nat} {e : E} {ds : List D} : bindTo T i e (.lst ds) ρ = bmH (h := ⟨(i, ds, ρ)⟩) (anyOwn (lks e) ρ) (fresh T e) (lks e) := w_bindL
theorem bindM_nf {is : List Nat} {i : Nat} {ds : List D} : bmH (h := ⟨(i, ds, ρ)⟩) false true is = ρ.set i (.own (.lst ds)) := nrfl rfl
theorem bindM_nv {is : List Nat} {i : Nat} {ds : List D} : bmH (h := ⟨(i, ds, ρ)⟩) false false is = ρ.set i (.val (.lst ds)) := nrfl rfl
theorem bindM_of {is : List Nat} {i : Nat} {ds : List D} : bmH (h := ⟨(i, ds, ρ)⟩) true true is = (freeze is ρ).set i (.own (.lst ds)) := nrfl rfl
theorem bindM_ov {is : List Nat} {i : Nat} {ds : List D} : bmH (h := ⟨(i, ds, ρ)⟩) true false is = (freeze is ρ).set i (.val (.lst ds)) := nrfl rfl
def bpH [h : Hd (Tab × Nat × E × D × Env)] (o : Bool) : Env := if o = true then h.v.2.2.2.2.set h.v.2.1 (.val h.v.2.2.2.1) else bindTo h.v.1 h.v.2.1 h.v.2.2.1 h.v.2.2.2.1 h.v.2.2.2.2
theorem w_bindT {i : Nat} {e : E} {ds : List D} : bindTo T i e (.tup ds) ρ = bpH (h := ⟨(T, i, e, .tup ds, ρ)⟩) (noMuts ds) := by
  unfold bpH
  split
  · rename_i h; exact bind_pure h
  · rfl
theorem w_bindI {i : Nat} {e : E} {c : Cl} {ds : List D} : bindTo T i e (.ins c ds) ρ = bpH (h := ⟨(T, i, e, .ins c ds, ρ)⟩) (noMuts ds) := by
  unfold bpH
  split
  · rename_i h; exact bind_pure h
  · rfl
theorem bindP_t {i : Nat} {e : E} {d : D} : bpH (h := ⟨(T, i, e, d, ρ)⟩) true = ρ.set i (.val d) := nrfl rfl
theorem noMuts_ti {x : List Int} : noMuts (x.map D.int) = true := noMut_ti (xs := x)
theorem noMuts_tr {x : KV} : noMuts (x.map tr) = true := noMut_trs (rs := x)
theorem zlks_int {i : Int} : lks (.int i) = [] := by simp only [lks]
theorem zlks_bl {b : Bool} : lks (.bl b) = [] := by simp only [lks]
theorem zlks_str {x : Str} : lks (.str x) = [] := by simp only [lks]
theorem zlks_non  : lks .non = [] := by simp only [lks]
theorem zlks_glob {g : Nat} : lks (.glob g) = [] := by simp only [lks]
theorem zlks_neg {a : E} : lks (.neg a) = [] := by simp only [lks]
theorem zlks_not {a : E} : lks (.not a) = [] := by simp only [lks]
theorem zlks_cmp {o : COp} {a b : E} : lks (.cmp o a b) = [] := by simp only [lks]
theorem zlks_chn {o o' : COp} {a b c : E} : lks (.chain o o' a b c) = [] := by simp only [lks]
theorem zlks_isi {a : E} {t : Ty} : lks (.isi a t) = [] := by simp only [lks]
theorem zlks_isc {a : E} {t : Cl} : lks (.isc a t) = [] := by simp only [lks]
theorem zlks_dnew {t : Bool} : lks (.dnew t) = [] := by simp only [lks]
theorem zlks_slf {x : Str} : lks (.slf x) = [] := by simp only [lks]
theorem zlks_var {i : Nat} : lks (.var i) = [i] := by simp only [lks]
theorem zlks_and {a b : E} : lks (.and a b) = lks a ++ lks b := by simp only [lks]
theorem zlks_or {a b : E} : lks (.or a b) = lks a ++ lks b := by simp only [lks]
theorem zlks_ife {c a b : E} : lks (.ife c a b) = lks a ++ lks b := by simp only [lks]
theorem zlks_tup {es : List E} : lks (.tup es) = lksL es := by simp only [lks]
theorem zlks_lst {es : List E} : lks (.lst es) = lksL es := by simp only [lks]
theorem zlks_idx {a i : E} : lks (.idx a i) = lkb a := by simp only [lks]
theorem zlks_slc {a : E} {x y : Option E} : lks (.slc a x y) = lkb a := by simp only [lks]
theorem zlks_rev {a : E} : lks (.rev a) = lkb a := by simp only [lks]
theorem zlks_bin {o : BOp} {a b : E} : lks (.bin o a b) = lkb a ++ lkb b := by simp only [lks]
theorem zlks_call {f : Nat} {es : List E} : lks (.call f es) = lksL es := by simp only [lks]
theorem zlks_bi {f : Bi} {es : List E} : lks (.bi f es) = lkbL es := by simp only [lks]
theorem zlks_get {d k : E} : lks (.get d k) = lkb d := by simp only [lks]
theorem zlks_getd {d k x : E} : lks (.getd d k x) = lkb d ++ lks x := by simp only [lks]
theorem zlks_ddisp {t : Bool} {k x : E} : lks (.ddisp t k x) = lks k ++ lks x := by simp only [lks]
theorem zlks_comp {e : E} {x : Nat} {s : Src} {c : Option E} : lks (.comp e x s c) = lks e := by simp only [lks]
theorem zlks_sorts {a : E} : lks (.sorts a) = lkb a := by simp only [lks]
theorem zlks_att {a : E} {x : Str} : lks (.att a x) = lkb a := by simp only [lks]
theorem zlks_new {f : Nat} {es : List E} : lks (.new f es) = lksL es := by simp only [lks]
theorem zlks_cal {m : Str} {a : E} {es : List E} : lks (.cal m a es) = lks a ++ lksL es := by simp only [lks]
theorem zlks_eqo {m : Bool} {a b : E} : lks (.eqo m a b) = lks a ++ lks b := by simp only [lks]
theorem zlksL_nil : lksL [] = [] := by simp only [lksL]
theorem zlksL_cons {e : E} {es : List E} : lksL (e :: es) = lks e ++ lksL es := by simp only [lksL]
theorem zlkb_var {i : Nat} : lkb (.var i) = [] := by simp only [lkb]
theorem zlkbL_nil : lkbL [] = [] := by simp only [lkbL]
theorem zlkbL_cons {e : E} {es : List E} : lkbL (e :: es) = lkb e ++ lkbL es := by simp only [lkbL]
theorem zlkr_rng {es : List E} : lkr (.rng es) = [] := by simp only [lkr]
theorem zlkr_seq {e : E} : lkr (.seq e) = lkb e := by simp only [lkr]
theorem zlkb_non  : lkb .non = lks .non := by simp only [lkb]
theorem zlkb_bl {b : Bool} : lkb (.bl b) = lks (.bl b) := by simp only [lkb]
theorem zlkb_int {i : Int} : lkb (.int i) = lks (.int i) := by simp only [lkb]
theorem zlkb_str {x : Str} : lkb (.str x) = lks (.str x) := by simp only [lkb]
theorem zlkb_glob {g : Nat} : lkb (.glob g) = lks (.glob g) := by simp only [lkb]
theorem zlkb_bin {o : BOp} {a b : E} : lkb (.bin o a b) = lks (.bin o a b) := by simp only [lkb]
theorem zlkb_neg {a : E} : lkb (.neg a) = lks (.neg a) := by simp only [lkb]
theorem zlkb_not {a : E} : lkb (.not a) = lks (.not a) := by simp only [lkb]
theorem zlkb_and {a b : E} : lkb (.and a b) = lks (.and a b) := by simp only [lkb]
theorem zlkb_or {a b : E} : lkb (.or a b) = lks (.or a b) := by simp only [lkb]
theorem zlkb_cmp {o : COp} {a b : E} : lkb (.cmp o a b) = lks (.cmp o a b) := by simp only [lkb]
theorem zlkb_chn {o o' : COp} {a b c : E} : lkb (.chain o o' a b c) = lks (.chain o o' a b c) := by simp only [lkb]
theorem zlkb_ife {c a b : E} : lkb (.ife c a b) = lks (.ife c a b) := by simp only [lkb]
theorem zlkb_tup {es : List E} : lkb (.tup es) = lks (.tup es) := by simp only [lkb]
theorem zlkb_lst {es : List E} : lkb (.lst es) = lks (.lst es) := by simp only [lkb]
theorem zlkb_idx {a i : E} : lkb (.idx a i) = lks (.idx a i) := by simp only [lkb]
theorem zlkb_slc {a : E} {x y : Option E} : lkb (.slc a x y) = lks (.slc a x y) := by simp only [lkb]
theorem zlkb_rev {a : E} : lkb (.rev a) = lks (.rev a) := by simp only [lkb]
theorem zlkb_call {f : Nat} {es : List E} : lkb (.call f es) = lks (.call f es) := by simp only [lkb]
theorem zlkb_bi {f : Bi} {es : List E} : lkb (.bi f es) = lks (.bi f es) := by simp only [lkb]
theorem zlkb_get {d k : E} : lkb (.get d k) = lks (.get d k) := by simp only [lkb]
theorem zlkb_getd {d k x : E} : lkb (.getd d k x) = lks (.getd d k x) := by simp only [lkb]
theorem zlkb_comp {e : E} {x : Nat} {s : Src} {c : Option E} : lkb (.comp e x s c) = lks (.comp e x s c) := by simp only [lkb]
theorem zlkb_sorts {a : E} : lkb (.sorts a) = lks (.sorts a) := by simp only [lkb]
theorem zlkb_att {a : E} {x : Str} : lkb (.att a x) = lks (.att a x) := by simp only [lkb]
theorem zlkb_new {f : Nat} {es : List E} : lkb (.new f es) = lks (.new f es) := by simp only [lkb]
theorem zlkb_cal {m : Str} {a : E} {es : List E} : lkb (.cal m a es) = lks (.cal m a es) := by simp only [lkb]
theorem zlkb_eqo {m : Bool} {a b : E} : lkb (.eqo m a b) = lks (.eqo m a b) := by simp only [lkb]
theorem zlkb_dnew {t : Bool} : lkb (.dnew t) = lks (.dnew t) := by simp only [lkb]
theorem zlkb_slf {x : Str} : lkb (.slf x) = lks (.slf x) := by simp only [lkb]
theorem zlkb_isi {a : E} {t : Ty} : lkb (.isi a t) = lks (.isi a t) := by simp only [lkb]
theorem zlkb_isc {a : E} {t : Cl} : lkb (.isc a t) = lks (.isc a t) := by simp only [lkb]
theorem fresh_lst {es : List E} : fresh T (.lst es) = true := by simp only [fresh]
theorem fresh_dnew {t : Bool} : fresh T (.dnew t) = true := by simp only [fresh]
theorem fresh_comp {e : E} {x : Nat} {s : Src} {c : Option E} : fresh T (.comp e x s c) = true := by simp only [fresh]
theorem fresh_sorts {a : E} : fresh T (.sorts a) = true := by simp only [fresh]
theorem fresh_slc {a : E} {x y : Option E} : fresh T (.slc a x y) = true := by simp only [fresh]
theorem fresh_rev {a : E} : fresh T (.rev a) = true := by simp only [fresh]
theorem fresh_bin {o : BOp} {a b : E} : fresh T (.bin o a b) = true := by simp only [fresh]
theorem fresh_non  : fresh T .non = false := by simp only [fresh]
theorem fresh_bl {b : Bool} : fresh T (.bl b) = false := by simp only [fresh]
theorem fresh_int {i : Int} : fresh T (.int i) = false := by simp only [fresh]
theorem fresh_str {x : Str} : fresh T (.str x) = false := by simp only [fresh]
theorem fresh_glob {g : Nat} : fresh T (.glob g) = false := by simp only [fresh]
theorem fresh_neg {a : E} : fresh T (.neg a) = false := by simp only [fresh]
theorem fresh_not {a : E} : fresh T (.not a) = false := by simp only [fresh]
theorem fresh_and {a b : E} : fresh T (.and a b) = false := by simp only [fresh]
theorem fresh_or {a b : E} : fresh T (.or a b) = false := by simp only [fresh]
theorem fresh_cmp {o : COp} {a b : E} : fresh T (.cmp o a b) = false := by simp only [fresh]
theorem fresh_tup {es : List E} : fresh T (.tup es) = false := by simp only [fresh]
theorem fresh_idx {a i : E} : fresh T (.idx a i) = false := by simp only [fresh]
theorem fresh_get {d k : E} : fresh T (.get d k) = false := by simp only [fresh]
theorem fresh_getd {d k x : E} : fresh T (.getd d k x) = false := by simp only [fresh]
theorem fresh_att {a : E} {x : Str} : fresh T (.att a x) = false := by simp only [fresh]
theorem fresh_new {f : Nat} {es : List E} : fresh T (.new f es) = false := by simp only [fresh]
theorem fresh_cal {m : Str} {a : E} {es : List E} : fresh T (.cal m a es) = false := by simp only [fresh]
theorem fresh_eqo {m : Bool} {a b : E} : fresh T (.eqo m a b) = false := by simp only [fresh]
theorem fresh_var {i : Nat} : fresh T (.var i) = false := by simp only [fresh]
theorem fresh_ife {c a b : E} : fresh T (.ife c a b) = (fresh T a && fresh T b) := by simp only [fresh]
theorem fresh_list {es : List E} : fresh T (.bi .list es) = true := by simp only [fresh]
theorem fresh_sorted {es : List E} : fresh T (.bi .sorted es) = true := by simp only [fresh]
theorem fresh_tuple {es : List E} : fresh T (.bi .tuple es) = false := by simp only [fresh]
theorem fresh_len {es : List E} : fresh T (.bi .len es) = false := by simp only [fresh]
theorem fresh_max {es : List E} : fresh T (.bi .max es) = false := by simp only [fresh]
theorem fresh_min {es : List E} : fresh T (.bi .min es) = false := by simp only [fresh]
theorem fresh_sum {es : List E} : fresh T (.bi .sum es) = false := by simp only [fresh]
theorem fresh_call {f : Nat} {F : Fn} {es : List E} (h : T.fn f = some F) (hf : F.fr = true) : fresh T (.call f es) = true := by simp [fresh, h, hf]
def apH [h : Hd (Nat × E × Env)] (s : Option Sl) (x : R D) : R Fl := appS h.v.1 h.v.2.1 h.v.2.2 s x
theorem h_app {i : Nat} {e : E} : evS T cf (.app i e) ρ = apH (h := ⟨(i, e, ρ)⟩) ρ[i]? (evE T cf ρ e) := evS_app
theorem w_app {i : Nat} {e : E} {ds : List D} {d : D} (h1 : ρ[i]? = some (.own (.lst ds))) (h : noMut d = true) (h2 : ds.length < 16777216) : apH (h := ⟨(i, e, ρ)⟩) (some (.own (.lst ds))) (.ok d) = .ok (.nx (ρ.set i (.own (.lst (ds ++ [d]))))) := app_pure h1 h h2
def varD : Option Sl → R D
  | some (.val d) => .ok d
  | some (.own d) => .ok d
  | _ => .bad
theorem h_var {i : Nat} : evE T cf ρ (.var i) = varD ρ[i]? := by rw [evE_var]; rfl
theorem varD_v {d : D} : varD (some (.val d)) = .ok d := rfl
theorem varD_o {d : D} : varD (some (.own d)) = .ok d := rfl
def setiS (T : Tab) (i : Nat) (k e : E) (ρ : Env) (s : Option Sl) (x y : R D) : R Fl := match s with
  | some (.own _) => (match x with
    | .ok d => (match y with
      | .ok y => (match (kept e d ρ)[i]? with
        | some (.own (.lst ds)) => (match y with
          | .int j => (match L2.ixN ds.length j with
            | some j => .ok (.nx ((kept e d ρ).set i (.own (.lst (ds.set j d)))))
            | none => .bad)
          | _ => .bad)
        | some (.own x) => if anyOwn (lks k) ρ then .bad else (match dput x y d with
          | .ok x' => .ok (.nx ((kept e d ρ).set i (.own x')))
          | _ => .bad)
        | _ => .bad)
      | .exc c fs => .exc c fs
      | .bad => .bad)
    | .exc c fs => .exc c fs
    | .bad => .bad)
  | _ => .bad
theorem w_seti {i : Nat} {k e : E} : evS T cf (.seti i k e) ρ = setiS T i k e ρ ρ[i]? (evE T cf ρ e) (evE T cf ρ k) := by
  simp only [evS]
  unfold isOwnM setiS
  cases h : ρ[i]? with
  | none => rfl
  | some s => cases s with
    | own x =>
      simp only [if_true]
      cases evE T cf ρ e with
      | ok d =>
        simp only [ok_bind]
        cases evE T cf ρ k <;> rfl
      | _ => rfl
    | _ => rfl
def stH [h : Hd (Nat × E × E × Env)] (T : Tab) (s : Option Sl) (x y : R D) : R Fl := setiS T h.v.1 h.v.2.1 h.v.2.2.1 h.v.2.2.2 s x y
theorem h_seti {i : Nat} {k e : E} : evS T cf (.seti i k e) ρ = stH (h := ⟨(i, k, e, ρ)⟩) T ρ[i]? (evE T cf ρ e) (evE T cf ρ k) := w_seti
theorem w_setL {i : Nat} {k e : E} {ds : List D} {d : D} {j : Int} (h1 : ρ[i]? = some (.own (.lst ds))) (hd : noMut d = true) (h0 : 0 ≤ j) (hj : j < ds.length) : stH (h := ⟨(i, k, e, ρ)⟩) T (some (.own (.lst ds))) (.ok d) (.ok (.int j)) = .ok (.nx (ρ.set i (.own (.lst (ds.set j.toNat d))))) := by
  have hx : L2.ixN ds.length j = some j.toNat := by
    obtain ⟨k, rfl⟩ : ∃ k : Nat, j = k := ⟨j.toNat, by omega⟩
    unfold L2.ixN; simp; omega
  show setiS T i k e ρ _ _ _ = _
  simp only [setiS, kept_pure hd, h1, hx]
theorem w_setN {i : Nat} {k e : E} {kvs : List (D × D)} {d y x' : D} (hp : dput (.dN kvs) y d = .ok x') (h1 : ρ[i]? = some (.own (.dN kvs))) (hd : noMut d = true) (ha : anyOwn (lks k) ρ = false) : stH (h := ⟨(i, k, e, ρ)⟩) T (some (.own (.dN kvs))) (.ok d) (.ok y) = .ok (.nx (ρ.set i (.own x'))) := by
  show setiS T i k e ρ _ _ _ = _
  simp only [setiS, kept_pure hd, h1, ha, hp]; rfl
/-! ### conditions -/
theorem w_ltT {i j : Int} (h : i < j) : cmpD .lt (.int i) (.int j) = .ok true := by rw [cmp_lt, decide_eq_true h]
theorem w_ltF {i j : Int} (h : j ≤ i) : cmpD .lt (.int i) (.int j) = .ok false := by rw [cmp_lt, decide_eq_false (by omega)]
theorem w_leT {i j : Int} (h : i ≤ j) : cmpD .le (.int i) (.int j) = .ok true := by rw [cmp_le, decide_eq_true h]
theorem w_leF {i j : Int} (h : j < i) : cmpD .le (.int i) (.int j) = .ok false := by rw [cmp_le, decide_eq_false (by omega)]
theorem w_gtT {i j : Int} (h : j < i) : cmpD .gt (.int i) (.int j) = .ok true := by rw [cmp_gt, decide_eq_true h]
theorem w_gtF {i j : Int} (h : i ≤ j) : cmpD .gt (.int i) (.int j) = .ok false := by rw [cmp_gt, decide_eq_false (by omega)]
theorem w_geT {i j : Int} (h : j ≤ i) : cmpD .ge (.int i) (.int j) = .ok true := by rw [cmp_ge, decide_eq_true h]
theorem w_geF {i j : Int} (h : i < j) : cmpD .ge (.int i) (.int j) = .ok false := by rw [cmp_ge, decide_eq_false (by omega)]
theorem w_eqT {i j : Int} (h : i = j) : cmpD .eq (.int i) (.int j) = .ok true := by rw [cmp_eqI, decide_eq_true h]
theorem w_eqF {i j : Int} (h : i ≠ j) : cmpD .eq (.int i) (.int j) = .ok false := by rw [cmp_eqI, decide_eq_false h]
theorem w_neT {i j : Int} (h : i ≠ j) : cmpD .ne (.int i) (.int j) = .ok true := by rw [cmp_neI, decide_eq_false h]; rfl
theorem w_neF {i j : Int} (h : i = j) : cmpD .ne (.int i) (.int j) = .ok false := by rw [cmp_neI, decide_eq_true h]; rfl
def andB (c : Bool) (x : R D) : R D := if c = true then x else .ok (.bl false)
def orB (c : Bool) (x : R D) : R D := if c = true then .ok (.bl true) else x
def iteB (c : Bool) (x y : R D) : R D := if c = true then x else y
theorem w_and {c : Bool} {b : E} : anH (h := ⟨(ρ, b)⟩) T cf (.ok (.bl c)) = andB c (evE T cf ρ b) := by cases c <;> rfl
theorem w_or {c : Bool} {b : E} : orH (h := ⟨(ρ, b)⟩) T cf (.ok (.bl c)) = orB c (evE T cf ρ b) := by cases c <;> rfl
theorem w_ite {c : Bool} {a b : E} : itH (h := ⟨(ρ, a, b)⟩) T cf (.ok c) = iteB c (evE T cf ρ a) (evE T cf ρ b) := by cases c <;> rfl
theorem andB_ok {c q : Bool} : andB c (.ok (.bl q)) = .ok (.bl (c && q)) := by cases c <;> rfl
theorem orB_ok {c q : Bool} : orB c (.ok (.bl q)) = .ok (.bl (c || q)) := by cases c <;> rfl
theorem iteB_ok {c : Bool} {x y : D} : iteB c (.ok x) (.ok y) = .ok (if c = true then x else y) := by cases c <;> rfl
theorem andB_t {x : R D} : andB true x = x := rfl
theorem andB_f {x : R D} : andB false x = .ok (.bl false) := rfl
theorem orB_t {x : R D} : orB true x = .ok (.bl true) := rfl
theorem orB_f {x : R D} : orB false x = x := rfl
theorem iteB_t {x y : R D} : iteB true x y = x := rfl
theorem iteB_f {x y : R D} : iteB false x y = y := rfl
theorem chnB_ok {c : Bool} {o : COp} {y : D} {e : E} : chH (h := ⟨(ρ, o, e)⟩) T cf (.ok c) y = andB c (bd (f := ⟨fun z => bd (f := ⟨fun r => .ok (.bl r)⟩) (cmpD o y z)⟩) (evE T cf ρ e)) := by cases c <;> rfl
/-! ### comprehensions -/
theorem w_map {α : Type} {elt : E} {x : Nat} {src : Src} (xs : List α) (e g : α → D) (hs : evSrc T cf ρ src = .ok (xs.map e)) (ho : anyOwn (x :: lkr src) ρ = false) (hl : xs.length ≤ 16777216)
    (hf : ∀ a ∈ xs, evE T cf (ρ.set x (.val (e a))) elt = .ok (g a)) : evE T cf ρ (.comp elt x src none) = .ok (.lst (xs.map g)) := comp_map hs ho hl hf
theorem w_fil {α : Type} {elt c : E} {x : Nat} {src : Src} (xs : List α) (e g : α → D) (p : α → Bool) (hs : evSrc T cf ρ src = .ok (xs.map e)) (ho : anyOwn (x :: lkr src) ρ = false) (hl : xs.length ≤ 16777216)
    (hc : ∀ a ∈ xs, evE T cf (ρ.set x (.val (e a))) c = .ok (.bl (p a))) (hf : ∀ a ∈ xs, p a = true → evE T cf (ρ.set x (.val (e a))) elt = .ok (g a)) : evE T cf ρ (.comp elt x src (some c)) = .ok (.lst ((xs.filter p).map g)) := comp_if hs ho hl hc hf
def ownB : Option Sl → Bool
  | some (.own _) => true
  | _ => false
theorem anyOwn_nil : anyOwn [] ρ = false := rfl
theorem anyOwn_cons {i : Nat} {is : List Nat} : anyOwn (i :: is) ρ = (ownB ρ[i]? || anyOwn is ρ) := by
  unfold anyOwn
  rw [List.any_cons]
  congr 1
theorem ownB_no : ownB (some .no) = false := rfl
theorem ownB_val {d : D} : ownB (some (.val d)) = false := rfl
theorem ownB_own {d : D} : ownB (some (.own d)) = true := rfl
theorem ownB_none : ownB none = false := rfl
theorem ownB_sv {o : Option D} : ownB (some (slV o)) = false := by cases o <;> rfl
theorem okFor_seq {i : Nat} {b : List S} : okFor (.seq (.var i)) b ρ = !(mutSs b).contains i := rfl
theorem okFor_rng {es : List E} {b : List S} : okFor (.rng es) b ρ = true := by simp [okFor, srcVar, lkr, anyOwn]
end
end Ev

set_option linter.all false
set_option autoImplicit false
set_option maxRecDepth 20000
set_option maxHeartbeats 2000000
namespace Ev
open PySem
local macro_rules | `(tactic| simp_arith [$xs,*]) => `(tactic| simp (maxSteps := 4000000) (disch := first | omega | assumption | (simp only [List.length_map, List.length_range, List.length_replicate, List.length_append, List.length_cons, List.length_nil, List.length_take, List.length_drop, List.length_set, List.length_reverse, List.length_flatten, List.map_replicate, List.sum_replicate_nat, List.map_cons, List.map_nil, Int.toNat_natCast, Int.reduceToNat, Nat.reduceAdd, Nat.reduceMul]; omega) | (simp only [List.getElem?_cons_succ, List.getElem?_cons_zero, noMuts_ti, noMuts_tr, noMut_ti, noMut_tr, noMut_trs, noMut, noMuts, Bool.and_self, Bool.and_true, List.map_cons, List.map_nil]; done) | fail) only [↓h_cons, evSs_nil, h_sqnx, w_ifT, w_ifF, w_ifMT, w_ifMF, List.cons_append, List.nil_append, ↓h_asg, h_asgok, ↓h_ret, ↓h_ifs, ↓h_app, ↓h_seti, ↓h_expr, evS_brk, evS_cont, evS_pass, w_retF, w_retT, w_retXF, w_retXT, w_nxF, w_nxXF, w_retB, w_retM, w_nxB, w_contB, w_brkB, w_nxM, bind_int, bind_bl, bind_str, bind_non, bind_ti, bind_nil, bind_dict, h_bindL, bindM_nf, bindM_nv, bindM_of, bindM_ov, frz_nil, frz_cons, frz1_own, frz1_val, frz1_no, frz1_none, frz1_sv, w_bindT, w_bindI, bindP_t, noMuts_ti, noMuts_tr, noMuts, noMut, rtT_t, isRoot, isOwn, anyOwn_nil, anyOwn_cons, ownB_no, ownB_val, ownB_own, ownB_none, ownB_sv, zlks_int, zlks_bl, zlks_str, zlks_non, zlks_glob, zlks_neg, zlks_not, zlks_cmp, zlks_chn, zlks_isi, zlks_isc, zlks_dnew, zlks_slf, zlks_var, zlks_and, zlks_or, zlks_ife, zlks_tup, zlks_lst, zlks_idx, zlks_slc, zlks_rev, zlks_bin, zlks_call, zlks_bi, zlks_get, zlks_getd, zlks_ddisp, zlks_comp, zlks_sorts, zlks_att, zlks_new, zlks_cal, zlks_eqo, zlksL_nil, zlksL_cons, zlkb_var, zlkbL_nil, zlkbL_cons, zlkr_rng, zlkr_seq, zlkb_non, zlkb_bl, zlkb_int, zlkb_str, zlkb_glob, zlkb_bin, zlkb_neg, zlkb_not, zlkb_and, zlkb_or, zlkb_cmp, zlkb_chn, zlkb_ife, zlkb_tup, zlkb_lst, zlkb_idx, zlkb_slc, zlkb_rev, zlkb_call, zlkb_bi, zlkb_get, zlkb_getd, zlkb_comp, zlkb_sorts, zlkb_att, zlkb_new, zlkb_cal, zlkb_eqo, zlkb_dnew, zlkb_slf, zlkb_isi, zlkb_isc, fresh_lst, fresh_dnew, fresh_comp, fresh_sorts, fresh_slc, fresh_rev, fresh_bin, fresh_non, fresh_bl, fresh_int, fresh_str, fresh_glob, fresh_neg, fresh_not, fresh_and, fresh_or, fresh_cmp, fresh_tup, fresh_idx, fresh_get, fresh_getd, fresh_att, fresh_new, fresh_cal, fresh_eqo, fresh_var, fresh_ife, fresh_list, fresh_sorted, fresh_tuple, fresh_len, fresh_max, fresh_min, fresh_sum, w_app, w_setL, List.set_cons_succ, List.set_cons_zero, List.getElem?_cons_succ, List.getElem?_cons_zero, stE, setAll_cons, setAll_nil, jk_cons, jk_nil, EqX_c, EqC_t, EqC_f, EqX_nil, List.contains_cons, List.contains_nil, Nat.reduceBEq, Nat.reduceAdd, notOwn_no, notOwn_val, notOwn_sv, ↓bd_assoc, bd_ok, varD_v, varD_o, negD_int, optD_int, ↓h_var, ↓evE_non, ↓evE_bl, ↓evE_int, ↓evE_str, ↓evE_glob, ↓h_bin, ↓h_neg, ↓h_not, ↓h_and, ↓h_or, ↓h_ife, ↓h_cmp, ↓h_chain, ↓h_tup, ↓h_lst, ↓evE_dnewT, ↓evE_dnewF, ↓h_ddisp, ↓h_idx, ↓h_slc, ↓h_rev, ↓h_call, ↓h_bi, ↓h_isi, ↓h_new, evEs_nil, ↓h_escons, evO_none, ↓h_some, ↓h_rng, ↓h_seq, ofO_some, h_andT, h_andF, h_orT, h_orF, h_iteT, h_iteF, w_and, w_or, w_ite, andB_ok, orB_ok, iteB_ok, andB_t, andB_f, orB_t, orB_f, iteB_t, iteB_f, chnB_ok, bin_add, bin_sub, w_mulL, w_mulR, bin_fdiv, bin_mod, w_pow, w_addT, w_addT1, w_addLi, w_add1L, mul_l1, w_addL, w_ltT, w_ltF, w_leT, w_leF, w_gtT, w_gtF, w_geT, w_geF, w_eqT, w_eqF, w_neT, w_neF, cmp_lt, cmp_le, cmp_gt, cmp_ge, cmp_eqI, cmp_neI, cmp_eqT, cmp_neT, cmp_eqB, cmp_neB, cmp_inI, cmp_notinI, cmp_inIL, cmp_notinIL, is_nn, is_in, is_bn, is_sn, is_tn, is_ln, isnot_nn, isnot_tn, isnot_in, truth_bl, truth_int, bi_lenT, bi_lenL, bi_lenS, bi_int, bi_intB, bi_tupL, bi_tupT, bi_lstT, bi_lstL, bi_lstN, bi_max2, bi_min2, seqOf_tup, seqOf_lst, seqOf_scr, w_range1, w_range2, w_range3, at_int, w_ixT, w_ixL, w_ixTg, w_ixLg, w_ix0T, w_ix1T, w_ix2T, w_ix3T, w_ix0L, w_ix1L, w_slcTn, w_slcLn, w_slcTf, w_slcLf, w_slcT, w_slcL, List.length_map, List.length_range, Int.toNat_natCast, toNat_add1, toNat_1add, Int.reduceToNat, Int.reduceNeg, Nat.reduceSub, Bool.not_true, Bool.not_false, Bool.and_true, Bool.true_and, Bool.and_false, Bool.false_and, Bool.or_true, Bool.true_or, Bool.or_false, Bool.false_or, decide_true, decide_false, Bool.not_not, if_true, reduceIte, true_and, and_true, eq_self, Sl.own.injEq, Sl.val.injEq, D.lst.injEq, D.tup.injEq, D.int.injEq, D.bl.injEq, R.ok.injEq, okFor_seq, okFor_rng, $xs,*])
local macro_rules | `(tactic| simp_all_arith [$xs,*]) => `(tactic| ((first | refine ev_w (by assumption) rfl rfl (by first | exact (rfl : _ = false) | exact (rfl : _ = true)) (by omega) ?_ | refine ev_wx (by assumption) rfl rfl (by first | exact (rfl : _ = false) | exact (rfl : _ = true)) (by omega) ?_); simp only [startE, List.map_cons, List.map_nil, List.cons_append, List.nil_append, List.replicate_zero, List.replicate_succ, Nat.reduceSub, $xs,*]))
local macro_rules | `(tactic| simp_arith! [$xs,*]) => `(tactic| (rotate_left 1; (focus (simp (maxSteps := 4000000) (disch := first | omega | assumption | (simp only [List.length_map, List.length_range, List.length_replicate, List.length_append, List.length_cons, List.length_nil, List.length_take, List.length_drop, List.length_set, List.length_reverse, List.length_flatten, List.map_replicate, List.sum_replicate_nat, List.map_cons, List.map_nil, Int.toNat_natCast, Int.reduceToNat, Nat.reduceAdd, Nat.reduceMul]; omega) | (simp only [List.getElem?_cons_succ, List.getElem?_cons_zero, noMuts_ti, noMuts_tr, noMut_ti, noMut_tr, noMut_trs, noMut, noMuts, Bool.and_self, Bool.and_true, List.map_cons, List.map_nil]; done) | fail) only [↓h_cons, evSs_nil, h_sqnx, w_ifT, w_ifF, w_ifMT, w_ifMF, List.cons_append, List.nil_append, ↓h_asg, h_asgok, ↓h_ret, ↓h_ifs, ↓h_app, ↓h_seti, ↓h_expr, evS_brk, evS_cont, evS_pass, w_retF, w_retT, w_retXF, w_retXT, w_nxF, w_nxXF, w_retB, w_retM, w_nxB, w_contB, w_brkB, w_nxM, bind_int, bind_bl, bind_str, bind_non, bind_ti, bind_nil, bind_dict, h_bindL, bindM_nf, bindM_nv, bindM_of, bindM_ov, frz_nil, frz_cons, frz1_own, frz1_val, frz1_no, frz1_none, frz1_sv, w_bindT, w_bindI, bindP_t, noMuts_ti, noMuts_tr, noMuts, noMut, rtT_t, isRoot, isOwn, anyOwn_nil, anyOwn_cons, ownB_no, ownB_val, ownB_own, ownB_none, ownB_sv, zlks_int, zlks_bl, zlks_str, zlks_non, zlks_glob, zlks_neg, zlks_not, zlks_cmp, zlks_chn, zlks_isi, zlks_isc, zlks_dnew, zlks_slf, zlks_var, zlks_and, zlks_or, zlks_ife, zlks_tup, zlks_lst, zlks_idx, zlks_slc, zlks_rev, zlks_bin, zlks_call, zlks_bi, zlks_get, zlks_getd, zlks_ddisp, zlks_comp, zlks_sorts, zlks_att, zlks_new, zlks_cal, zlks_eqo, zlksL_nil, zlksL_cons, zlkb_var, zlkbL_nil, zlkbL_cons, zlkr_rng, zlkr_seq, zlkb_non, zlkb_bl, zlkb_int, zlkb_str, zlkb_glob, zlkb_bin, zlkb_neg, zlkb_not, zlkb_and, zlkb_or, zlkb_cmp, zlkb_chn, zlkb_ife, zlkb_tup, zlkb_lst, zlkb_idx, zlkb_slc, zlkb_rev, zlkb_call, zlkb_bi, zlkb_get, zlkb_getd, zlkb_comp, zlkb_sorts, zlkb_att, zlkb_new, zlkb_cal, zlkb_eqo, zlkb_dnew, zlkb_slf, zlkb_isi, zlkb_isc, fresh_lst, fresh_dnew, fresh_comp, fresh_sorts, fresh_slc, fresh_rev, fresh_bin, fresh_non, fresh_bl, fresh_int, fresh_str, fresh_glob, fresh_neg, fresh_not, fresh_and, fresh_or, fresh_cmp, fresh_tup, fresh_idx, fresh_get, fresh_getd, fresh_att, fresh_new, fresh_cal, fresh_eqo, fresh_var, fresh_ife, fresh_list, fresh_sorted, fresh_tuple, fresh_len, fresh_max, fresh_min, fresh_sum, w_app, w_setL, List.set_cons_succ, List.set_cons_zero, List.getElem?_cons_succ, List.getElem?_cons_zero, stE, setAll_cons, setAll_nil, jk_cons, jk_nil, EqX_c, EqC_t, EqC_f, EqX_nil, List.contains_cons, List.contains_nil, Nat.reduceBEq, Nat.reduceAdd, notOwn_no, notOwn_val, notOwn_sv, ↓bd_assoc, bd_ok, varD_v, varD_o, negD_int, optD_int, ↓h_var, ↓evE_non, ↓evE_bl, ↓evE_int, ↓evE_str, ↓evE_glob, ↓h_bin, ↓h_neg, ↓h_not, ↓h_and, ↓h_or, ↓h_ife, ↓h_cmp, ↓h_chain, ↓h_tup, ↓h_lst, ↓evE_dnewT, ↓evE_dnewF, ↓h_ddisp, ↓h_idx, ↓h_slc, ↓h_rev, ↓h_call, ↓h_bi, ↓h_isi, ↓h_new, evEs_nil, ↓h_escons, evO_none, ↓h_some, ↓h_rng, ↓h_seq, ofO_some, h_andT, h_andF, h_orT, h_orF, h_iteT, h_iteF, w_and, w_or, w_ite, andB_ok, orB_ok, iteB_ok, andB_t, andB_f, orB_t, orB_f, iteB_t, iteB_f, chnB_ok, bin_add, bin_sub, w_mulL, w_mulR, bin_fdiv, bin_mod, w_pow, w_addT, w_addT1, w_addLi, w_add1L, mul_l1, w_addL, w_ltT, w_ltF, w_leT, w_leF, w_gtT, w_gtF, w_geT, w_geF, w_eqT, w_eqF, w_neT, w_neF, cmp_lt, cmp_le, cmp_gt, cmp_ge, cmp_eqI, cmp_neI, cmp_eqT, cmp_neT, cmp_eqB, cmp_neB, cmp_inI, cmp_notinI, cmp_inIL, cmp_notinIL, is_nn, is_in, is_bn, is_sn, is_tn, is_ln, isnot_nn, isnot_tn, isnot_in, truth_bl, truth_int, bi_lenT, bi_lenL, bi_lenS, bi_int, bi_intB, bi_tupL, bi_tupT, bi_lstT, bi_lstL, bi_lstN, bi_max2, bi_min2, seqOf_tup, seqOf_lst, seqOf_scr, w_range1, w_range2, w_range3, at_int, w_ixT, w_ixL, w_ixTg, w_ixLg, w_ix0T, w_ix1T, w_ix2T, w_ix3T, w_ix0L, w_ix1L, w_slcTn, w_slcLn, w_slcTf, w_slcLf, w_slcT, w_slcL, List.length_map, List.length_range, Int.toNat_natCast, toNat_add1, toNat_1add, Int.reduceToNat, Int.reduceNeg, Nat.reduceSub, Bool.not_true, Bool.not_false, Bool.and_true, Bool.true_and, Bool.and_false, Bool.false_and, Bool.or_true, Bool.true_or, Bool.or_false, Bool.false_or, decide_true, decide_false, Bool.not_not, if_true, reduceIte, true_and, and_true, eq_self, Sl.own.injEq, Sl.val.injEq, D.lst.injEq, D.tup.injEq, D.int.injEq, D.bl.injEq, R.ok.injEq, okFor_seq, okFor_rng, $xs,*])); (focus (simp only [anyOwn_nil, anyOwn_cons, ownB_no, ownB_val, ownB_own, ownB_none, ownB_sv, zlks_int, zlks_bl, zlks_str, zlks_non, zlks_glob, zlks_neg, zlks_not, zlks_cmp, zlks_chn, zlks_isi, zlks_isc, zlks_dnew, zlks_slf, zlks_var, zlks_and, zlks_or, zlks_ife, zlks_tup, zlks_lst, zlks_idx, zlks_slc, zlks_rev, zlks_bin, zlks_call, zlks_bi, zlks_get, zlks_getd, zlks_ddisp, zlks_comp, zlks_sorts, zlks_att, zlks_new, zlks_cal, zlks_eqo, zlksL_nil, zlksL_cons, zlkb_var, zlkbL_nil, zlkbL_cons, zlkr_rng, zlkr_seq, zlkb_non, zlkb_bl, zlkb_int, zlkb_str, zlkb_glob, zlkb_bin, zlkb_neg, zlkb_not, zlkb_and, zlkb_or, zlkb_cmp, zlkb_chn, zlkb_ife, zlkb_tup, zlkb_lst, zlkb_idx, zlkb_slc, zlkb_rev, zlkb_call, zlkb_bi, zlkb_get, zlkb_getd, zlkb_comp, zlkb_sorts, zlkb_att, zlkb_new, zlkb_cal, zlkb_eqo, zlkb_dnew, zlkb_slf, zlkb_isi, zlkb_isc, fresh_lst, fresh_dnew, fresh_comp, fresh_sorts, fresh_slc, fresh_rev, fresh_bin, fresh_non, fresh_bl, fresh_int, fresh_str, fresh_glob, fresh_neg, fresh_not, fresh_and, fresh_or, fresh_cmp, fresh_tup, fresh_idx, fresh_get, fresh_getd, fresh_att, fresh_new, fresh_cal, fresh_eqo, fresh_var, fresh_ife, fresh_list, fresh_sorted, fresh_tuple, fresh_len, fresh_max, fresh_min, fresh_sum, List.nil_append, List.append_nil, List.cons_append, Bool.or_false, Bool.or_self, List.getElem?_cons_succ, List.getElem?_cons_zero])); (focus (first | omega | (simp only [List.length_map, List.length_range, List.length_replicate, List.length_append, List.length_cons, List.length_nil, List.length_take, List.length_drop, List.length_set, List.length_reverse, List.length_flatten, List.map_replicate, List.sum_replicate_nat, List.map_cons, List.map_nil, Int.toNat_natCast, Int.reduceToNat, Nat.reduceAdd, Nat.reduceMul]; omega)))))
/-! ### more rules -/
theorem all_range {p : Nat → Bool} {m : Nat} : (List.range m).all p = true ↔ ∀ j, j < m → p j = true := by
  rw [List.all_eq_true]; exact ⟨fun h j hj => h j (List.mem_range.mpr hj), fun h j hj => h j (List.mem_range.mp hj)⟩
theorem lt_snoc {p : Nat → Prop} {k : Nat} (h : ∀ j, j < k → p j) (hk : p k) : ∀ j, j < k + 1 → p j := fun j hj => by
  by_cases e : j = k
  · subst e; exact hk
  · exact h j (by omega)
theorem take_snoc {α : Type} {xs : List α} {i : Nat} {x : α} (h : xs[i]? = some x) : xs.take (i + 1) = xs.take i ++ [x] := by
  rw [List.take_succ, h]; rfl
theorem noMut_bx {a p : Nat} {rs : KV} : noMut (boxD a p rs) = true := by
  simp [boxD, noMut, noMuts, noMut_trs, noMut_ti]
  exact ⟨noMuts_map fun _ _ => noMut_tr, noMuts_map fun _ _ => rfl⟩
section
variable {T : Tab} {cf : Nat → List D → R D} {ρ : Env} {K : R Fl → Prop} {n : Nat}
theorem bind_bx {i : Nat} {e : E} {a p : Nat} {rs : KV} : bindTo T i e (boxD a p rs) ρ = ρ.set i (.val (boxD a p rs)) := bind_pure noMut_bx
theorem w_mif {σ : Type} {c : R Bool} {a b r : List S} (J : List Nat) (u : σ → List (Nat × Sl)) (P : σ → Prop) (hx : Wp (K := ⟨KM J ρ u P K⟩) (ifH (h := ⟨(ρ, a, b)⟩) T cf c)) (hk : ∀ s js, P s → Wp (K := ⟨K⟩) (evSs T cf r (stE J ρ u s js))) : Wp (K := ⟨K⟩) (sq (r := ⟨r⟩) T cf (ifH (h := ⟨(ρ, a, b)⟩) T cf c)) := w_meet J ρ u P hx hk
/-- a run that ends with return -/
def KRt (K : R Fl → Prop) : R Fl → Prop
  | .ok (.ret d o) => K (.ok (.ret d o))
  | .exc c fs => K (.exc c fs)
  | _ => False
theorem w_retR {e : E} {d : D} {r : List S} : Wp (K := ⟨KRt K⟩) (sq (r := ⟨r⟩) T cf (rtH (h := ⟨(e, ρ)⟩) T (.ok d))) = Wp (K := ⟨K⟩) (sq (r := ⟨[]⟩) T cf (rtH (h := ⟨(e, ρ)⟩) T (.ok d))) := nrfl rfl
/-- a loop that only looks -/
theorem w_srch {α : Type} {t : Nat} {src : Src} {b r : List S} (xs : List α) (e : α → D) (J : List Nat) (p : α → Bool) (hs : evSrc T cf ρ src = .ok (xs.map e)) (ho : okFor src b ρ = true) (h0 : EqX J 0 ρ ρ)
    (hn : ∀ (i : Nat) x js, xs[i]? = some x → p x = false → Wp (K := ⟨KB J ρ (fun _ : Unit => []) (fun _ => True) (fun _ => False) K⟩) (evSs T cf b ((stE J ρ (fun _ : Unit => []) () js).set t (.val (e x)))))
    (hy : ∀ (i : Nat) x js, xs[i]? = some x → (∀ y ∈ xs.take i, p y = false) → p x = true → Wp (K := ⟨KRt K⟩) (evSs T cf b ((stE J ρ (fun _ : Unit => []) () js).set t (.val (e x)))))
    (hk : ∀ js, (∀ y ∈ xs, p y = false) → Wp (K := ⟨K⟩) (evSs T cf r (stE J ρ (fun _ : Unit => []) () js))) : Wp (K := ⟨K⟩) (sq (r := ⟨r⟩) T cf (evS T cf (.fors (.one t) src b) ρ)) := by
  refine w_for xs e J (fun _ : Unit => []) () (fun i _ => ∀ y ∈ xs.take i, p y = false) hs ho h0 (by simp) ?_ ?_
  · intro i s x js hx hP
    cases hz : p x with
    | false =>
      have h1 := hn i x js hx hz
      have hP' : ∀ y ∈ xs.take (i + 1), p y = false := fun y hy => by
        rw [take_snoc hx] at hy
        rcases List.mem_append.mp hy with q | q
        · exact hP y q
        · rw [List.mem_singleton.mp q]; exact hz
      unfold Wp at h1 ⊢
      revert h1
      generalize evSs T cf b ((stE J ρ (fun _ : Unit => []) s js).set t (.val (e x))) = y
      intro h1
      rcases y with (_ | _ | _ | _) | _ | _
      · obtain ⟨s', a, _⟩ := h1; exact ⟨s', a, hP'⟩
      · obtain ⟨s', a, q⟩ := h1; exact q.elim
      · obtain ⟨s', a, _⟩ := h1; exact ⟨s', a, hP'⟩
      · exact h1
      · exact h1
      · exact h1.elim
    | true =>
      have h1 := hy i x js hx hP hz
      unfold Wp at h1 ⊢
      revert h1
      generalize evSs T cf b ((stE J ρ (fun _ : Unit => []) s js).set t (.val (e x))) = y
      intro h1
      rcases y with (ρ' | ρ' | ρ' | _) | _ | _ <;> first | exact h1 | exact h1.elim
  · intro s js hP
    rw [List.take_length] at hP
    exact hk js hP

/-! ### instances -/
def attD (T : Tab) (d : D) (x : Str) : R D := match d with
  | .ins c fs => if c ∈ T.cls then ofO (fldD c fs x) else .bad
  | _ => .bad
theorem w_att {a : E} {x : Str} : evE T cf ρ (.att a x) = bd (f := ⟨fun d => attD T d x⟩) (evE T cf ρ a) := by
  show _ = (evE T cf ρ a >>= fun d => attD T d x)
  rw [evE_att]; rfl
def calD (T : Tab) (cf : Nat → List D → R D) (m : Str) (d : R D) (ds : R (List D)) : R D := match d with
  | .ok (.ins c fs) => if c ∈ T.cls then (match T.meth c.name m with
    | some f => ds >>= fun ds => cf f (.ins c fs :: ds)
    | none => .bad) else .bad
  | _ => .bad
theorem w_cal {m : Str} {a : E} {es : List E} : evE T cf ρ (.cal m a es) = calD T cf m (evE T cf ρ a) (evEs T cf ρ es) := by
  simp only [evE, calD]
  try (rcases evE T cf ρ a with (_ | _ | _ | _ | _ | _ | _ | _ | _ | _) | _ | _ <;> try rfl)
theorem w_calok {m : Str} {c : Cl} {fs ds : List D} {f : Nat} (h : c ∈ T.cls) (hm : T.meth c.name m = some f) : calD T cf m (.ok (.ins c fs)) (.ok ds) = cf f (.ins c fs :: ds) := by
  simp only [calD, h, hm, if_true, ok_bind]
def eqoR : R D → R D
  | .ok (.bl r) => .ok (.bl r)
  | _ => .bad
def eqoD (T : Tab) (cf : Nat → List D → R D) (x y : R D) : R D := match x with
  | .ok (.ins c fs) => (match y with
    | .ok (.ins c' gs) => if c ∈ T.cls ∧ c' ∈ T.cls then (match T.meth c.name "__eq__" with
      | some f => eqoR (cf f [.ins c fs, .ins c' gs])
      | none => .bad) else .bad
    | _ => .bad)
  | _ => .bad
theorem w_eqo {a b : E} : evE T cf ρ (.eqo false a b) = eqoD T cf (evE T cf ρ a) (evE T cf ρ b) := by
  simp only [evE, eqoD]
  rcases evE T cf ρ a with (_ | _ | _ | _ | _ | _ | _ | ⟨c, fs⟩ | _ | _) | _ | _ <;> try rfl
  rcases evE T cf ρ b with (_ | _ | _ | _ | _ | _ | _ | ⟨c', gs⟩ | _ | _) | _ | _ <;> try rfl
  try simp only [true_and]
  split
  · split
    · rename_i f hf
      try simp only [hf]
      rcases cf f [.ins c fs, .ins c' gs] with (_ | _ | _ | _ | _ | _ | _ | _ | _ | _) | _ | _ <;> rfl
    · rename_i hf
      first | rfl | simp only [hf]
  · rfl
theorem eqoR_bl {r : Bool} : eqoR (.ok (.bl r)) = .ok (.bl r) := rfl
/-! ### boxes -/
theorem attD_a (h : cBox ∈ T.cls) {a p : Nat} {rs : KV} : attD T (boxD a p rs) "answers" = .ok (.int a) := by simp only [attD, boxD, h, if_true, fD0, ofO_some]
theorem attD_p (h : cBox ∈ T.cls) {a p : Nat} {rs : KV} : attD T (boxD a p rs) "places" = .ok (.int p) := by simp only [attD, boxD, h, if_true, fD1, ofO_some]
theorem attD_l (h : cBox ∈ T.cls) {a p : Nat} {rs : KV} : attD T (boxD a p rs) "least" = .ok (.tup ((leastS rs).map tr)) := by simp only [attD, boxD, h, if_true, fD2, ofO_some]
theorem attD_k (h : cBox ∈ T.cls) {a p : Nat} {rs : KV} : attD T (boxD a p rs) "kinds" = .ok (.tup ((kindsOf a rs).map D.int)) := by simp only [attD, boxD, h, if_true]; rfl
theorem calD_box (h : HasBox T) {a p : Nat} {rs : KV} {ds : List D} : calD T cf "__call__" (.ok (boxD a p rs)) (.ok ds) = cf 88 (boxD a p rs :: ds) := w_calok h.cls h.mcall
theorem eqoD_box (h : HasBox T) {a p a' p' : Nat} {rs rs' : KV} : eqoD T cf (.ok (boxD a p rs)) (.ok (boxD a' p' rs')) = eqoR (cf 89 [boxD a p rs, boxD a' p' rs']) := by
  simp only [eqoD, boxD, h.cls, and_self, if_true]
  have hm : T.meth cBox.name "__eq__" = some 89 := h.meq
  rw [hm]
theorem l_box (h : HasBox T) {a p : Nat} {rs : KV} (hn : 4 ≤ n) (ha : a ≤ 1000) (hp : p ≤ 1000) (hl : rs.length ≤ 10000) (hm : Mono a p rs) : ev T n 87 [.int a, .int p, trs rs] = .ok (boxD a p rs) := by
  obtain ⟨m, rfl⟩ : ∃ m, n = m + 4 := ⟨n - 4, by omega⟩
  exact ev_box h ha (hm.ok hl hp) hm.clash
theorem l_call (h : HasBox T) {a p : Nat} {rs : KV} {x : List Int} (hn : 2 ≤ n) (hp : p ≤ 1000) (hl : rs.length ≤ 10000) (hx : x.length = p) (hm : Mono a p rs) : ev T n 88 [boxD a p rs, ti x] = .ok (.int (valAt rs x)) := by
  obtain ⟨m, rfl⟩ : ∃ m, n = m + 2 := ⟨n - 2, by omega⟩
  rw [ev_call h (hm.ok hl hp) hx, valAt_least hm.wide hm.clash]
theorem l_eqbox (h : HasBox T) {a p a' p' : Nat} {rs rs' : KV} (hn : 1 ≤ n) : ev T n 89 [boxD a p rs, boxD a' p' rs'] = .ok (.bl (decide ((a : Int) = a') && (decide ((p : Int) = p') && decide (leastS rs = leastS rs')))) := by
  obtain ⟨m, rfl⟩ : ∃ m, n = m + 1 := ⟨n - 1, by omega⟩
  exact ev_boxeq h
/-! ### sameness -/
theorem l_same (h : HasSame T) {a d : D} (m : Nat) (ha : lawD m a = true) (hd : lawD m d = true) (hn : m + 2 ≤ n) : ev T n 8 [a, d] = .ok (.bl (lsame a d)) := by
  obtain ⟨k, rfl⟩ : ∃ k, n = k + m + 2 := ⟨n - m - 2, by omega⟩
  exact ev_same h m a d ha hd
theorem l_sameI (h : HasSame T) {i j : Int} (hn : 2 ≤ n) : ev T n 8 [.int i, .int j] = .ok (.bl (decide (i = j))) := l_same h 0 rfl rfl hn
theorem l_sameB (h : HasSame T) {i j : Bool} (hn : 2 ≤ n) : ev T n 8 [.bl i, .bl j] = .ok (.bl (i == j)) := l_same h 0 rfl rfl hn
theorem lsames_ti : ∀ {x y : List Int}, lsames (x.map D.int) (y.map D.int) = decide (x = y)
  | [], [] => by simp [lsames]
  | [], b :: y => by simp [lsames]
  | a :: x, [] => by simp [lsames]
  | a :: x, b :: y => by
    simp only [List.map_cons, lsames, lsame, lsames_ti, List.cons.injEq]
    rw [Bool.eq_iff_iff]; simp
theorem l_sameT (h : HasSame T) {x y : List Int} (hn : 3 ≤ n) (hx : x.length ≤ 16777216) (hy : y.length ≤ 16777216) : ev T n 8 [ti x, ti y] = .ok (.bl (decide (x = y))) := by
  rw [l_same h 1 (law_ti hx) (law_ti hy) hn]
  show R.ok (D.bl (lsames (x.map D.int) (y.map D.int))) = _
  rw [lsames_ti]
/-! ### the law's numbers -/
theorem l_cell (h : T.fn 9 = some fn__law_cell) (ns : List Int) (k : Int) (hk : 0 ≤ k) (hn : 1 ≤ n) : ∃ c : Int, ev T n 9 [.scr (ns.map .int), .int k] = .ok (.int c) := by
  obtain ⟨m, rfl⟩ : ∃ m, n = m + 1 := ⟨n - 1, by omega⟩
  obtain ⟨j, rfl⟩ : ∃ j : Nat, k = j := ⟨k.toNat, by omega⟩
  exact ev_cell h ns j
theorem l_digits (h : T.fn 10 = some fn__law_digits) (c : Int) (sizes : List Int) (hs : Sizes sizes) (hn : 1 ≤ n) : ∃ ds : List Int, ev T n 10 [.int c, .lst (sizes.map .int)] = .ok (.lst (ds.map .int)) ∧ ds.length = sizes.length ∧ ∀ i, i < ds.length → 0 ≤ at0 ds i ∧ at0 ds i < at0 sizes i := by
  obtain ⟨m, rfl⟩ : ∃ m, n = m + 1 := ⟨n - 1, by omega⟩
  obtain ⟨ds, h1, h2, h3⟩ := ev_digits h c sizes hs
  refine ⟨ds, h1, h2, fun i hi => ?_⟩
  obtain ⟨d, e1, e2, e3⟩ := h3 i (at0 sizes i) (at0_get (by omega))
  rw [at0_of e1]; exact ⟨e2, e3⟩
theorem w_mulLs {α : Type} {e : α → D} {a : List α} {k : Int} (h0 : 0 ≤ k) (h1 : k < 4611686018427387904) (h : a.length * k.toNat ≤ 16777216) : binD .mul (.lst (a.map e)) (.int k) = .ok (.lst ((List.replicate k.toNat a).flatten.map e)) := by
  have hc : -(2 ^ 63) ≤ k ∧ k < 2 ^ 63 ∧ (a.map e).length * k.toNat ≤ lineSz := ⟨by omega, by omega, by rw [List.length_map]; exact h⟩
  simp only [binD, if_pos hc]
  rw [List.map_flatten, List.map_replicate]
theorem l_value (h : HasLV T) {a p : Nat} {rs : KV} {x : List Int} (hm : Mono a p rs) (hx : x.length = p) (hp : p ≤ 1000) (hn : 2 ≤ n) : ev T n 49 [.lst (rs.map tr), ti x] = .ok (.int (valAt rs x)) := by
  obtain ⟨m, rfl⟩ : ∃ m, n = m + 2 := ⟨n - 2, by omega⟩
  exact ev_lvalue h rfl (fun r hr => by rw [hm.wide r hr, hx]; exact Nat.le_refl _) (by rw [hx]; unfold lineSz; omega)
theorem l_belowL {f : Nat} (h : T.fn f = some fn_is_below) {x y : List Int} (hxy : x.length ≤ y.length) (hl : x.length ≤ 16777216) (hn : 1 ≤ n) : ev T n f [li x, li y] = .ok (.bl (below x y)) := by
  obtain ⟨m, rfl⟩ : ∃ m, n = m + 1 := ⟨n - 1, by omega⟩
  exact ev_below_gen h (by simp) (fun i hi => ix_li (at0_get hi)) (fun i hi => ix_li (at0_get (by omega))) hl
theorem mod_nat (x : Int) {m : Int} (h : 0 < m) : ∃ k : Nat, x % m = k ∧ (k : Int) < m := ⟨(x % m).toNat, by
  rw [Int.toNat_of_nonneg (Int.emod_nonneg x (by omega))], by
  rw [Int.toNat_of_nonneg (Int.emod_nonneg x (by omega))]; exact Int.emod_lt_of_pos x h⟩
theorem map_map_li {α β : Type} {f : α → β} {e : β → D} {xs : List α} : (xs.map f).map e = xs.map fun x => e (f x) := by simp [List.map_map, Function.comp_def]
end
end Ev

set_option linter.all false
set_option autoImplicit false
set_option maxRecDepth 20000
set_option maxHeartbeats 2000000
namespace Ev
open PySem
local macro_rules | `(tactic| simp_arith [$xs,*]) => `(tactic| simp (maxSteps := 4000000) (disch := first | omega | assumption | (simp only [List.length_map, List.length_range, List.length_replicate, List.length_append, List.length_cons, List.length_nil, List.length_take, List.length_drop, List.length_set, List.length_reverse, List.length_flatten, List.map_replicate, List.sum_replicate_nat, List.map_cons, List.map_nil, Int.toNat_natCast, Int.reduceToNat, Nat.reduceAdd, Nat.reduceMul]; omega) | (simp only [List.getElem?_cons_succ, List.getElem?_cons_zero, noMut_bx, noMuts_ti, noMuts_tr, noMut_ti, noMut_tr, noMut_trs, noMut, noMuts, Bool.and_self, Bool.and_true, List.map_cons, List.map_nil]; done) | fail) only [↓h_cons, evSs_nil, h_sqnx, w_ifT, w_ifF, w_ifMT, w_ifMF, List.cons_append, List.nil_append, ↓h_asg, h_asgok, ↓h_ret, ↓h_ifs, ↓h_app, ↓h_seti, ↓h_expr, evS_brk, evS_cont, evS_pass, w_retF, w_retT, w_retXF, w_retXT, w_nxF, w_nxXF, w_retB, w_retM, w_nxB, w_contB, w_brkB, w_nxM, w_retR, bind_int, bind_bl, bind_str, bind_non, bind_ti, bind_nil, bind_dict, h_bindL, bindM_nf, bindM_nv, bindM_of, bindM_ov, frz_nil, frz_cons, frz1_own, frz1_val, frz1_no, frz1_none, frz1_sv, w_bindT, w_bindI, bindP_t, bind_bx, noMuts_ti, noMuts_tr, noMuts, noMut, noMut_bx, rtT_t, isRoot, isOwn, anyOwn_nil, anyOwn_cons, ownB_no, ownB_val, ownB_own, ownB_none, ownB_sv, zlks_int, zlks_bl, zlks_str, zlks_non, zlks_glob, zlks_neg, zlks_not, zlks_cmp, zlks_chn, zlks_isi, zlks_isc, zlks_dnew, zlks_slf, zlks_var, zlks_and, zlks_or, zlks_ife, zlks_tup, zlks_lst, zlks_idx, zlks_slc, zlks_rev, zlks_bin, zlks_call, zlks_bi, zlks_get, zlks_getd, zlks_ddisp, zlks_comp, zlks_sorts, zlks_att, zlks_new, zlks_cal, zlks_eqo, zlksL_nil, zlksL_cons, zlkb_var, zlkbL_nil, zlkbL_cons, zlkr_rng, zlkr_seq, zlkb_non, zlkb_bl, zlkb_int, zlkb_str, zlkb_glob, zlkb_bin, zlkb_neg, zlkb_not, zlkb_and, zlkb_or, zlkb_cmp, zlkb_chn, zlkb_ife, zlkb_tup, zlkb_lst, zlkb_idx, zlkb_slc, zlkb_rev, zlkb_call, zlkb_bi, zlkb_get, zlkb_getd, zlkb_comp, zlkb_sorts, zlkb_att, zlkb_new, zlkb_cal, zlkb_eqo, zlkb_dnew, zlkb_slf, zlkb_isi, zlkb_isc, fresh_lst, fresh_dnew, fresh_comp, fresh_sorts, fresh_slc, fresh_rev, fresh_bin, fresh_non, fresh_bl, fresh_int, fresh_str, fresh_glob, fresh_neg, fresh_not, fresh_and, fresh_or, fresh_cmp, fresh_tup, fresh_idx, fresh_get, fresh_getd, fresh_att, fresh_new, fresh_cal, fresh_eqo, fresh_var, fresh_ife, fresh_list, fresh_sorted, fresh_tuple, fresh_len, fresh_max, fresh_min, fresh_sum, w_app, w_setL, List.set_cons_succ, List.set_cons_zero, List.getElem?_cons_succ, List.getElem?_cons_zero, stE, setAll_cons, setAll_nil, jk_cons, jk_nil, EqX_c, EqC_t, EqC_f, EqX_nil, List.contains_cons, List.contains_nil, Nat.reduceBEq, Nat.reduceAdd, notOwn_no, notOwn_val, notOwn_sv, ↓bd_assoc, bd_ok, varD_v, varD_o, negD_int, optD_int, ↓h_var, ↓evE_non, ↓evE_bl, ↓evE_int, ↓evE_str, ↓evE_glob, ↓h_bin, ↓h_neg, ↓h_not, ↓h_and, ↓h_or, ↓h_ife, ↓h_cmp, ↓h_chain, ↓h_tup, ↓h_lst, ↓evE_dnewT, ↓evE_dnewF, ↓h_ddisp, ↓h_idx, ↓h_slc, ↓h_rev, ↓h_call, ↓h_bi, ↓h_isi, ↓w_att, ↓w_cal, ↓w_eqo, eqoR_bl, ↓h_new, evEs_nil, ↓h_escons, evO_none, ↓h_some, ↓h_rng, ↓h_seq, ofO_some, h_andT, h_andF, h_orT, h_orF, h_iteT, h_iteF, w_and, w_or, w_ite, andB_ok, orB_ok, iteB_ok, andB_t, andB_f, orB_t, orB_f, iteB_t, iteB_f, chnB_ok, bin_add, bin_sub, w_mulL, w_mulR, bin_fdiv, bin_mod, w_pow, w_addT, w_addT1, w_addLi, w_add1L, w_mulLs, mul_l1, w_addL, w_ltT, w_ltF, w_leT, w_leF, w_gtT, w_gtF, w_geT, w_geF, w_eqT, w_eqF, w_neT, w_neF, cmp_lt, cmp_le, cmp_gt, cmp_ge, cmp_eqI, cmp_neI, cmp_eqT, cmp_neT, cmp_eqB, cmp_neB, cmp_inI, cmp_notinI, cmp_inIL, cmp_notinIL, is_nn, is_in, is_bn, is_sn, is_tn, is_ln, isnot_nn, isnot_tn, isnot_in, truth_bl, truth_int, bi_lenT, bi_lenL, bi_lenS, bi_int, bi_intB, bi_tupL, bi_tupT, bi_lstT, bi_lstL, bi_lstN, bi_max2, bi_min2, seqOf_tup, seqOf_lst, seqOf_scr, w_range1, w_range2, w_range3, at_int, w_ixT, w_ixL, w_ixTg, w_ixLg, w_ix0T, w_ix1T, w_ix2T, w_ix3T, w_ix0L, w_ix1L, w_slcTn, w_slcLn, w_slcTf, w_slcLf, w_slcT, w_slcL, List.length_map, List.length_range, Int.toNat_natCast, toNat_add1, toNat_1add, Int.reduceToNat, Int.reduceNeg, Nat.reduceSub, Bool.not_true, Bool.not_false, Bool.and_true, Bool.true_and, Bool.and_false, Bool.false_and, Bool.or_true, Bool.true_or, Bool.or_false, Bool.false_or, decide_true, decide_false, Bool.not_not, if_true, reduceIte, true_and, and_true, eq_self, Sl.own.injEq, Sl.val.injEq, D.lst.injEq, D.tup.injEq, D.int.injEq, D.bl.injEq, R.ok.injEq, okFor_seq, okFor_rng, $xs,*])
local macro_rules | `(tactic| simp_all_arith [$xs,*]) => `(tactic| ((first | refine ev_w (by assumption) rfl rfl (by first | exact (rfl : _ = false) | exact (rfl : _ = true)) (by omega) ?_ | refine ev_wx (by assumption) rfl rfl (by first | exact (rfl : _ = false) | exact (rfl : _ = true)) (by omega) ?_); simp only [startE, List.map_cons, List.map_nil, List.cons_append, List.nil_append, List.replicate_zero, List.replicate_succ, Nat.reduceSub, $xs,*]))
local macro_rules | `(tactic| simp_arith! [$xs,*]) => `(tactic| (rotate_left 1; (focus (simp (maxSteps := 4000000) (disch := first | omega | assumption | (simp only [List.length_map, List.length_range, List.length_replicate, List.length_append, List.length_cons, List.length_nil, List.length_take, List.length_drop, List.length_set, List.length_reverse, List.length_flatten, List.map_replicate, List.sum_replicate_nat, List.map_cons, List.map_nil, Int.toNat_natCast, Int.reduceToNat, Nat.reduceAdd, Nat.reduceMul]; omega) | (simp only [List.getElem?_cons_succ, List.getElem?_cons_zero, noMut_bx, noMuts_ti, noMuts_tr, noMut_ti, noMut_tr, noMut_trs, noMut, noMuts, Bool.and_self, Bool.and_true, List.map_cons, List.map_nil]; done) | fail) only [↓h_cons, evSs_nil, h_sqnx, w_ifT, w_ifF, w_ifMT, w_ifMF, List.cons_append, List.nil_append, ↓h_asg, h_asgok, ↓h_ret, ↓h_ifs, ↓h_app, ↓h_seti, ↓h_expr, evS_brk, evS_cont, evS_pass, w_retF, w_retT, w_retXF, w_retXT, w_nxF, w_nxXF, w_retB, w_retM, w_nxB, w_contB, w_brkB, w_nxM, w_retR, bind_int, bind_bl, bind_str, bind_non, bind_ti, bind_nil, bind_dict, h_bindL, bindM_nf, bindM_nv, bindM_of, bindM_ov, frz_nil, frz_cons, frz1_own, frz1_val, frz1_no, frz1_none, frz1_sv, w_bindT, w_bindI, bindP_t, bind_bx, noMuts_ti, noMuts_tr, noMuts, noMut, noMut_bx, rtT_t, isRoot, isOwn, anyOwn_nil, anyOwn_cons, ownB_no, ownB_val, ownB_own, ownB_none, ownB_sv, zlks_int, zlks_bl, zlks_str, zlks_non, zlks_glob, zlks_neg, zlks_not, zlks_cmp, zlks_chn, zlks_isi, zlks_isc, zlks_dnew, zlks_slf, zlks_var, zlks_and, zlks_or, zlks_ife, zlks_tup, zlks_lst, zlks_idx, zlks_slc, zlks_rev, zlks_bin, zlks_call, zlks_bi, zlks_get, zlks_getd, zlks_ddisp, zlks_comp, zlks_sorts, zlks_att, zlks_new, zlks_cal, zlks_eqo, zlksL_nil, zlksL_cons, zlkb_var, zlkbL_nil, zlkbL_cons, zlkr_rng, zlkr_seq, zlkb_non, zlkb_bl, zlkb_int, zlkb_str, zlkb_glob, zlkb_bin, zlkb_neg, zlkb_not, zlkb_and, zlkb_or, zlkb_cmp, zlkb_chn, zlkb_ife, zlkb_tup, zlkb_lst, zlkb_idx, zlkb_slc, zlkb_rev, zlkb_call, zlkb_bi, zlkb_get, zlkb_getd, zlkb_comp, zlkb_sorts, zlkb_att, zlkb_new, zlkb_cal, zlkb_eqo, zlkb_dnew, zlkb_slf, zlkb_isi, zlkb_isc, fresh_lst, fresh_dnew, fresh_comp, fresh_sorts, fresh_slc, fresh_rev, fresh_bin, fresh_non, fresh_bl, fresh_int, fresh_str, fresh_glob, fresh_neg, fresh_not, fresh_and, fresh_or, fresh_cmp, fresh_tup, fresh_idx, fresh_get, fresh_getd, fresh_att, fresh_new, fresh_cal, fresh_eqo, fresh_var, fresh_ife, fresh_list, fresh_sorted, fresh_tuple, fresh_len, fresh_max, fresh_min, fresh_sum, w_app, w_setL, List.set_cons_succ, List.set_cons_zero, List.getElem?_cons_succ, List.getElem?_cons_zero, stE, setAll_cons, setAll_nil, jk_cons, jk_nil, EqX_c, EqC_t, EqC_f, EqX_nil, List.contains_cons, List.contains_nil, Nat.reduceBEq, Nat.reduceAdd, notOwn_no, notOwn_val, notOwn_sv, ↓bd_assoc, bd_ok, varD_v, varD_o, negD_int, optD_int, ↓h_var, ↓evE_non, ↓evE_bl, ↓evE_int, ↓evE_str, ↓evE_glob, ↓h_bin, ↓h_neg, ↓h_not, ↓h_and, ↓h_or, ↓h_ife, ↓h_cmp, ↓h_chain, ↓h_tup, ↓h_lst, ↓evE_dnewT, ↓evE_dnewF, ↓h_ddisp, ↓h_idx, ↓h_slc, ↓h_rev, ↓h_call, ↓h_bi, ↓h_isi, ↓w_att, ↓w_cal, ↓w_eqo, eqoR_bl, ↓h_new, evEs_nil, ↓h_escons, evO_none, ↓h_some, ↓h_rng, ↓h_seq, ofO_some, h_andT, h_andF, h_orT, h_orF, h_iteT, h_iteF, w_and, w_or, w_ite, andB_ok, orB_ok, iteB_ok, andB_t, andB_f, orB_t, orB_f, iteB_t, iteB_f, chnB_ok, bin_add, bin_sub, w_mulL, w_mulR, bin_fdiv, bin_mod, w_pow, w_addT, w_addT1, w_addLi, w_add1L, w_mulLs, mul_l1, w_addL, w_ltT, w_ltF, w_leT, w_leF, w_gtT, w_gtF, w_geT, w_geF, w_eqT, w_eqF, w_neT, w_neF, cmp_lt, cmp_le, cmp_gt, cmp_ge, cmp_eqI, cmp_neI, cmp_eqT, cmp_neT, cmp_eqB, cmp_neB, cmp_inI, cmp_notinI, cmp_inIL, cmp_notinIL, is_nn, is_in, is_bn, is_sn, is_tn, is_ln, isnot_nn, isnot_tn, isnot_in, truth_bl, truth_int, bi_lenT, bi_lenL, bi_lenS, bi_int, bi_intB, bi_tupL, bi_tupT, bi_lstT, bi_lstL, bi_lstN, bi_max2, bi_min2, seqOf_tup, seqOf_lst, seqOf_scr, w_range1, w_range2, w_range3, at_int, w_ixT, w_ixL, w_ixTg, w_ixLg, w_ix0T, w_ix1T, w_ix2T, w_ix3T, w_ix0L, w_ix1L, w_slcTn, w_slcLn, w_slcTf, w_slcLf, w_slcT, w_slcL, List.length_map, List.length_range, Int.toNat_natCast, toNat_add1, toNat_1add, Int.reduceToNat, Int.reduceNeg, Nat.reduceSub, Bool.not_true, Bool.not_false, Bool.and_true, Bool.true_and, Bool.and_false, Bool.false_and, Bool.or_true, Bool.true_or, Bool.or_false, Bool.false_or, decide_true, decide_false, Bool.not_not, if_true, reduceIte, true_and, and_true, eq_self, Sl.own.injEq, Sl.val.injEq, D.lst.injEq, D.tup.injEq, D.int.injEq, D.bl.injEq, R.ok.injEq, okFor_seq, okFor_rng, $xs,*])); (focus (simp only [anyOwn_nil, anyOwn_cons, ownB_no, ownB_val, ownB_own, ownB_none, ownB_sv, zlks_int, zlks_bl, zlks_str, zlks_non, zlks_glob, zlks_neg, zlks_not, zlks_cmp, zlks_chn, zlks_isi, zlks_isc, zlks_dnew, zlks_slf, zlks_var, zlks_and, zlks_or, zlks_ife, zlks_tup, zlks_lst, zlks_idx, zlks_slc, zlks_rev, zlks_bin, zlks_call, zlks_bi, zlks_get, zlks_getd, zlks_ddisp, zlks_comp, zlks_sorts, zlks_att, zlks_new, zlks_cal, zlks_eqo, zlksL_nil, zlksL_cons, zlkb_var, zlkbL_nil, zlkbL_cons, zlkr_rng, zlkr_seq, zlkb_non, zlkb_bl, zlkb_int, zlkb_str, zlkb_glob, zlkb_bin, zlkb_neg, zlkb_not, zlkb_and, zlkb_or, zlkb_cmp, zlkb_chn, zlkb_ife, zlkb_tup, zlkb_lst, zlkb_idx, zlkb_slc, zlkb_rev, zlkb_call, zlkb_bi, zlkb_get, zlkb_getd, zlkb_comp, zlkb_sorts, zlkb_att, zlkb_new, zlkb_cal, zlkb_eqo, zlkb_dnew, zlkb_slf, zlkb_isi, zlkb_isc, fresh_lst, fresh_dnew, fresh_comp, fresh_sorts, fresh_slc, fresh_rev, fresh_bin, fresh_non, fresh_bl, fresh_int, fresh_str, fresh_glob, fresh_neg, fresh_not, fresh_and, fresh_or, fresh_cmp, fresh_tup, fresh_idx, fresh_get, fresh_getd, fresh_att, fresh_new, fresh_cal, fresh_eqo, fresh_var, fresh_ife, fresh_list, fresh_sorted, fresh_tuple, fresh_len, fresh_max, fresh_min, fresh_sum, List.nil_append, List.append_nil, List.cons_append, Bool.or_false, Bool.or_self, List.getElem?_cons_succ, List.getElem?_cons_zero])); (focus (first | omega | (simp only [List.length_map, List.length_range, List.length_replicate, List.length_append, List.length_cons, List.length_nil, List.length_take, List.length_drop, List.length_set, List.length_reverse, List.length_flatten, List.map_replicate, List.sum_replicate_nat, List.map_cons, List.map_nil, Int.toNat_natCast, Int.reduceToNat, Nat.reduceAdd, Nat.reduceMul]; omega)))))
structure Has06 (T : Tab) : Prop where
  a : Has06a T
  cell : T.fn 9 = some fn__law_cell
  dig : T.fn 10 = some fn__law_digits
  rows : T.fn 51 = some fn__law_rows
def fn_law_4 : Fn := { np := 1, nl := 26, fr := false, body := [.asg 1 (.call 10 [(.call 9 [(.var 0), (.int 0)]), (.lst [(.int 3), (.int 4), (.int 4), (.int 4), (.int 4), (.int 4), (.int 3), (.int 3), (.int 3), (.int 4), (.int 4), (.int 4), (.int 4), (.int 3)])]), .asg 2 (.bin .add (.int 1) (.bin .mod (.bin .add (.idx (.var 1) (.int 0)) (.int 1)) (.int 3))), .asg 3 (.idx (.lst [(.int 3), (.int 2), (.int 4), (.int 3)]) (.idx (.var 1) (.int 1))), .ifs (.cmp .eq (.var 2) (.int 3)) [.asg 3 (.bi .min [(.var 3), (.int 3)])] [], .asg 4 (.call 51 [(.var 2), (.var 3), (.call 10 [(.call 9 [(.var 0), (.int 1)]), (.bin .add (.lst [(.int 7)]) (.bin .mul (.bin .add (.bin .mul (.lst [(.int 10)]) (.var 3)) (.lst [(.int 12)])) (.int 6)))])]), .asg 5 (.call 51 [(.var 2), (.var 3), (.call 10 [(.call 9 [(.var 0), (.int 2)]), (.bin .add (.lst [(.int 7)]) (.bin .mul (.bin .add (.bin .mul (.lst [(.int 10)]) (.var 3)) (.lst [(.int 12)])) (.int 6)))])]), .ifs (.cmp .eq (.idx (.var 1) (.int 13)) (.int 0)) [.asg 5 (.slc (.var 4) none (some (.bin .sub (.bi .len [(.var 4)]) (.int 1))))] [], .asg 6 (.new 87 [(.var 2), (.var 3), (.bi .tuple [(.var 4)])]), .asg 7 (.new 87 [(.var 2), (.var 3), (.bi .tuple [(.var 5)])]), .asg 8 (.call 46 [(.var 2), (.var 3)]), .asg 9 (.call 100 [(.var 3), (.slc (.var 1) (some (.int 2)) (some (.int 6)))]), .asg 10 (.comp (.bin .add (.int 1) (.var 23)) 23 (.seq (.call 100 [(.var 2), (.slc (.var 1) (some (.int 6)) (some (.int 9)))])) none), .asg 11 (.call 92 [(.var 6), (.bi .tuple [(.var 9)])]), .asg 12 (.comp (.call 49 [(.var 4), (.bi .tuple [(.comp (.idx (.var 24) (.var 23)) 23 (.seq (.var 9)) none)])]) 24 (.seq (.var 8)) none), .ifs (.or (.not (.call 102 [(.var 11), (.var 2), (.var 3), (.var 12)])) (.not (.eqo false (.call 92 [(.var 11), (.bi .tuple [(.call 101 [(.var 9)])])]) (.var 6)))) [.ret (.bl false)] [], .asg 13 (.call 94 [(.var 6), (.bi .tuple [(.var 10)])]), .asg 14 (.comp (.bin .add (.int 1) (.var 23)) 23 (.seq (.call 101 [(.comp (.bin .sub (.var 25) (.int 1)) 25 (.seq (.var 10)) none)])) none), .ifs (.not (.call 102 [(.var 13), (.var 2), (.var 3), (.comp (.call 103 [(.var 4), (.var 10), (.var 24)]) 24 (.seq (.var 8)) none)])) [.ret (.bl false)] [], .ifs (.not (.eqo false (.call 94 [(.var 13), (.bi .tuple [(.var 14)])]) (.var 6))) [.ret (.bl false)] [], .asg 15 (.bin .mod (.idx (.var 1) (.int 9)) (.var 3)), .asg 16 (.bin .mod (.idx (.var 1) (.int 10)) (.bin .add (.var 2) (.int 1))), .asg 17 (.bin .mod (.idx (.var 1) (.int 11)) (.bin .sub (.var 3) (.int 1))), .asg 18 (.bin .add (.bin .add (.var 17) (.int 1)) (.bin .mod (.idx (.var 1) (.int 12)) (.bin .sub (.bin .sub (.var 3) (.int 1)) (.var 17)))), .asg 19 (.call 46 [(.var 2), (.bin .sub (.var 3) (.int 1))]), .asg 12 (.comp (.call 49 [(.var 4), (.bin .add (.bin .add (.slc (.var 24) none (some (.var 15))) (.tup [(.var 16)])) (.slc (.var 24) (some (.var 15)) none))]) 24 (.seq (.var 19)) none), .ifs (.not (.call 102 [(.call 96 [(.var 6), (.var 15), (.var 16)]), (.var 2), (.bin .sub (.var 3) (.int 1)), (.var 12)])) [.ret (.bl false)] [], .asg 12 (.comp (.call 49 [(.var 4), (.bin .add (.bin .add (.slc (.var 24) none (some (.var 18))) (.tup [(.idx (.var 24) (.var 17))])) (.slc (.var 24) (some (.var 18)) none))]) 24 (.seq (.var 19)) none), .ifs (.not (.call 102 [(.call 97 [(.var 6), (.var 17), (.var 18)]), (.var 2), (.bin .sub (.var 3) (.int 1)), (.var 12)])) [.ret (.bl false)] [], .asg 20 (.comp (.call 49 [(.var 4), (.var 24)]) 24 (.seq (.var 8)) none), .asg 21 (.comp (.call 49 [(.var 5), (.var 24)]) 24 (.seq (.var 8)) none), .asg 12 (.comp (.bin .mul (.idx (.var 20) (.var 23)) (.bi .int [(.cmp .eq (.idx (.var 20) (.var 23)) (.idx (.var 21) (.var 23)))])) 23 (.rng [(.bi .len [(.var 8)])]) none), .asg 22 (.call 98 [(.var 6), (.var 7)]), .ifs (.not (.call 102 [(.var 22), (.var 2), (.var 3), (.var 12)])) [.ret (.bl false)] [], .ifs (.or (.not (.call 8 [(.call 99 [(.var 6), (.var 7)]), (.call 104 [(.var 20), (.var 21)])])) (.not (.call 8 [(.call 99 [(.var 7), (.var 6)]), (.call 104 [(.var 21), (.var 20)])]))) [.ret (.bl false)] [], .ifs (.or (.not (.call 8 [(.call 99 [(.var 22), (.var 6)]), (.bl true)])) (.not (.call 8 [(.call 99 [(.var 22), (.var 7)]), (.bl true)]))) [.ret (.bl false)] [], .ret (.call 8 [(.call 99 [(.var 6), (.var 22)]), (.call 104 [(.var 20), (.var 12)])])] }
theorem sizes_of {p : Nat} (hp : p ≤ 10) : Sizes (7 :: (List.replicate 6 (List.replicate p (10 : Int) ++ [12])).flatten) ∧ (7 :: (List.replicate 6 (List.replicate p (10 : Int) ++ [12])).flatten).length = 1 + 6 * (p + 1) := by
  refine ⟨⟨by simp [lineSz]; omega, fun z hz => ?_⟩, by simp; omega⟩
  simp only [List.mem_cons, List.mem_flatten, List.mem_replicate] at hz
  rcases hz with rfl | ⟨l, ⟨_, rfl⟩, hz⟩
  · omega
  · rcases List.mem_append.mp hz with hz | hz
    · have := (List.mem_replicate.mp hz).2; omega
    · have := List.mem_singleton.mp hz; omega
theorem pow_sm {a p : Nat} (ha : a ≤ 3) (hp : p ≤ 6) : (a + 1) ^ p ≤ 100000 :=
  Nat.le_trans (Nat.pow_le_pow_left (show a + 1 ≤ 4 by omega) p) (Nat.le_trans (Nat.pow_le_pow_right (by decide) hp) (by decide))
section
variable {T : Tab} {n : Nat}
theorem law06 (h : Has06 T) (ns : List Int) (id : Nat) (hl : T.fn id = some fn_law_4) : ev T (n + 10) id [.scr (ns.map .int)] = .ok (.bl true) := by
  simp_all_arith [fn_law_4]
  show Wp (K := _) (evSs T (ev T (n + 9)) _ _)
  obtain ⟨c0, hc0⟩ := l_cell (n := n + 9) h.cell ns 0 (by omega) (by omega)
  obtain ⟨c1, hc1⟩ := l_cell (n := n + 9) h.cell ns 1 (by omega) (by omega)
  obtain ⟨c2, hc2⟩ := l_cell (n := n + 9) h.cell ns 2 (by omega) (by omega)
  obtain ⟨hd, hhd, hdl, hdb⟩ := l_digits (n := n + 9) h.dig c0 [3, 4, 4, 4, 4, 4, 3, 3, 3, 4, 4, 4, 4, 3] ⟨by decide, by decide⟩ (by omega)
  simp only [List.map_cons, List.map_nil] at hhd
  simp only [List.length_cons, List.length_nil] at hdl
  have b0 : 0 ≤ at0 hd 0 ∧ at0 hd 0 < 3 := hdb 0 (by omega)
  have b1 : 0 ≤ at0 hd 1 ∧ at0 hd 1 < 4 := hdb 1 (by omega)
  have b13 : 0 ≤ at0 hd 13 ∧ at0 hd 13 < 3 := hdb 13 (by omega)
  obtain ⟨a, ha⟩ : ∃ a : Nat, 1 + (at0 hd 0 + 1) % 3 = a := ⟨(1 + (at0 hd 0 + 1) % 3).toNat, by omega⟩
  have ix1 : idxD (.lst [.int 3, .int 2, .int 4, .int 3]) (.int (at0 hd 1)) = .ok (.int (at0 [3, 2, 4, 3] (at0 hd 1).toNat)) := w_ixL (x := [3, 2, 4, 3]) b1.1 (by simp; omega)
  obtain ⟨q, hq, hq2, hq4⟩ : ∃ q : Nat, at0 [3, 2, 4, 3] (at0 hd 1).toNat = q ∧ 2 ≤ q ∧ q ≤ 4 := by
    obtain h | h | h | h : at0 hd 1 = 0 ∨ at0 hd 1 = 1 ∨ at0 hd 1 = 2 ∨ at0 hd 1 = 3 := by omega
    · exact ⟨3, by rw [h]; rfl, by omega⟩
    · exact ⟨2, by rw [h]; rfl, by omega⟩
    · exact ⟨4, by rw [h]; rfl, by omega⟩
    · exact ⟨3, by rw [h]; rfl, by omega⟩
  simp_arith [hc0, hhd, fresh_call h.dig rfl, ha, ix1, hq]
  refine w_mif [] (fun p : Nat => [(3, .val (.int (p : Int)))]) (fun p => 2 ≤ p ∧ p ≤ 4) ?_ ?_
  · by_cases z : (a : Int) = 3
    · simp_arith [z]
      exact ⟨min q 3, by omega, by omega⟩
    · simp_arith [z]
      exact ⟨q, by omega, by omega⟩
  rintro p js ⟨hp2, hp4⟩
  obtain ⟨hsz, hszl⟩ := sizes_of (p := p) (by omega)
  obtain ⟨d1, hd1, hd1l, _⟩ := l_digits (n := n + 9) h.dig c1 _ hsz (by omega)
  obtain ⟨d2, hd2, hd2l, _⟩ := l_digits (n := n + 9) h.dig c2 _ hsz (by omega)
  obtain ⟨rs, hrs, hm, hrl⟩ := ev_lrows (n := n + 7) h.a.lv h.rows (a := a) (p := p) (by omega) (by omega) (hd1l.trans hszl)
  obtain ⟨os, hos, hmo, hol⟩ := ev_lrows (n := n + 7) h.a.lv h.rows (a := a) (p := p) (by omega) (by omega) (hd2l.trans hszl)
  have hrs : ev T (n + 9) 51 _ = _ := hrs
  have hos : ev T (n + 9) 51 _ = _ := hos
  obtain ⟨p1, rfl⟩ : ∃ p1, p = p1 + 1 := ⟨p - 1, by omega⟩
  have hp1 : ((p1 + 1 : Nat) : Int) - 1 = (p1 : Int) := by omega
  have hB := h.a.turn.box
  have hcls := hB.cls
  have hin : ev T (n + 9) 46 [.int a, .int (p1 + 1 : Nat)] = .ok (.lst ((inputsL a (p1 + 1)).map ti)) := ev_inputs (n := n + 8) h.a.inp (by omega) (by omega) (pow_sm (by omega) (by omega))
  have hin1 : ev T (n + 9) 46 [.int a, .int p1] = .ok (.lst ((inputsL a p1).map ti)) := ev_inputs (n := n + 8) h.a.inp (by omega) (by omega) (pow_sm (by omega) (by omega))
  have hil : (inputsL a (p1 + 1)).length ≤ 100000 := by rw [inputsL_len]; exact pow_sm (by omega) (by omega)
  have hil1 : (inputsL a p1).length ≤ 100000 := by rw [inputsL_len]; exact pow_sm (by omega) (by omega)
  obtain ⟨o, hod, ho⟩ := ev_lorder (n := n + 8) h.a.order (m := p1 + 1) (ds := (hd.drop 2).take 4) (by omega) (by omega) (by simp; omega)
  obtain ⟨o2, hod2, ho2⟩ := ev_lorder (n := n + 8) h.a.order (m := a) (ds := (hd.drop 6).take 3) (by omega) (by omega) (by simp; omega)
  have ol := ho.len
  have ol2 := ho2.len
  simp_arith [hc1, hc2, hd1, hd2, hrs, hos, fresh_call h.rows rfl]
  refine w_mif [] (fun os : KV => [(5, .own (.lst (os.map tr)))]) (fun os => Mono a (p1 + 1) os ∧ os.length ≤ 6) ?_ ?_
  · by_cases z : at0 hd 13 = 0
    · rcases Nat.eq_zero_or_pos rs.length with hl | hl
      · have : rs = [] := List.length_eq_zero_iff.mp hl
        subst this
        have : slcD (.lst (List.map tr [])) none (some (((([] : KV).length : Nat) : Int) - 1)) = .ok (.lst (List.map tr ([] : KV))) := rfl
        simp_arith [z, this]
        exact ⟨[], rfl, .nil, by simp⟩
      · simp_arith [z]
        refine ⟨_, rfl, hm.sub fun q hq => List.mem_of_mem_take hq, by simp; omega⟩
    · simp_arith [z]
      exact ⟨os, rfl, hmo, hol⟩
  rintro ws js ⟨hmw, hwl⟩
  clear hd1 hd2 hrs hos hc1 hc2 hc0 hhd ix1
  have B1 := l_box (n := n + 9) hB (by omega) (by omega) (by omega) (by omega) hm
  have B2 := l_box (n := n + 9) hB (by omega) (by omega) (by omega) (by omega) hmw
  have V1 := fun (x : List Int) (hx : x.length = p1 + 1) => l_value (n := n + 9) h.a.lv hm hx (by omega) (by omega)
  have V2 := fun (x : List Int) (hx : x.length = p1 + 1) => l_value (n := n + 9) h.a.lv hmw hx (by omega) (by omega)
  simp_arith [B1, B2, hin, hod, hod2, fresh_call h.a.inp rfl, fresh_call h.a.order rfl]
  rw [w_map (to o2) D.int (fun k => .int (1 + k))]
  simp_arith! [hod2]
  · intro k hk; simp_arith []
  have en : (to o2).map (fun k => D.int (1 + k)) = (nm1 o2).map D.int := by simp [to, nm1, List.map_map, Function.comp_def]
  have hml := hm.least
  have rl := leastS_len (rs := rs)
  have M1 := mono_mv hml ho
  have vl := fun x => valAt_least hm.wide hm.clash x
  have E1 := ev_moved (n := n + 4) h.a.turn (rs2 := mvR (leastS rs) o) hm (by rw [ho.len]; exact ho.lt) ho.len (by omega) (by omega) (by omega) rfl M1
  have l1 : (mvR (leastS rs) o).length ≤ 6 := by simp [mvR]; omega
  simp_arith [en, E1]
  rw [w_map (inputsL a (p1 + 1)) ti (fun x => .int (valAt (mvR (leastS rs) o) x))]
  simp_arith! []
  · intro x hx
    have hxi := inputsL_inp _ _ x hx
    simp_arith []
    rw [w_map (to o) D.int (fun k => .int (at0 x k.toNat))]
    simp_arith! []
    · intro k hk
      obtain ⟨j, hj, rfl⟩ := List.mem_map.mp hk
      have := ho.lt j hj
      have := hxi.len
      simp_arith []
    have e : (to o).map (fun k => D.int (at0 x k.toNat)) = (ordL x o).map D.int := by simp [to, ordL, List.map_map, Function.comp_def]
    have := V1 (ordL x o) (by simp [ordL, ol])
    simp_arith [e, this]
    rw [val_mv hml ho, vl]
  have H1 := ev_lhas (n := n + 6) h.a (by omega) (by omega) M1 (by omega) (pow_sm (by omega) (by omega))
  have e1 : (inputsL a (p1 + 1)).map (fun x => D.int (valAt (mvR (leastS rs) o) x)) = (valsL a (p1 + 1) (mvR (leastS rs) o)).map D.int := by simp [valsL, List.map_map, Function.comp_def]
  have K1 := ev_lback (n := n + 8) h.a.back (p := p1 + 1) (by omega) ho
  have M1b := mono_mv M1.least (bk_prm ho)
  have ob := (bk_prm ho).len
  have E1b := ev_moved (n := n + 4) h.a.turn (rs2 := mvR (leastS (mvR (leastS rs) o)) (bk o)) M1 (by rw [(bk_prm ho).len]; exact (bk_prm ho).lt) (bk_prm ho).len (by omega) (by omega) (by omega) rfl M1b
  have Q1 := l_eqbox (n := n + 9) hB (a := a) (p := p1 + 1) (rs := mvR (leastS (mvR (leastS rs) o)) (bk o)) (a' := a) (p' := p1 + 1) (rs' := rs) (by omega)
  have X1 : leastS (mvR (leastS (mvR (leastS rs) o)) (bk o)) = leastS rs := leastS_ext M1b hm fun x hx => by
    rw [val_mv M1.least (bk_prm ho), valAt_least M1.wide M1.clash, val_mv hml ho, ord_bk (a := a) ho hx.len, vl]
  have M2 := mono_ren hml ho2
  have E2 := ev_renamed (n := n + 4) h.a.turn (rs2 := (leastS rs).map (renR (nm1 o2))) hm (by simp [nm1, ol2]) (by omega) (by omega) (by omega) rfl M2
  have l2 : ((leastS rs).map (renR (nm1 o2))).length ≤ 6 := by rw [List.length_map]; omega
  simp_arith [e1, H1, K1, E1b, eqoD_box hB, Q1, X1, E2]
  have K2 := ev_lback (n := n + 8) h.a.back (p := a) (by omega) ho2
  have ob2 := (bk_prm ho2).len
  have nl : (nm1 o2).length = a := by simp [nm1, ol2]
  rw [w_map (to (bk o2)) D.int (fun k => .int (1 + k))]
  rotate_left 1
  · simp_arith []
    rw [w_map (nm1 o2) D.int (fun v => .int (v - 1))]
    simp_arith! []
    · intro v hv; simp_arith []
    have e : (nm1 o2).map (fun v => D.int (v - 1)) = (to o2).map D.int := by
      simp only [nm1, to, List.map_map]
      exact List.map_congr_left fun k _ => by simp only [Function.comp_apply]; congr 1; omega
    simp_arith [e, K2]
  · simp_arith []
  · simp_arith []; omega
  · intro k hk; simp_arith []
  have en2 : (to (bk o2)).map (fun k => D.int (1 + k)) = (nm1 (bk o2)).map D.int := by simp [to, nm1, List.map_map, Function.comp_def]
  simp_arith [en2]
  rw [w_map (inputsL a (p1 + 1)) ti (fun x => .int (valAt ((leastS rs).map (renR (nm1 o2))) x))]
  simp_arith! []
  · intro x hx
    have hxi := inputsL_inp _ _ x hx
    have := ev_lrnv (n := n + 6) h.a (RD := .lst (rs.map tr)) rfl (by omega) (by omega) hm ho2 hxi
    simp_arith [this]
    rw [val_ren hml ho2 hxi, vl]
  have H2 := ev_lhas (n := n + 6) h.a (by omega) (by omega) M2 (by omega) (pow_sm (by omega) (by omega))
  have e2 : (inputsL a (p1 + 1)).map (fun x => D.int (valAt ((leastS rs).map (renR (nm1 o2))) x)) = (valsL a (p1 + 1) ((leastS rs).map (renR (nm1 o2)))).map D.int := by simp [valsL, List.map_map, Function.comp_def]
  have M2b := mono_ren M2.least (bk_prm ho2)
  have E2b := ev_renamed (n := n + 4) h.a.turn (rs2 := (leastS ((leastS rs).map (renR (nm1 o2)))).map (renR (nm1 (bk o2)))) M2 (by simp [nm1, ob2]) (by omega) (by omega) (by omega) rfl M2b
  have Q2 := l_eqbox (n := n + 9) hB (a := a) (p := p1 + 1) (rs := (leastS ((leastS rs).map (renR (nm1 o2)))).map (renR (nm1 (bk o2)))) (a' := a) (p' := p1 + 1) (rs' := rs) (by omega)
  have X2 : leastS ((leastS ((leastS rs).map (renR (nm1 o2)))).map (renR (nm1 (bk o2)))) = leastS rs := leastS_ext M2b hm fun x hx => by
    have hxb : Inp a (p1 + 1) (x.map (old1 (bk o2))) := hx.map fun v h0 h1 => old_rng (bk_prm ho2) h0 h1
    have hr := valAt_rng hml (x := x)
    rw [val_ren M2.least (bk_prm ho2) hx, valAt_least M2.wide M2.clash, val_ren hml ho2 hxb, List.map_map]
    have : x.map (old1 o2 ∘ old1 (bk o2)) = x := by
      conv => rhs; rw [← List.map_id x]
      exact List.map_congr_left fun v hv => old_back ho2 (hx.dig v hv).1 (hx.dig v hv).2
    rw [this, nm_back ho2 hr.1 hr.2, vl]
  obtain ⟨pl, hpl, hpl2⟩ := mod_nat (at0 hd 9) (m := (p1 + 1 : Nat)) (by omega)
  obtain ⟨v, hv, hv2⟩ := mod_nat (at0 hd 10) (m := (a : Int) + 1) (by omega)
  obtain ⟨f, hf, hf2⟩ := mod_nat (at0 hd 11) (m := (p1 : Int)) (by omega)
  obtain ⟨s, hs, hs2⟩ := mod_nat (at0 hd 12) (m := (p1 : Int) - f) (by omega)
  obtain ⟨t, ht⟩ : ∃ t : Nat, t = f + 1 + s := ⟨_, rfl⟩
  have ht2 : (f : Int) + 1 + s = t := by omega
  have M3 := mono_fix (i := pl) (v := v) hml (by omega)
  have E3 := ev_fixed (n := n + 4) h.a.turn (i := pl) (v := v) (rs2 := ((leastS rs).filter (fixC pl v)).map (fixF pl)) hm (by omega) (by omega) (by omega) (by omega) rfl M3
  have l3 : (((leastS rs).filter (fixC pl v)).map (fixF pl)).length ≤ 6 := by
    have := List.length_filter_le (fixC pl v) (leastS rs)
    rw [List.length_map]; omega
  have H3 := ev_lhas (n := n + 6) h.a (by omega) (by omega) M3 (by omega) (pow_sm (by omega) (by omega))
  have e3 : (inputsL a p1).map (fun x => D.int (valAt (((leastS rs).filter (fixC pl v)).map (fixF pl)) x)) = (valsL a p1 (((leastS rs).filter (fixC pl v)).map (fixF pl))).map D.int := by simp [valsL, List.map_map, Function.comp_def]
  simp_arith [e2, H2, E2b, eqoD_box hB, Q2, X2, hpl, hv, hp1, hf, hs, ht2, hin1, fresh_call h.a.inp rfl]
  rw [w_map (inputsL a p1) ti (fun x => .int (valAt (((leastS rs).filter (fixC pl v)).map (fixF pl)) x))]
  simp_arith! []
  · intro x hx
    have hxl := (inputsL_inp _ _ x hx).len
    simp_arith []
    have := V1 (insL x pl v) (by rw [insL_len (by omega), hxl])
    rw [val_fix hml (by omega) hxl, vl]
    exact this
  simp_arith [e3, E3, H3, hp1]
  have M4 := mono_mrg (f := f) (s := t) hml (by omega) (by omega)
  have E4 := ev_merged (n := n + 4) h.a.turn (i := f) (j := t) (rs2 := ((leastS rs).filter (mrgC f t)).map (mrgF f t)) hm (by omega) (by omega) (by omega) (by omega) (by omega) rfl M4
  have l4 : (((leastS rs).filter (mrgC f t)).map (mrgF f t)).length ≤ 6 := by
    have := List.length_filter_le (mrgC f t) (leastS rs)
    rw [List.length_map]; omega
  have H4 := ev_lhas (n := n + 6) h.a (by omega) (by omega) M4 (by omega) (pow_sm (by omega) (by omega))
  have e4 : (inputsL a p1).map (fun x => D.int (valAt (((leastS rs).filter (mrgC f t)).map (mrgF f t)) x)) = (valsL a p1 (((leastS rs).filter (mrgC f t)).map (mrgF f t))).map D.int := by simp [valsL, List.map_map, Function.comp_def]
  rw [w_map (inputsL a p1) ti (fun x => .int (valAt (((leastS rs).filter (mrgC f t)).map (mrgF f t)) x))]
  simp_arith! []
  · intro x hx
    have hxl := (inputsL_inp _ _ x hx).len
    simp_arith []
    have := V1 (insL x t (at0 x f)) (by rw [insL_len (by omega), hxl])
    rw [val_mrg hml (by omega) (by omega) hxl, vl]
    exact this
  simp_arith [e4, E4, H4, hp1]
  rw [w_map (inputsL a (p1 + 1)) ti (fun x => .int (valAt rs x))]
  simp_arith! []
  · intro x hx
    have hxl := (inputsL_inp _ _ x hx).len
    simp_arith [V1 x hxl]
  have e5 : (inputsL a (p1 + 1)).map (fun x => D.int (valAt rs x)) = (valsL a (p1 + 1) rs).map D.int := by simp [valsL, List.map_map, Function.comp_def]
  have e6 : (inputsL a (p1 + 1)).map (fun x => D.int (valAt ws x)) = (valsL a (p1 + 1) ws).map D.int := by simp [valsL, List.map_map, Function.comp_def]
  simp_arith [e5]
  rw [w_map (inputsL a (p1 + 1)) ti (fun x => .int (valAt ws x))]
  simp_arith! []
  · intro x hx
    have hxl := (inputsL_inp _ _ x hx).len
    simp_arith [V2 x hxl]
  have wl := leastS_len (rs := ws)
  have M5 := mono_com hml hmw.least
  have E5 := ev_compart (n := n + 4) h.a.turn (rs2 := (leastS rs).flatMap (comRow (leastS ws))) hm hmw (by omega) (by omega) (by omega) (by omega) rfl M5
  have l5 : ((leastS rs).flatMap (comRow (leastS ws))).length ≤ 36 := Nat.le_trans com_len (Nat.mul_le_mul (show _ ≤ 6 by omega) (show _ ≤ 6 by omega))
  have H5 := ev_lhas (n := n + 6) h.a (by omega) (by omega) M5 (by omega) (pow_sm (by omega) (by omega))
  have vlen : ∀ q : KV, (valsL a (p1 + 1) q).length = (inputsL a (p1 + 1)).length := fun q => by simp [valsL]
  have vlw := fun x => valAt_least hmw.wide hmw.clash x
  have vat : ∀ (q : KV) (k : Nat) (x : List Int), (inputsL a (p1 + 1))[k]? = some x → at0 (valsL a (p1 + 1) q) k = valAt q x := fun q k x hx => at0_of (by unfold valsL; rw [List.getElem?_map, hx]; rfl)
  have v1 := vlen rs
  have v2 := vlen ws
  simp_arith [e6]
  rw [w_map (List.range (inputsL a (p1 + 1)).length) intN (fun k => .int (at0 (valsL a (p1 + 1) ((leastS rs).flatMap (comRow (leastS ws)))) k))]
  simp_arith! []
  · intro k hk
    have hk := List.mem_range.mp hk
    have hx := List.getElem?_eq_getElem hk
    generalize (inputsL a (p1 + 1))[k] = x at hx
    have hxl := (inputsL_inp _ _ x (List.mem_of_getElem? hx)).len
    simp_arith [vat rs k x hx, vat ws k x hx]
    have hv := val_com hml hmw.least hxl
    rw [vl, vlw] at hv
    rw [vat _ k x hx, hv]; simp only [decide_eq_true_eq]
  have e7 : (List.range (inputsL a (p1 + 1)).length).map (fun k => D.int (at0 (valsL a (p1 + 1) ((leastS rs).flatMap (comRow (leastS ws)))) k)) = (valsL a (p1 + 1) ((leastS rs).flatMap (comRow (leastS ws)))).map D.int := by
    rw [← vlen ((leastS rs).flatMap (comRow (leastS ws)))]
    refine List.ext_getElem (by simp) fun i h1 h2 => ?_
    simp at h1
    simp [at0, List.getElem?_eq_getElem h1]
  have F1 := ev_bbelow (n := n + 6) h.a.turn hm hmw (by omega) (by omega) (by omega)
  have F2 := ev_bbelow (n := n + 6) h.a.turn hmw hm (by omega) (by omega) (by omega)
  have F3 := ev_bbelow (n := n + 6) h.a.turn M5 hm (by omega) (by omega) (by omega)
  have F4 := ev_bbelow (n := n + 6) h.a.turn M5 hmw (by omega) (by omega) (by omega)
  have F5 := ev_bbelow (n := n + 6) h.a.turn hm M5 (by omega) (by omega) (by omega)
  have v5 := vlen ((leastS rs).flatMap (comRow (leastS ws)))
  have G1 := l_belowL (n := n + 9) h.a.under (x := valsL a (p1 + 1) rs) (y := valsL a (p1 + 1) ws) (by omega) (by omega) (by omega)
  have G2 := l_belowL (n := n + 9) h.a.under (x := valsL a (p1 + 1) ws) (y := valsL a (p1 + 1) rs) (by omega) (by omega) (by omega)
  have G5 := l_belowL (n := n + 9) h.a.under (x := valsL a (p1 + 1) rs) (y := valsL a (p1 + 1) ((leastS rs).flatMap (comRow (leastS ws)))) (by omega) (by omega) (by omega)
  rw [below_vals hm hmw] at F1
  rw [below_vals hmw hm] at F2
  rw [below_vals hm M5] at F5
  have b3 : belowB ((leastS rs).flatMap (comRow (leastS ws))) rs = true := by
    rw [below_vals M5 hm, below_iff]
    intro i hi
    rw [v5] at hi
    have hx := List.getElem?_eq_getElem hi
    generalize (inputsL a (p1 + 1))[i] = x at hx
    have hxl := (inputsL_inp _ _ x (List.mem_of_getElem? hx)).len
    rw [vat _ i x hx, vat _ i x hx, val_com hml hmw.least hxl, vl, vlw]
    by_cases z : valAt rs x = valAt ws x <;> simp [z]
  have b4 : belowB ((leastS rs).flatMap (comRow (leastS ws))) ws = true := by
    rw [below_vals M5 hmw, below_iff]
    intro i hi
    rw [v5] at hi
    have hx := List.getElem?_eq_getElem hi
    generalize (inputsL a (p1 + 1))[i] = x at hx
    have hxl := (inputsL_inp _ _ x (List.mem_of_getElem? hx)).len
    rw [vat _ i x hx, vat _ i x hx, val_com hml hmw.least hxl, vl, vlw]
    by_cases z : valAt rs x = valAt ws x <;> simp [z]
  rw [b3] at F3
  rw [b4] at F4
  have S := fun x y => l_sameB (n := n + 9) h.a.same (i := x) (j := y) (by omega)
  simp_arith [e7, E5, H5, F1, F2, F3, F4, F5, G1, G2, G5, S, beq_self_eq_true]
end
end Ev

set_option linter.all false
set_option autoImplicit false
set_option maxRecDepth 100000
set_option maxHeartbeats 0
set_option Elab.async false
namespace L06
open PySem PySem.Spec PyProof.Rows L2 Ev
def top (i : Nat) : Stmt := PySem.Challenge.pw_eitheranswers_k06_boxes_turned.main.body.getD i (.Pass ⟨0, 0, 0, 0⟩)
def cdef (i j : Nat) : Stmt := inCls (top i) j
def r_is_below : FR := ⟨65, "is_below", fn_is_below, top 5, ["x", "y", "place"], ["x", "y"], none, "is_below"⟩
def r_contradicting_place : FR := ⟨66, "contradicting_place", fn_contradicting_place, top 6, ["x", "y", "place"], ["x", "y"], none, "contradicting_place"⟩
def r_agree : FR := ⟨67, "agree", fn_agree, top 7, ["x", "y"], ["x", "y"], none, "agree"⟩
def r_joined : FR := ⟨90, "joined", fn_joined, top 8, ["x", "y", "place", "k"], ["x", "y"], none, "joined"⟩
def r_first_clash : FR := ⟨69, "first_clash", fn_first_clash, top 10, ["rows", "first", "second"], ["rows"], none, "first_clash"⟩
def r_has_lower : FR := ⟨70, "has_lower", fn_has_lower, top 11, ["rows", "x", "row"], ["rows", "x"], none, "has_lower"⟩
def r_least_rows : FR := ⟨71, "least_rows", fn_least_rows, top 12, ["rows", "known", "row", "x"], ["rows"], none, "least_rows"⟩
def r_moved_input : FR := ⟨91, "moved_input", fn_moved_input, top 15, ["x", "order", "values", "k", "place"], ["x", "order"], none, "moved_input"⟩
def r_moved : FR := ⟨92, "moved", fn_moved, top 16, ["box", "order", "row"], ["box", "order"], none, "moved"⟩
def r_renamed_value : FR := ⟨93, "renamed_value", fn_renamed_value, top 17, ["value", "names"], ["value", "names"], none, "renamed_value"⟩
def r_renamed : FR := ⟨94, "renamed", fn_renamed, top 18, ["box", "names", "rows", "row", "x", "value"], ["box", "names"], none, "renamed"⟩
def r_without_place : FR := ⟨95, "without_place", fn_without_place, top 19, ["x", "place"], ["x", "place"], none, "without_place"⟩
def r_fixed : FR := ⟨96, "fixed", fn_fixed, top 20, ["box", "place", "value", "rows", "row"], ["box", "place", "value"], none, "fixed"⟩
def r_merged : FR := ⟨97, "merged", fn_merged, top 21, ["box", "first", "second", "rows", "row", "one", "two", "x"], ["box", "first", "second"], none, "merged"⟩
def r_common_part : FR := ⟨98, "common_part", fn_common_part, top 22, ["one", "two", "rows", "row", "other"], ["one", "two"], none, "common_part"⟩
def r_box_below : FR := ⟨99, "box_below", fn_box_below, top 23, ["one", "two", "row"], ["one", "two"], none, "box_below"⟩
def r__law_whole : FR := ⟨7, "_law_whole", fn__law_whole, top 25, ["value"], ["value"], none, "_law_whole"⟩
def r__law_same : FR := ⟨8, "_law_same", fn__law_same, top 26, ["actual", "due", "k"], ["actual", "due"], none, "_law_same"⟩
def r__law_cell : FR := ⟨9, "_law_cell", fn__law_cell, top 27, ["script", "k", "seed", "cell"], ["script", "k"], none, "_law_cell"⟩
def r__law_digits : FR := ⟨10, "_law_digits", fn__law_digits, top 28, ["cell", "sizes", "row", "rest", "seed", "k", "size", "twice"], ["cell", "sizes"], none, "_law_digits"⟩
def r__law_inputs : FR := ⟨46, "_law_inputs", fn__law_inputs, top 29, ["answers", "places", "grown", "k", "j"], ["answers", "places"], none, "_law_inputs"⟩
def fn__law_below : Fn := { np := 2, nl := 3, fr := false, body := [.fors (.one 2) (.rng [(.bi .len [(.var 0)])]) [.ifs (.and (.cmp .ne (.idx (.var 0) (.var 2)) (.int 0)) (.cmp .ne (.idx (.var 0) (.var 2)) (.idx (.var 1) (.var 2)))) [.ret (.bl false)] []], .ret (.bl true)] }
def r__law_below : FR := ⟨47, "_law_below", fn__law_below, top 30, ["x", "y", "k"], ["x", "y"], none, "_law_below"⟩
def r__law_agree : FR := ⟨48, "_law_agree", fn__law_agree, top 31, ["x", "y", "k"], ["x", "y"], none, "_law_agree"⟩
def r__law_value : FR := ⟨49, "_law_value", fn__law_value, top 32, ["rows", "x", "row"], ["rows", "x"], none, "_law_value"⟩
def r__law_rows : FR := ⟨51, "_law_rows", fn__law_rows, top 33, ["answers", "places", "row", "rows", "k", "part", "x", "answer", "clash", "other", "j"], ["answers", "places", "row"], none, "_law_rows"⟩
def r__law_order : FR := ⟨100, "_law_order", fn__law_order, top 34, ["many", "row", "order", "k", "j", "kept"], ["many", "row"], none, "_law_order"⟩
def r__law_back : FR := ⟨101, "_law_back", fn__law_back, top 35, ["order", "back", "k"], ["order"], none, "_law_back"⟩
def r__law_has_1 : FR := ⟨102, "_law_has", fn__law_has_1, top 36, ["box", "answers", "places", "values", "inputs", "k"], ["box", "answers", "places", "values"], none, "_law_has"⟩
def r__law_renamed_value : FR := ⟨103, "_law_renamed_value", fn__law_renamed_value, top 37, ["rows", "names", "x", "old", "k", "value"], ["rows", "names", "x"], none, "_law_renamed_value"⟩
def fn__law_is_under : Fn := { np := 2, nl := 3, fr := false, body := [.fors (.one 2) (.rng [(.bi .len [(.var 0)])]) [.ifs (.and (.cmp .ne (.idx (.var 0) (.var 2)) (.int 0)) (.cmp .ne (.idx (.var 0) (.var 2)) (.idx (.var 1) (.var 2)))) [.ret (.bl false)] []], .ret (.bl true)] }
def r__law_is_under : FR := ⟨104, "_law_is_under", fn__law_is_under, top 38, ["low", "high", "k"], ["low", "high"], none, "_law_is_under"⟩
def r_law_4 : FR := ⟨105, "law", fn_law_4, top 39, ["script", "head", "answers", "places", "rows", "other", "box", "twin", "inputs", "order", "names", "turned", "values", "called", "back", "place", "value", "first", "second", "less", "one", "two", "part", "k", "x", "name"], ["script"], none, "law"⟩
def r_Box_init : FR := ⟨87, "__init__", fn_Box_init, cdef 13 0, ["self", "answers", "places", "rows", "clash", "given", "row", "answer"], ["self", "answers", "places", "rows"], some (⟨"Box", ["answers", "places", "least", "kinds"]⟩ : Cl), "Box.__init__"⟩
def r_Box_call : FR := ⟨88, "__call__", fn_Box_call, cdef 13 1, ["self", "x", "row"], ["self", "x"], some (⟨"Box", ["answers", "places", "least", "kinds"]⟩ : Cl), "Box.__call__"⟩
def r_Box_eq : FR := ⟨89, "__eq__", fn_Box_eq, cdef 13 2, ["self", "other"], ["self", "other"], some (⟨"Box", ["answers", "places", "least", "kinds"]⟩ : Cl), "Box.__eq__"⟩
def rows : List FR := [r_is_below, r_contradicting_place, r_agree, r_joined, r_first_clash, r_has_lower, r_least_rows, r_moved_input, r_moved, r_renamed_value, r_renamed, r_without_place, r_fixed, r_merged, r_common_part, r_box_below, r__law_whole, r__law_same, r__law_cell, r__law_digits, r__law_inputs, r__law_below, r__law_agree, r__law_value, r__law_rows, r__law_order, r__law_back, r__law_has_1, r__law_renamed_value, r__law_is_under, r_law_4, r_Box_init, r_Box_call, r_Box_eq]
def cs : List CR := []
abbrev G : Nm := gOf rows cs
abbrev T : Tab := tOf rows cs 100
theorem ok_is_below : OkFR G r_is_below := ⟨by decide +kernel, fun K a fd F => F.bindsN fun _ _ _ _ _ _ us hl => match us, hl with | [_, _], _ => rfl⟩
theorem ok_contradicting_place : OkFR G r_contradicting_place := ⟨by decide +kernel, fun K a fd F => F.bindsN fun _ _ _ _ _ _ us hl => match us, hl with | [_, _], _ => rfl⟩
theorem ok_agree : OkFR G r_agree := ⟨by decide +kernel, fun K a fd F => F.bindsN fun _ _ _ _ _ _ us hl => match us, hl with | [_, _], _ => rfl⟩
theorem ok_joined : OkFR G r_joined := ⟨by decide +kernel, fun K a fd F => F.bindsN fun _ _ _ _ _ _ us hl => match us, hl with | [_, _], _ => rfl⟩
theorem ok_first_clash : OkFR G r_first_clash := ⟨by decide +kernel, fun K a fd F => F.bindsN fun _ _ _ _ _ _ us hl => match us, hl with | [_], _ => rfl⟩
theorem ok_has_lower : OkFR G r_has_lower := ⟨by decide +kernel, fun K a fd F => F.bindsN fun _ _ _ _ _ _ us hl => match us, hl with | [_, _], _ => rfl⟩
theorem ok_least_rows : OkFR G r_least_rows := ⟨by decide +kernel, fun K a fd F => F.bindsN fun _ _ _ _ _ _ us hl => match us, hl with | [_], _ => rfl⟩
theorem ok_moved_input : OkFR G r_moved_input := ⟨by decide +kernel, fun K a fd F => F.bindsN fun _ _ _ _ _ _ us hl => match us, hl with | [_, _], _ => rfl⟩
theorem ok_moved : OkFR G r_moved := ⟨by decide +kernel, fun K a fd F => F.bindsN fun _ _ _ _ _ _ us hl => match us, hl with | [_, _], _ => rfl⟩
theorem ok_renamed_value : OkFR G r_renamed_value := ⟨by decide +kernel, fun K a fd F => F.bindsN fun _ _ _ _ _ _ us hl => match us, hl with | [_, _], _ => rfl⟩
theorem ok_renamed : OkFR G r_renamed := ⟨by decide +kernel, fun K a fd F => F.bindsN fun _ _ _ _ _ _ us hl => match us, hl with | [_, _], _ => rfl⟩
theorem ok_without_place : OkFR G r_without_place := ⟨by decide +kernel, fun K a fd F => F.bindsN fun _ _ _ _ _ _ us hl => match us, hl with | [_, _], _ => rfl⟩
theorem ok_fixed : OkFR G r_fixed := ⟨by decide +kernel, fun K a fd F => F.bindsN fun _ _ _ _ _ _ us hl => match us, hl with | [_, _, _], _ => rfl⟩
theorem ok_merged : OkFR G r_merged := ⟨by decide +kernel, fun K a fd F => F.bindsN fun _ _ _ _ _ _ us hl => match us, hl with | [_, _, _], _ => rfl⟩
theorem ok_common_part : OkFR G r_common_part := ⟨by decide +kernel, fun K a fd F => F.bindsN fun _ _ _ _ _ _ us hl => match us, hl with | [_, _], _ => rfl⟩
theorem ok_box_below : OkFR G r_box_below := ⟨by decide +kernel, fun K a fd F => F.bindsN fun _ _ _ _ _ _ us hl => match us, hl with | [_, _], _ => rfl⟩
theorem ok__law_whole : OkFR G r__law_whole := ⟨by decide +kernel, fun K a fd F => F.bindsN fun _ _ _ _ _ _ us hl => match us, hl with | [_], _ => rfl⟩
theorem ok__law_same : OkFR G r__law_same := ⟨by decide +kernel, fun K a fd F => F.bindsN fun _ _ _ _ _ _ us hl => match us, hl with | [_, _], _ => rfl⟩
theorem ok__law_cell : OkFR G r__law_cell := ⟨by decide +kernel, fun K a fd F => F.bindsN fun _ _ _ _ _ _ us hl => match us, hl with | [_, _], _ => rfl⟩
theorem ok__law_digits : OkFR G r__law_digits := ⟨by decide +kernel, fun K a fd F => F.bindsN fun _ _ _ _ _ _ us hl => match us, hl with | [_, _], _ => rfl⟩
theorem ok__law_inputs : OkFR G r__law_inputs := ⟨by decide +kernel, fun K a fd F => F.bindsN fun _ _ _ _ _ _ us hl => match us, hl with | [_, _], _ => rfl⟩
theorem ok__law_below : OkFR G r__law_below := ⟨by decide +kernel, fun K a fd F => F.bindsN fun _ _ _ _ _ _ us hl => match us, hl with | [_, _], _ => rfl⟩
theorem ok__law_agree : OkFR G r__law_agree := ⟨by decide +kernel, fun K a fd F => F.bindsN fun _ _ _ _ _ _ us hl => match us, hl with | [_, _], _ => rfl⟩
theorem ok__law_value : OkFR G r__law_value := ⟨by decide +kernel, fun K a fd F => F.bindsN fun _ _ _ _ _ _ us hl => match us, hl with | [_, _], _ => rfl⟩
theorem ok__law_rows : OkFR G r__law_rows := ⟨by decide +kernel, fun K a fd F => F.bindsN fun _ _ _ _ _ _ us hl => match us, hl with | [_, _, _], _ => rfl⟩
theorem ok__law_order : OkFR G r__law_order := ⟨by decide +kernel, fun K a fd F => F.bindsN fun _ _ _ _ _ _ us hl => match us, hl with | [_, _], _ => rfl⟩
theorem ok__law_back : OkFR G r__law_back := ⟨by decide +kernel, fun K a fd F => F.bindsN fun _ _ _ _ _ _ us hl => match us, hl with | [_], _ => rfl⟩
theorem ok__law_has_1 : OkFR G r__law_has_1 := ⟨by decide +kernel, fun K a fd F => F.bindsN fun _ _ _ _ _ _ us hl => match us, hl with | [_, _, _, _], _ => rfl⟩
theorem ok__law_renamed_value : OkFR G r__law_renamed_value := ⟨by decide +kernel, fun K a fd F => F.bindsN fun _ _ _ _ _ _ us hl => match us, hl with | [_, _, _], _ => rfl⟩
theorem ok__law_is_under : OkFR G r__law_is_under := ⟨by decide +kernel, fun K a fd F => F.bindsN fun _ _ _ _ _ _ us hl => match us, hl with | [_, _], _ => rfl⟩
theorem ok_law_4 : OkFR G r_law_4 := ⟨by decide +kernel, fun K a fd F => F.bindsN fun _ _ _ _ _ _ us hl => match us, hl with | [_], _ => rfl⟩
theorem ok_Box_init : OkFR G r_Box_init := ⟨by decide +kernel, fun K a fd F => F.bindsN fun _ _ _ _ _ _ us hl => match us, hl with | [_, _, _, _], _ => rfl⟩
theorem ok_Box_call : OkFR G r_Box_call := ⟨by decide +kernel, fun K a fd F => F.bindsN fun _ _ _ _ _ _ us hl => match us, hl with | [_, _], _ => rfl⟩
theorem ok_Box_eq : OkFR G r_Box_eq := ⟨by decide +kernel, fun K a fd F => F.bindsN fun _ _ _ _ _ _ us hl => match us, hl with | [_, _], _ => rfl⟩
theorem all_ok : AllOk G rows := ⟨ok_is_below, ok_contradicting_place, ok_agree, ok_joined, ok_first_clash, ok_has_lower, ok_least_rows, ok_moved_input, ok_moved, ok_renamed_value, ok_renamed, ok_without_place, ok_fixed, ok_merged, ok_common_part, ok_box_below, ok__law_whole, ok__law_same, ok__law_cell, ok__law_digits, ok__law_inputs, ok__law_below, ok__law_agree, ok__law_value, ok__law_rows, ok__law_order, ok__law_back, ok__law_has_1, ok__law_renamed_value, ok__law_is_under, ok_law_4, ok_Box_init, ok_Box_call, ok_Box_eq, trivial⟩
theorem un : (rows.map (·.id)).Nodup := by decide +kernel
def loose0 : List PySem.Str := ["is_below", "contradicting_place", "agree", "joined", "first_clash", "has_lower", "least_rows", "moved_input", "moved", "renamed_value", "renamed", "without_place", "fixed", "merged", "common_part", "box_below", "_law_whole", "_law_same", "_law_cell", "_law_digits", "_law_inputs", "_law_below", "_law_agree", "_law_value", "_law_rows", "_law_order", "_law_back", "_law_has", "_law_renamed_value", "_law_is_under"]
def loose1 : List PySem.Str := ["AnswersError", "Contradiction", "Clash", "Box"]
def loose : List PySem.Str := loose0 ++ loose1
/-! the head -/
abbrev R : PySem.W.OpenRow := PySem.W.OpenLaw.row PySem.Challenge.rw_eitheranswers_k06_boxes_turned
abbrev hk : PySem.W.Hook := hookX 4 (faOf rows) (rows.map FR.dd) cs (clsB rows)
def ob (s : PySem.W.SharedT) : hk.α := obsX 4 (faOf rows) (rows.map FR.dd) cs (clsB rows) (HandSHeadRun.getT s)
theorem ob_eq (s : PySem.W.SharedT) : ob s = hk.obs s.abs := obsX_eq (HandSHeadRun.getT_eq s)
set_option maxRecDepth 1000000 in
theorem run (w : World) : HandSHeadRun.RunEq R (PySem.W.view R.prog [39]) hk ob 2000 loose w := by
  intro os
  kernel_rfl
theorem law_true : ∀ ns : List Int, ns.length ≤ 63 → ev T 30 105 [.scr (ns.map .int)] = .ok (.bl true) := fun ns _ => law06 (T := T) (n := 20) (by repeat' first | rfl | (decide +kernel) | constructor) ns 105 rfl
end L06
open PySem PySem.W PySem.Calls PyProof.Rows
theorem PySem.Challenge.cw_eitheranswers_k06_boxes_turned_holds : PySem.Challenge.rw_eitheranswers_k06_boxes_turned.Holds := by
  w_on; o_law
  refine HandSHeadRun.head_any (r := OpenLaw.row PySem.Challenge.rw_eitheranswers_k06_boxes_turned) (q := view (OpenLaw.row PySem.Challenge.rw_eitheranswers_k06_boxes_turned).prog [39]) (H := L06.hk) (ob := L06.ob) (M := 2000) (loose := L06.loose) (d := HandSHeadRun.topDef (OpenLaw.row PySem.Challenge.rw_eitheranswers_k06_boxes_turned).prog 39) (kwd := []) L06.ob_eq
    (by kernel_rfl) (fun s => by kernel_rfl) L06.run (by kernel_rfl) (by kernel_rfl) (by kernel_rfl) (by rfl) (by first | assumption | decide +kernel) (by decide +kernel) ⟨rfl, rfl, rfl, rfl, rfl, by decide +kernel⟩ ?hw ?hc
  case hw => w_witness2
  case hc =>
    refine L2.walk_ofE (l := PySem.Challenge.rw_eitheranswers_k06_boxes_turned) (n := 63) (k := 120) (x := "script") (CX := Ev.CXa (PySem.Challenge.rw_eitheranswers_k06_boxes_turned).prog) rfl (by decide) (by kernel_rfl) ⟨rfl, by decide, by decide⟩ ?F Ev.cxa_no
    case F =>
      intro w mg fa h Y G hmg0
      obtain ⟨K, KX, c, cc⟩ := Y
      have hmg : mg ("law" : PySem.Str) = some (.ref fa) := by
        have e : (HandSHeadRun.topDef (OpenLaw.row PySem.Challenge.rw_eitheranswers_k06_boxes_turned).prog 39).name = ("law" : PySem.Str) := by kernel_rfl
        rw [← e]
        exact hmg0
      obtain ⟨fd, hb, hs, hF⟩ := Ev.law_facts (P := (PySem.Challenge.rw_eitheranswers_k06_boxes_turned).prog) (w := w) (n := 30) (f := 105) (wf := 100) KX G c cc L06.all_ok L06.un (r := L06.r_law_4) (x := "script") (by rfl) rfl rfl hmg
        (fun K a fd F s v => L2.FunD.bindsA (ps := ["script"]) F (fun _ _ _ _ _ _ us hl => match us, hl with | [_], _ => rfl) s [v] rfl) L06.law_true
      exact ⟨K, fd, _, KX, hb, hs, hF⟩
