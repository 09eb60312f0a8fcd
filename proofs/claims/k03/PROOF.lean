import PyProof.Rows.All
import PySem.Str
import PySem.Syntax
import Wide.All
import OpenK.AllK
import Wide.FinOn
import HandS.Base
import HandS.Call
import HandS.List
import HandS.Comp
import HandS.Ends
import HandS.Dict
import HandS.Iter
import HandS.Exc
import HandS.Lambda
import HandS.TryMany
import HandS.ExcField
import HandS.Walk
import HandS.Zip
import HandS.Deep
import HandS.Wide
import HandS.Style
import HandS.TupAny
import HandS.Words
import HandS.WordsExc
import HandS.IsInst
import HandS.Text
import HandS.TupLe
import PyProof.P3In
import HandS.ExcOwn
import KE.KExcSuper
import HandS.HeadHook1
import HandS.HeadHook2
import HandS.HeadHook3
import HandS.HeadHook4
import HandS.HeadWalk
import HandS.HeadEnd
import PySem.Builtin.Int.Common
import HandS.Head1
import HandS.Head2
import PySem.Challenge.RW_rowalone_k03_whole_simplest_fractions
set_option Elab.async false
set_option linter.all false
set_option maxRecDepth 100000
/-! PMsem: a small evaluator. Values are trees; lists, dicts and instances stand in a heap of our own (a list of objects); a call is evaluated with a depth. -/
namespace PM
open PySem


inductive Val where
  | non | bl (b : Bool) | int (i : Int) | str (s : Str) | tup (vs : List Val) | ref (n : Nat) | scr (vs : List Val)
  deriving Inhabited

/-- an error: its class, its field's name and value -/
structure Exn where
  c : Nat
  f : Str
  v : Val

inductive Ob where
  | lst (vs : List Val) | dct (kvs : List (Val × Val)) | ins (c : Nat) (fs : List (Str × Val))
  deriving Inhabited

abbrev Heap := List Ob
/-- a slot: nothing, a value, a caught error, an action -/
inductive Sl where
  | no | v (v : Val) | x (x : Exn) | f
abbrev Env := List Sl

mutual
/-- no reference within -/
def Val.flat : Val → Bool
  | .non | .bl _ | .int _ | .str _ => true
  | .tup vs => flats vs
  | .ref _ | .scr _ => false
def flats : List Val → Bool
  | [] => true
  | v :: vs => v.flat && flats vs
end

def Ob.flat : Ob → Bool
  | .lst vs => flats vs
  | .dct kvs => kvs.all fun p => p.1.flat && p.2.flat
  | .ins _ fs => fs.all fun p => p.2.flat

inductive Out (α : Type) where
  | ok (a : α) (h : Heap) | exc (x : Exn) (h : Heap) | bad

namespace Out
variable {α β : Type}
def bind (x : Out α) (f : α → Heap → Out β) : Out β := match x with
  | .ok a h => f a h
  | .exc x h => .exc x h
  | .bad => .bad
@[simp] theorem bind_ok (a : α) (h : Heap) (f : α → Heap → Out β) : (Out.ok a h).bind f = f a h := rfl
@[simp] theorem bind_exc (x : Exn) (h : Heap) (f : α → Heap → Out β) : (Out.exc x h : Out α).bind f = .exc x h := rfl
@[simp] theorem bind_bad (f : α → Heap → Out β) : (Out.bad : Out α).bind f = .bad := rfl
end Out

/-- no error leaves -/
def noX {α : Type} : Out α → Out α
  | .ok a h => .ok a h
  | _ => .bad
@[simp] theorem noX_ok {α : Type} (a : α) (h : Heap) : noX (.ok a h) = .ok a h := rfl
@[simp] theorem noX_bad {α : Type} : noX (.bad : Out α) = .bad := rfl
@[simp] theorem noX_exc {α : Type} (x : Exn) (h : Heap) : noX (.exc x h : Out α) = .bad := rfl
/-- a value without change of the heap, or nothing -/
def ofO {α : Type} (o : Option α) (h : Heap) : Out α := match o with
  | some a => .ok a h
  | none => .bad
@[simp] theorem ofO_some {α : Type} (a : α) (h : Heap) : ofO (some a) h = .ok a h := rfl
@[simp] theorem ofO_none {α : Type} (h : Heap) : ofO (none : Option α) h = .bad := rfl

/-- the old part is as it was, but for objects that hold no reference -/
def Kept (h k : Heap) : Prop := k.length = h.length ∧ ∀ i : Nat, k[i]? = h[i]? ∨ ∃ o, k[i]? = some o ∧ o.flat = true

open Classical in
/-- what was made on the way and cannot be reached any more is dropped -/
noncomputable def trim (h : Heap) : Out Val → Out Val
  | .ok v k =>
    if v.flat = true ∧ Kept h (k.take h.length) then .ok v (k.take h.length)
    else match v with
      | .ref r => if h.length ≤ r ∧ (∃ o, k[r]? = some o ∧ o.flat = true) ∧ Kept h (k.take h.length) then .ok (.ref h.length) (k.take h.length ++ (k[r]?).toList) else .ok v k
      | v => .ok v k
  | .exc x k => if x.v.flat = true ∧ Kept h (k.take h.length) then .exc x (k.take h.length) else .exc x k
  | .bad => .bad

/-! ### syntax -/
inductive BOp where | add | sub | mul | fdiv | mod | pow
  deriving DecidableEq
inductive COp where | eq | ne | lt | le | gt | ge | is_ | isnot | in_ | notin
  deriving DecidableEq
inductive Ty where | int | bool | str | tuple | list | dict | cls (c : Nat)
  deriving DecidableEq
inductive B1 where | len | abs | int | bool | tuple | list | sorted | all | any | sum | min | max | set | repr | str
  deriving DecidableEq
inductive B2 where | min | max
  deriving DecidableEq
inductive Mt where | append | pop | popAt | extend | index | insert | reverse | items | get | join | values
  deriving DecidableEq

mutual
inductive Ex where
  | var (i : Nat)
  | cst (v : Val)
  | glob (x : Str) (v : Val)
  | bin (o : BOp) (a b : Ex)
  | neg (a : Ex)
  | cmp (o : COp) (a b : Ex)
  | chain (o p : COp) (a b c : Ex)
  | and (a b : Ex)
  | or (a b : Ex)
  | not (a : Ex)
  | ite (c a b : Ex)
  | tup (es : List Ex)
  | lst (es : List Ex)
  | call (f : Nat) (perm : List Nat) (es : List Ex)
  | mk (c f : Nat) (perm : List Nat) (es : List Ex)
  | lam (f : Nat) (body : Ex)
  | act
  | b1 (o : B1) (a : Ex)
  | b2 (o : B2) (a b : Ex)
  | isa (a : Ex) (t : Ty)
  | idx (a i : Ex)
  | slice (a lo hi : Ex)
  | rev (a : Ex)
  | meth (m : Mt) (o : Ex) (es : List Ex)
  | fld (a : Ex) (f : Str)
  | xfld (i : Nat) (f : Str)
  | comp (own : List Nat) (t : Tg) (it : It) (cond elt : Ex)
  | dict (ks vs : List Ex)
inductive Tg where
  | name (i : Nat) | tup (ts : List Tg) | sub (o i : Ex) | fld (o : Ex) (f : Str)
inductive It where
  | ex (e : Ex) | range1 (b : Ex) | range2 (a b : Ex) | enum (e : Ex) | zip (a b : Ex)
end

/-- a part of a slice that is left out -/
def Ex.absent : Ex → Bool
  | .cst .non => true
  | _ => false

mutual
inductive St where
  | asg (t : Tg) (e : Ex)
  | aug (i : Nat) (o : BOp) (e : Ex)
  | ex (e : Ex)
  | ret (e : Ex)
  | retn
  | ite (c : Ex) (a b : List St)
  | for_ (t : Tg) (it : It) (b : List St)
  | while_ (c : Ex) (b : List St)
  | pass | brk | cont
  | raise (c : Nat) (f : Str) (e : Ex)
  | try_ (b : List St) (hs : List Hd)
inductive Hd where
  | mk (cs : List Nat) (slot : Option Nat) (b : List St)
end

structure Fn where
  np : Nat
  ns : Nat
  body : List St

/-! ### values: operators -/
def binI (o : BOp) (i j : Int) : Option Val := match o with
  | .add => some (.int (i + j))
  | .sub => some (.int (i - j))
  | .mul => if i.natAbs.log2 + j.natAbs.log2 < 1000000 then some (.int (i * j)) else none
  | .fdiv => if j ≠ 0 ∧ j.natAbs.log2 < 9000 then some (.int (i.fdiv j)) else none
  | .mod => if j ≠ 0 then some (.int (i.fmod j)) else none
  | .pow => if 0 ≤ j ∧ j ≤ 1000000 ∧ i.natAbs < 2 ^ 64 then some (.int (i ^ j.toNat)) else none

/-- the items of a list or a tuple -/
def items? (h : Heap) : Val → Option (List Val)
  | .tup vs => some vs
  | .scr vs => some vs
  | .ref n => match h[n]? with
    | some (.lst vs) => some vs
    | _ => none
  | _ => none
def lst? (h : Heap) : Val → Option (List Val)
  | .ref n => match h[n]? with
    | some (.lst vs) => some vs
    | _ => none
  | _ => none

def bin (o : BOp) (x y : Val) (h : Heap) : Out Val := match o, x, y with
  | o, .int i, .int j => ofO (binI o i j) h
  | .add, .str s, .str t => if s.length + t.length ≤ 16777216 then .ok (.str (s ++ t)) h else .bad
  | .add, .tup vs, .tup ws => if vs.length + ws.length ≤ 16777216 then .ok (.tup (vs ++ ws)) h else .bad
  | .add, .ref a, .ref b => match lst? h (.ref a), lst? h (.ref b) with
    | some vs, some ws => if vs.length + ws.length ≤ 16777216 then .ok (.ref h.length) (h ++ [.lst (vs ++ ws)]) else .bad
    | _, _ => .bad
  | .mul, .ref a, .int k => match lst? h (.ref a) with
    | some vs => if -(2 ^ 63) ≤ k ∧ k < 2 ^ 63 ∧ vs.length * k.toNat ≤ 16777216 then .ok (.ref h.length) (h ++ [.lst (List.replicate k.toNat vs).flatten]) else .bad
    | _ => .bad
  | _, _, _ => .bad

/-- op=, ints -/
def augV (o : BOp) (x y : Val) : Option Val := match o, x, y with
  | .add, .int i, .int j => some (.int (i + j))
  | .sub, .int i, .int j => some (.int (i - j))
  | _, _, _ => none

def b2i (b : Bool) : Int := if b then 1 else 0

mutual
/-- == of values without references -/
def veq : Val → Val → Bool
  | .non, .non => true
  | .bl a, .bl b => a == b
  | .bl a, .int j => b2i a == j
  | .int i, .bl b => i == b2i b
  | .int i, .int j => i == j
  | .str x, .str y => x == y
  | .tup vs, .tup ws => veqs vs ws
  | _, _ => false
def veqs : List Val → List Val → Bool
  | [], [] => true
  | v :: vs, w :: ws => veq v w && veqs vs ws
  | _, _ => false
end

mutual
/-- what may be compared: no reference, not too deep, real texts -/
def Val.eqb : Nat → Val → Bool
  | _, .non => true
  | _, .bl _ => true
  | _, .int _ => true
  | _, .str s => s.cps.all (· < 0x110000)
  | 0, .tup _ => false
  | n + 1, .tup vs => eqbs n vs
  | _, .ref _ => false
  | _, .scr _ => false
def eqbs : Nat → List Val → Bool
  | _, [] => true
  | n, v :: vs => v.eqb n && eqbs n vs
end

/-- ==, lists by their items -/
def heq (h : Heap) (x y : Val) : Option Bool :=
  if x.eqb 60 = true ∧ y.eqb 60 = true then some (veq x y)
  else match lst? h x, lst? h y with
    | some vs, some ws => if eqbs 60 vs = true ∧ eqbs 60 ws = true then some (veqs vs ws) else none
    | some vs, none => if eqbs 60 vs = true ∧ y.eqb 60 = true then some false else none
    | none, some ws => if eqbs 60 ws = true ∧ x.eqb 60 = true then some false else none
    | none, none => none

mutual
/-- < of values without references: ints, texts, tuples of such -/
def vlt : Val → Val → Option Bool
  | .int i, .int j => some (decide (i < j))
  | .str x, .str y => some (decide (x.cps.toList < y.cps.toList))
  | .tup vs, .tup ws => vlts vs ws
  | _, _ => none
def vlts : List Val → List Val → Option Bool
  | [], [] => some false
  | [], _ :: _ => some true
  | _ :: _, [] => some false
  | v :: vs, w :: ws => if veq v w then vlts vs ws else vlt v w
end

def inList (h : Heap) (x : Val) (vs : List Val) : Option Bool :=
  if x.eqb 60 = true ∧ eqbs 60 vs = true then some (vs.any fun v => veq v x) else none

/-- one sign in a text -/
def inSign (x y : Str) : Option Bool := match x.cps.toList with
  | [c] => some (decide (c ∈ y.cps.toList))
  | _ => none

def cmpB (o : COp) (x y : Val) (h : Heap) : Option Bool := match o, x, y with
  | .eq, x, y => heq h x y
  | .ne, x, y => (heq h x y).map (!·)
  | .lt, .int i, .int j => some (decide (i < j))
  | .le, .int i, .int j => some (decide (i ≤ j))
  | .gt, .int i, .int j => some (decide (j < i))
  | .ge, .int i, .int j => some (decide (j ≤ i))
  | .is_, x, .non => some (match x with | .non => true | _ => false)
  | .isnot, x, .non => some (match x with | .non => false | _ => true)
  | .is_, .bl a, .bl b => some (a == b)
  | .isnot, .bl a, .bl b => some (a != b)
  | .in_, x, .tup vs => inList h x vs
  | .notin, x, .tup vs => (inList h x vs).map (!·)
  | .in_, x, .ref a => (lst? h (.ref a)).bind (inList h x)
  | .notin, x, .ref a => ((lst? h (.ref a)).bind (inList h x)).map (!·)
  | .lt, .str x, .str y => some (decide (x.cps.toList < y.cps.toList))
  | .in_, .str x, .str y => inSign x y
  | .notin, .str x, .str y => (inSign x y).map (!·)
  | _, _, _ => none

def blOf : Val → Option Bool
  | .bl b => some b
  | _ => none
def intOf : Val → Option Int
  | .int i => some i
  | _ => none

def isaB (h : Heap) : Val → Ty → Option Bool
  | .non, _ => some false
  | .bl _, .int => some true
  | .bl _, .bool => some true
  | .bl _, _ => some false
  | .int _, .int => some true
  | .int _, _ => some false
  | .str _, .str => some true
  | .str _, _ => some false
  | .tup _, .tuple => some true
  | .tup _, _ => some false
  | .scr _, _ => none
  | .ref a, t => match h[a]?, t with
    | some (.lst _), .list => some true
    | some (.lst _), _ => some false
    | some (.dct _), .dict => some true
    | some (.dct _), _ => some false
    | _, _ => none

def bl1 (o : B1) (x : Val) (h : Heap) : Out Val := match o, x with
  | .len, .str s => if s.length ≤ 16777216 then .ok (.int s.length) h else .bad
  | .len, x => match items? h x with
    | some vs => .ok (.int vs.length) h
    | none => .bad
  | .abs, .int i => .ok (.int (if i < 0 then -i else i)) h
  | .int, .int i => .ok (.int i) h
  | .int, .bl b => .ok (.int (b2i b)) h
  | .bool, .bl b => .ok (.bl b) h
  | .tuple, .tup vs => .ok (.tup vs) h
  | .tuple, x => match lst? h x with
    | some vs => .ok (.tup vs) h
    | none => .bad
  | .list, x => match items? h x with
    | some vs => .ok (.ref h.length) (h ++ [.lst vs])
    | none => .bad
  | .all, x => match (lst? h x).bind fun vs => vs.mapM blOf with
    | some bs => .ok (.bl (bs.all id)) h
    | none => .bad
  | .any, x => match (lst? h x).bind fun vs => vs.mapM blOf with
    | some bs => .ok (.bl (bs.any id)) h
    | none => .bad
  | .sum, x => match (lst? h x).bind fun vs => vs.mapM intOf with
    | some is => .ok (.int is.sum) h
    | none => .bad
  | _, _ => .bad

def bl2 (o : B2) (x y : Val) (h : Heap) : Out Val := match o, x, y with
  | .min, .int i, .int j => .ok (.int (if j < i then j else i)) h
  | .max, .int i, .int j => .ok (.int (if j > i then j else i)) h
  | _, _, _ => .bad

/-- the place of an index -/
def place (n : Nat) (i : Int) : Option Nat :=
  if 0 ≤ i then (if i < (n : Int) then some i.toNat else none)
  else if -(n : Int) ≤ i then some (i + n).toNat else none

def idxV (x i : Val) (h : Heap) : Out Val := match x, i with
  | .str s, .int i => match (if s.length ≤ 16777216 then place s.length i else none).bind fun k => s.cps.toList[k]? with
    | some c => .ok (.str ⟨#[c]⟩) h
    | none => .bad
  | x, .int i => match (items? h x).bind fun vs => (place vs.length i).bind fun k => vs[k]? with
    | some v => .ok v h
    | none => .bad
  | _, _ => .bad

/-- the bounds of a slice -/
def clip (n d : Nat) : Option Int → Nat
  | none => d
  | some v => if v < 0 then (v + (n : Int)).toNat else min v.toNat n
def part? : Val → Option (Option Int)
  | .non => some none
  | .int i => some (some i)
  | _ => none
def cutL {α : Type} (xs : List α) (lo hi : Option Int) : List α := (xs.drop (clip xs.length 0 lo)).take (clip xs.length xs.length hi - clip xs.length 0 lo)
def sliceV (x lo hi : Val) (h : Heap) : Out Val := match part? lo, part? hi with
  | some l, some u => match x with
    | .str s => if s.length ≤ 16777216 then .ok (.str ⟨(cutL s.cps.toList l u).toArray⟩) h else .bad
    | .tup vs => .ok (.tup (cutL vs l u)) h
    | x => match lst? h x with
      | some vs => .ok (.ref h.length) (h ++ [.lst (cutL vs l u)])
      | none => .bad
  | _, _ => .bad

def appV (o v : Val) (h : Heap) : Out Val := match o with
  | .ref a => match h[a]? with
    | some (.lst vs) => if vs.length < 16777216 then .ok .non (h.set a (.lst (vs ++ [v]))) else .bad
    | _ => .bad
  | _ => .bad
def methV (m : Mt) (o : Val) (xs : List Val) (h : Heap) : Out Val := match m, xs with
  | .append, [v] => appV o v h
  | _, _ => .bad

/-- the receiver is of the method's type -/
def recv (m : Mt) (x : Val) (h : Heap) : Bool := match m with
  | .append => (lst? h x).isSome
  | _ => false

def setIx (o i v : Val) (h : Heap) : Out Unit := match o, i with
  | .ref a, .int i => match h[a]? with
    | some (.lst vs) => match place vs.length i with
      | some k => .ok () (h.set a (.lst (vs.set k v)))
      | none => .bad
    | _ => .bad
  | _, _ => .bad

/-- two tuples, two lists -/
def alike (h : Heap) (v w : Val) : Bool := match v, w with
  | .tup _, .tup _ => true
  | v, w => (lst? h v).isSome && (lst? h w).isSome

/-- what a for walks: the items, the lists that must stay as they are -/
abbrev Src := List Val × List (Nat × List Val)
def holds (h : Heap) (gs : List (Nat × List Val)) : Prop := ∀ g ∈ gs, h[g.1]? = some (.lst g.2)
def src1 (k : Heap) (v : Val) : Option Src := match v with
  | .tup vs => some (vs, [])
  | .scr vs => some (vs, [])
  | .ref a => match lst? k (.ref a) with
    | some vs => some (vs, [(a, vs)])
    | none => none
  | _ => none
open Classical in
/-- a source made on the way, that nothing else reaches, is dropped -/
noncomputable def dropSrc (h : Heap) (s : Src) (k : Heap) : Out Src :=
  if Kept h (k.take h.length) ∧ flats s.1 = true then .ok (s.1, s.2.filter fun g => g.1 < h.length) (k.take h.length)
  else .ok s k
def pairUp : List Val → List Val → List Val
  | v :: vs, w :: ws => .tup [v, w] :: pairUp vs ws
  | _, _ => []
def number (i : Int) : List Val → List Val
  | [] => []
  | v :: vs => .tup [.int i, v] :: number (i + 1) vs
def rangeV (i : Int) (n : Nat) : List Val := (List.range n).map fun k : Nat => .int (i + k)

/-! ### statements' ends -/
inductive SOut where
  | nx (ρ : Env) (h : Heap) | rt (v : Val) (h : Heap) | bk (ρ : Env) (h : Heap) | ct (ρ : Env) (h : Heap) | exc (x : Exn) (ρ : Env) (h : Heap) | bad

def wipe (ρ : Env) : List Nat → Env
  | [] => ρ
  | i :: r => (wipe ρ r).set i .no

open Classical in
noncomputable def forL (tgt : Val → Env → Heap → Out Env) (body : Env → Heap → SOut) (gs : List (Nat × List Val)) : List Val → Env → Heap → SOut
  | [], ρ, h => if holds h gs then .nx ρ h else .bad
  | v :: vs, ρ, h => if holds h gs then
      match tgt v ρ h with
      | .ok ρ1 h1 => match body ρ1 h1 with
        | .nx ρ2 h2 | .ct ρ2 h2 => forL tgt body gs vs ρ2 h2
        | .bk ρ2 h2 => .nx ρ2 h2
        | r => r
      | .exc x k => .exc x ρ k
      | .bad => .bad
    else .bad

def whN (c : Env → Heap → Out Bool) (body : Env → Heap → SOut) : Nat → Env → Heap → Option SOut
  | 0, _, _ => none
  | n + 1, ρ, h => match c ρ h with
    | .ok true h1 => match body ρ h1 with
      | .nx ρ2 h2 | .ct ρ2 h2 => whN c body n ρ2 h2
      | .bk ρ2 h2 => some (.nx ρ2 h2)
      | r => some r
    | .ok false h1 => some (.nx ρ h1)
    | .exc x k => some (.exc x ρ k)
    | .bad => some .bad
open Classical in
noncomputable def whL (c : Env → Heap → Out Bool) (body : Env → Heap → SOut) (ρ : Env) (h : Heap) : SOut :=
  if z : ∃ r n, whN c body n ρ h = some r then choose z else .bad

/-- the items of a comprehension -/
noncomputable def compL (step : Val → Heap → Out (Option Val)) (gs : List (Nat × List Val)) : List Val → Heap → Out (List Val)
  | [], h => open Classical in if holds h gs then .ok [] h else .bad
  | v :: vs, h => open Classical in if holds h gs then (match step v h with
    | .ok o h1 => (compL step gs vs h1).bind fun r h2 => .ok (match o with | some w => w :: r | none => r) h2
    | _ => .bad) else .bad

def permute (perm : List Nat) (vs : List Val) : Option (List Val) := perm.mapM fun i => vs[i]?

def toB (x : Out Val) : Out Bool := match x with
  | .ok (.bl b) h => .ok b h
  | .ok _ _ => .bad
  | .exc x h => .exc x h
  | .bad => .bad
@[simp] theorem toB_ok (b : Bool) (h : Heap) : toB (.ok (.bl b) h) = .ok b h := rfl
@[simp] theorem toB_exc (x : Exn) (h : Heap) : toB (.exc x h) = .exc x h := rfl
@[simp] theorem toB_bad : toB .bad = .bad := rfl

def partW (b : Bool) (h : Heap) (o : Out Val) : Out Val := if b then .ok .non h else o.bind fun v k => match v with
  | .int i => .ok (.int i) k
  | _ => .bad

/-- the caught error's name -/
def slotX (sl : Option Nat) (x : Exn) (ρ : Env) : Env := match sl with
  | none => ρ
  | some i => ρ.set i (.x x)
def Sl.noErr : Sl → Sl
  | .x _ => .no
  | s => s
def clean (sl : Option Nat) (ρ : Env) : Env := (match sl with
  | none => ρ
  | some i => ρ.set i .no).map Sl.noErr
/-- behind an except suite -/
def unAs (sl : Option Nat) : SOut → SOut
  | .nx ρ h => .nx (clean sl ρ) h
  | .bk ρ h => .bk (clean sl ρ) h
  | .ct ρ h => .ct (clean sl ρ) h
  | .rt v h => .rt v h
  | _ => .bad

section
variable (cl : Nat → List Val → Heap → Out Val) (clL : Nat → (Heap → Out Val) → Heap → Out Val) (act : Heap → Out Val)
mutual
noncomputable def evE : Ex → Env → Heap → Out Val
  | .var i, ρ, h => match ρ[i]? with
    | some (.v v) => .ok v h
    | _ => .bad
  | .cst v, _, h => .ok v h
  | .glob _ v, _, h => .ok v h
  | .bin o a b, ρ, h => (evE a ρ h).bind fun x h1 => (evE b ρ h1).bind fun y h2 => bin o x y h2
  | .neg a, ρ, h => (evE a ρ h).bind fun x h1 => match x with
    | .int i => .ok (.int (-i)) h1
    | _ => .bad
  | .cmp o a b, ρ, h => trim h ((evE a ρ h).bind fun x h1 => (evE b ρ h1).bind fun y h2 => ofO ((cmpB o x y h2).map Val.bl) h2)
  | .chain o p a b c, ρ, h => trim h ((evE a ρ h).bind fun x h1 => (evE b ρ h1).bind fun y h2 => match cmpB o x y h2 with
    | some true => (evE c ρ h2).bind fun z h3 => ofO ((cmpB p y z h3).map Val.bl) h3
    | some false => .ok (.bl false) h2
    | none => .bad)
  | .and a b, ρ, h => (toB (evE a ρ h)).bind fun t h1 => if t then evE b ρ h1 else .ok (.bl false) h1
  | .or a b, ρ, h => (toB (evE a ρ h)).bind fun t h1 => if t then .ok (.bl true) h1 else evE b ρ h1
  | .not a, ρ, h => (toB (evE a ρ h)).bind fun t h1 => .ok (.bl !t) h1
  | .ite c a b, ρ, h => (toB (evE c ρ h)).bind fun t h1 => if t then evE a ρ h1 else evE b ρ h1
  | .tup es, ρ, h => (evEs es ρ h).bind fun vs h1 => .ok (.tup vs) h1
  | .lst es, ρ, h => (evEs es ρ h).bind fun vs h1 => .ok (.ref h1.length) (h1 ++ [.lst vs])
  | .call f perm es, ρ, h => trim h ((evEs es ρ h).bind fun vs h1 => match permute perm vs with
    | some ws => cl f ws h1
    | none => .bad)
  | .mk c f perm es, ρ, h => trim h ((evEs es ρ h).bind fun vs h1 => match permute perm vs with
    | some ws => (cl f (.ref h1.length :: ws) (h1 ++ [.ins c []])).bind fun v h2 => match v with
      | .non => .ok (.ref h1.length) h2
      | _ => .bad
    | none => .bad)
  | .lam f body, ρ, h => trim h (clL f (fun k => evE body ρ k) h)
  | .act, ρ, h => match ρ[0]? with
    | some Sl.f => act h
    | _ => .bad
  | .b1 o a, ρ, h => trim h ((evE a ρ h).bind fun x h1 => bl1 o x h1)
  | .b2 o a b, ρ, h => trim h ((evE a ρ h).bind fun x h1 => (evE b ρ h1).bind fun y h2 => bl2 o x y h2)
  | .isa a t, ρ, h => trim h ((evE a ρ h).bind fun x h1 => ofO ((isaB h1 x t).map Val.bl) h1)
  | .idx a i, ρ, h => trim h ((evE a ρ h).bind fun x h1 => (evE i ρ h1).bind fun y h2 => idxV x y h2)
  | .slice a lo hi, ρ, h => trim h ((evE a ρ h).bind fun x h1 => (partW lo.absent h1 (evE lo ρ h1)).bind fun y h2 => (partW hi.absent h2 (evE hi ρ h2)).bind fun z h3 => sliceV x y z h3)
  | .rev a, ρ, h => trim h ((evE a ρ h).bind fun x h1 => match lst? h1 x with
    | some vs => .ok (.ref h1.length) (h1 ++ [.lst vs.reverse])
    | none => .bad)
  | .meth m o es, ρ, h => trim h ((evE o ρ h).bind fun x h1 => if recv m x h1 then (evEs es ρ h1).bind fun vs h2 => methV m x vs h2 else .bad)
  | .fld a f, ρ, h => (evE a ρ h).bind fun x h1 => match x with
    | .ref n => match h1[n]? with
      | some (.ins _ fs) => ofO (fs.lookup f) h1
      | _ => .bad
    | _ => .bad
  | .xfld i f, ρ, h => match ρ[i]? with
    | some (.x x) => if x.f = f then .ok x.v h else .bad
    | _ => .bad
  | .comp own t it cond elt, ρ, h => (evI it ρ h).bind fun s h1 => (compL (fun v k => (evT t v (wipe ρ own) k).bind fun ρ1 k1 => (toB (evE cond ρ1 k1)).bind fun b k2 =>
      if b then (trim k2 (evE elt ρ1 k2)).bind fun w k3 => .ok (some w) k3 else .ok none k2) s.2 s.1 h1).bind fun vs h2 => if vs.length ≤ 16777216 then .ok (.ref h2.length) (h2 ++ [.lst vs]) else .bad
  | .dict ks vs, ρ, h => match ks, vs with
    | [], [] => .ok (.ref h.length) (h ++ [.dct []])
    | _, _ => .bad
noncomputable def evEs : List Ex → Env → Heap → Out (List Val)
  | [], _, h => .ok [] h
  | e :: es, ρ, h => (evE e ρ h).bind fun v h1 => (evEs es ρ h1).bind fun vs h2 => .ok (v :: vs) h2
noncomputable def evT : Tg → Val → Env → Heap → Out Env
  | .name i, v, ρ, h => if i < ρ.length then .ok (ρ.set i (.v v)) h else .bad
  | .tup ts, v, ρ, h => match v with
    | .tup vs => evTs ts vs ρ h
    | _ => .bad
  | .sub o i, v, ρ, h => (noX (evE o ρ h)).bind fun x h1 => (noX (evE i ρ h1)).bind fun y h2 => (setIx x y v h2).bind fun _ h3 => .ok ρ h3
  | .fld o f, v, ρ, h => (noX (evE o ρ h)).bind fun x h1 => match x with
    | .ref n => match h1[n]? with
      | some (.ins c fs) => if fs.length < 100 ∧ fs.lookup f = none then .ok ρ (h1.set n (.ins c (fs ++ [(f, v)]))) else .bad
      | _ => .bad
    | _ => .bad
noncomputable def evTs : List Tg → List Val → Env → Heap → Out Env
  | [], [], ρ, h => .ok ρ h
  | t :: ts, v :: vs, ρ, h => (evT t v ρ h).bind fun ρ1 h1 => evTs ts vs ρ1 h1
  | _, _, _, _ => .bad
noncomputable def evI : It → Env → Heap → Out Src
  | .ex e, ρ, h => (evE e ρ h).bind fun v k => (ofO (src1 k v) k).bind fun s k => dropSrc h s k
  | .range1 b, ρ, h => (trim h (evE b ρ h)).bind fun v k => match v with
    | .int j => if -(2 ^ 62) ≤ j ∧ j < 2 ^ 62 then .ok (rangeV 0 j.toNat, []) k else .bad
    | _ => .bad
  | .range2 a b, ρ, h => (trim h (evE a ρ h)).bind fun v k => (trim k (evE b ρ k)).bind fun w k => match v, w with
    | .int i, .int j => if -(2 ^ 62) ≤ i ∧ i < 2 ^ 62 ∧ -(2 ^ 62) ≤ j ∧ j < 2 ^ 62 then .ok (rangeV i (j - i).toNat, []) k else .bad
    | _, _ => .bad
  | .enum e, ρ, h => (evE e ρ h).bind fun v k => match lst? k v with
    | some _ => (PM.ofO (src1 k v) k).bind fun s k => (dropSrc h s k).bind fun q k => .ok (number 0 s.1, q.2) k
    | none => .bad
  | .zip a b, ρ, h => (evE a ρ h).bind fun v k => (evE b ρ k).bind fun w k => if alike k v w then (PM.ofO (src1 k v) k).bind fun s k => (PM.ofO (src1 k w) k).bind fun r k =>
      (dropSrc h (s.1 ++ r.1, s.2 ++ r.2) k).bind fun q k => .ok (pairUp s.1 r.1, q.2) k else .bad
end

def keep (ρ : Env) : Out Env → SOut
  | .ok ρ1 h => .nx ρ1 h
  | .exc x h => .exc x ρ h
  | .bad => .bad
/-- an expression's value, then a statement's end -/
def thenS (ρ : Env) (x : Out Val) (f : Val → Heap → SOut) : SOut := match x with
  | .ok v h => f v h
  | .exc x h => .exc x ρ h
  | .bad => .bad
@[simp] theorem thenS_ok (ρ : Env) (v : Val) (h : Heap) (f : Val → Heap → SOut) : thenS ρ (.ok v h) f = f v h := rfl
@[simp] theorem thenS_exc (ρ : Env) (x : Exn) (h : Heap) (f : Val → Heap → SOut) : thenS ρ (.exc x h) f = .exc x ρ h := rfl
@[simp] theorem thenS_bad (ρ : Env) (f : Val → Heap → SOut) : thenS ρ .bad f = .bad := rfl

mutual
noncomputable def evS : St → Env → Heap → SOut
  | .asg t e, ρ, h => thenS ρ (trim h (evE cl clL act e ρ h)) fun v h1 => keep ρ (evT cl clL act t v ρ h1)
  | .aug i o e, ρ, h => match ρ[i]? with
    | some (.v x) => thenS ρ (trim h (evE cl clL act e ρ h)) fun y h1 => match augV o x y with
      | some v => .nx (ρ.set i (.v v)) h1
      | none => .bad
    | _ => .bad
  | .ex e, ρ, h => thenS ρ (trim h (evE cl clL act e ρ h)) fun _ h1 => .nx ρ h1
  | .ret e, ρ, h => thenS ρ (trim h (evE cl clL act e ρ h)) fun v h1 => .rt v h1
  | .retn, _, h => .rt .non h
  | .ite c a b, ρ, h => thenS ρ (trim h (evE cl clL act c ρ h)) fun v h1 => match v with
    | .bl t => if t then evSs a ρ h1 else evSs b ρ h1
    | _ => .bad
  | .for_ t it b, ρ, h => match evI cl clL act it ρ h with
    | .ok s h1 => forL (evT cl clL act t) (evSs b) s.2 s.1 ρ h1
    | .exc x k => .exc x ρ k
    | .bad => .bad
  | .while_ c b, ρ, h => whL (fun ρ h => toB (trim h (evE cl clL act c ρ h))) (evSs b) ρ h
  | .pass, ρ, h => .nx ρ h
  | .brk, ρ, h => .bk ρ h
  | .cont, ρ, h => .ct ρ h
  | .raise c f e, ρ, h => thenS ρ (trim h (evE cl clL act e ρ h)) fun v h1 => .exc ⟨c, f, v⟩ ρ h1
  | .try_ b hs, ρ, h => match evSs b ρ h with
    | .exc x ρ1 h1 => evH hs x ρ1 h1
    | r => r
noncomputable def evSs : List St → Env → Heap → SOut
  | [], ρ, h => .nx ρ h
  | s :: ss, ρ, h => match evS s ρ h with
    | .nx ρ1 h1 => evSs ss ρ1 h1
    | r => r
noncomputable def evH : List Hd → Exn → Env → Heap → SOut
  | [], x, ρ, h => .exc x ρ h
  | .mk cs sl b :: hs, x, ρ, h => if x.c ∈ cs then unAs sl (evSs b (slotX sl x ρ) h) else evH hs x ρ h
end
end

/-- a def's end -/
noncomputable def fin (h : Heap) : SOut → Out Val
  | .nx _ k => trim h (.ok .non k)
  | .rt v k => trim h (.ok v k)
  | .exc x _ k => trim h (.exc x k)
  | _ => .bad

def start (ns : Nat) (vs : List Val) : Env := vs.map Sl.v ++ List.replicate (ns - vs.length) .no

/-- a def that calls what it got (its first parameter), with that action -/
noncomputable def runL (P : List Fn) (f : Nat) (a : Heap → Out Val) (h : Heap) : Out Val := match P[f]? with
  | some fn => match fin h (evSs (fun _ _ _ => .bad) (fun _ _ _ => .bad) a fn.body (Sl.f :: List.replicate (fn.ns - 1) .no) h) with
    | .exc _ _ => .bad
    | r => r
  | none => .bad

noncomputable def call (P : List Fn) : Nat → Nat → List Val → Heap → Out Val
  | 0, _, _, _ => .bad
  | n + 1, f, vs, h => match P[f]? with
    | some fn => if vs.length = fn.np then fin h (evSs (call P n) (runL P) (fun _ => .bad) fn.body (start fn.ns vs) h) else .bad
    | none => .bad
end PM

set_option Elab.async false
set_option linter.all false
set_option maxRecDepth 100000
/-! PMlem: laws of the evaluator. -/
namespace PM
open PySem

theorem Kept.refl (h : Heap) : Kept h h := ⟨rfl, fun _ => .inl rfl⟩
theorem Kept.set {h : Heap} {i : Nat} {o : Ob} (ho : o.flat = true) : Kept h (h.set i o) := by
  refine ⟨by simp, fun j => ?_⟩
  by_cases e : i = j
  · subst e
    by_cases hi : i < h.length
    · exact .inr ⟨o, by simp [hi], ho⟩
    · exact .inl (by simp [hi])
  · exact .inl (by simp [e])
theorem Kept.trans {h k l : Heap} (a : Kept h k) (b : Kept k l) : Kept h l := by
  refine ⟨b.1.trans a.1, fun i => ?_⟩
  rcases b.2 i with e | e
  · rw [e]; exact a.2 i
  · exact .inr e

@[simp] theorem trim_bad (h : Heap) : trim h .bad = .bad := rfl
@[simp] theorem trim_same (h : Heap) (v : Val) : trim h (.ok v h) = .ok v h := by
  unfold trim
  simp only [List.take_length]
  by_cases f : v.flat = true
  · simp [f, Kept.refl]
  · simp only [f, Bool.false_eq_true, false_and, if_false]
    cases v with
    | ref r =>
      simp only
      split
      · rename_i q
        obtain ⟨q1, ⟨o, q2, _⟩, _⟩ := q
        have := (List.getElem?_eq_some_iff.mp q2).1
        omega
      · rfl
    | _ => rfl
/-- a flat value: what was made is dropped -/
theorem trim_kept {h k : Heap} {v : Val} (f : v.flat = true) (q : Kept h k) (g : Heap) : trim h (.ok v (k ++ g)) = .ok v k := by
  have e : (k ++ g).take h.length = k := by rw [← q.1]; simp
  unfold trim
  simp only [e, f, q, and_self, if_true]
theorem trim_kept' {h k : Heap} {v : Val} (f : v.flat = true) (q : Kept h k) : trim h (.ok v k) = .ok v k := by
  have := trim_kept f q []
  rwa [List.append_nil] at this
@[simp] theorem trim_app (h g : Heap) (v : Val) (f : v.flat = true) : trim h (.ok v (h ++ g)) = .ok v h := trim_kept f (Kept.refl h) g
@[simp] theorem trim_set (h : Heap) (i : Nat) (o : Ob) (v : Val) (f : v.flat = true) (fo : o.flat = true) : trim h (.ok v (h.set i o)) = .ok v (h.set i o) := trim_kept' f (Kept.set fo)
/-- a new object -/
@[simp] theorem trim_new (h : Heap) (o : Ob) : trim h (.ok (.ref h.length) (h ++ [o])) = .ok (.ref h.length) (h ++ [o]) := by
  unfold trim
  simp [Val.flat, Kept.refl]
theorem trim_newAt {h k g : Heap} {j : Nat} {o : Ob} (q : Kept h k) (e : g[j]? = some o) (fo : o.flat = true) : trim h (.ok (.ref (h.length + j)) (k ++ g)) = .ok (.ref h.length) (k ++ [o]) := by
  have e1 : (k ++ g).take h.length = k := by rw [← q.1]; simp
  have e2 : (k ++ g)[h.length + j]? = some o := by
    rw [← q.1, List.getElem?_append_right (by omega)]
    have z : k.length + j - k.length = j := by omega
    rw [z]; exact e
  unfold trim
  dsimp only
  rw [if_neg (by simp [Val.flat]), e1, e2, if_pos ⟨by omega, ⟨o, rfl, fo⟩, q⟩]
  rfl
theorem trim_exc_kept {h k : Heap} {x : Exn} (f : x.v.flat = true) (q : Kept h k) (g : Heap) : trim h (.exc x (k ++ g)) = .exc x k := by
  have e : (k ++ g).take h.length = k := by rw [← q.1]; simp
  unfold trim
  simp only [e, f, q, and_self, if_true]
@[simp] theorem trim_exc_same (h : Heap) (x : Exn) : trim h (.exc x h) = .exc x h := by
  unfold trim
  simp only [List.take_length]
  split <;> rfl
@[simp] theorem trim_exc_app (h g : Heap) (x : Exn) (f : x.v.flat = true) : trim h (.exc x (h ++ g)) = .exc x h := trim_exc_kept f (Kept.refl h) g

/-! ### while -/
section
variable {c : Env → Heap → Out Bool} {body : Env → Heap → SOut}
theorem whN_mono : ∀ {n m : Nat} {ρ : Env} {h : Heap} {r : SOut}, whN c body n ρ h = some r → n ≤ m → whN c body m ρ h = some r
  | 0, _, _, _, _, e, _ => by simp [whN] at e
  | n + 1, 0, _, _, _, _, l => absurd l (by omega)
  | n + 1, m + 1, ρ, h, r, e, l => by
    unfold whN at e ⊢
    cases q : c ρ h with
    | ok b h1 =>
      rw [q] at e
      cases b with
      | true =>
        simp only at e ⊢
        cases z : body ρ h1 with
        | nx ρ2 h2 => rw [z] at e; exact whN_mono e (by omega)
        | ct ρ2 h2 => rw [z] at e; exact whN_mono e (by omega)
        | bk _ _ => rw [z] at e; exact e
        | rt _ _ => rw [z] at e; exact e
        | exc _ _ _ => rw [z] at e; exact e
        | bad => rw [z] at e; exact e
      | false => exact e
    | exc _ _ => rw [q] at e; exact e
    | bad => rw [q] at e; exact e
theorem whN_det {n m : Nat} {ρ : Env} {h : Heap} {r r' : SOut} (a : whN c body n ρ h = some r) (b : whN c body m ρ h = some r') : r = r' := by
  have a' := whN_mono a (Nat.le_max_left n m)
  have b' := whN_mono b (Nat.le_max_right n m)
  rw [a'] at b'
  exact Option.some.inj b'
theorem whL_of {n : Nat} {ρ : Env} {h : Heap} {r : SOut} (a : whN c body n ρ h = some r) : whL c body ρ h = r := by
  have z : ∃ r n, whN c body n ρ h = some r := ⟨r, n, a⟩
  unfold whL
  rw [dif_pos z]
  obtain ⟨m, e⟩ := Classical.choose_spec z
  exact whN_det e a
theorem whL_none {ρ : Env} {h : Heap} (z : ¬ ∃ r n, whN c body n ρ h = some r) : whL c body ρ h = .bad := by
  unfold whL
  rw [dif_neg z]
theorem whL_eq (ρ : Env) (h : Heap) : whL c body ρ h = match c ρ h with
    | .ok true h1 => match body ρ h1 with
      | .nx ρ2 h2 | .ct ρ2 h2 => whL c body ρ2 h2
      | .bk ρ2 h2 => .nx ρ2 h2
      | r => r
    | .ok false h1 => .nx ρ h1
    | .exc x k => .exc x ρ k
    | .bad => .bad := by
  have one : ∀ r, (∀ n, whN c body (n + 1) ρ h = some r) → whL c body ρ h = r := fun r e => whL_of (e 0)
  have two : ∀ ρ2 h2, (∀ n, whN c body (n + 1) ρ h = whN c body n ρ2 h2) → whL c body ρ h = whL c body ρ2 h2 := fun ρ2 h2 e => by
    by_cases z : ∃ r n, whN c body n ρ2 h2 = some r
    · obtain ⟨r, n, q⟩ := z
      rw [whL_of q]
      exact whL_of (n := n + 1) ((e n).trans q)
    · rw [whL_none z]
      refine whL_none fun ⟨r, n, q⟩ => z ?_
      cases n with
      | zero => simp [whN] at q
      | succ n => exact ⟨r, n, (e n).symm.trans q⟩
  cases q : c ρ h with
  | ok b h1 =>
    cases b with
    | true =>
      simp only
      cases z : body ρ h1 with
      | nx ρ2 h2 => exact two _ _ fun n => by simp only [whN, q, z]
      | ct ρ2 h2 => exact two _ _ fun n => by simp only [whN, q, z]
      | bk ρ2 h2 => exact one _ fun n => by simp only [whN, q, z]
      | rt _ _ => exact one _ fun n => by simp only [whN, q, z]
      | exc _ _ _ => exact one _ fun n => by simp only [whN, q, z]
      | bad => exact one _ fun n => by simp only [whN, q, z]
    | false => exact one _ fun n => by simp only [whN, q]
  | exc _ _ => exact one _ fun n => by simp only [whN, q]
  | bad => exact one _ fun n => by simp only [whN, q]
end

theorem call_eq {P : List Fn} {n f : Nat} {fn : Fn} {vs : List Val} {h : Heap} (e : P[f]? = some fn) (l : vs.length = fn.np) :
    call P (n + 1) f vs h = fin h (evSs (call P n) (runL P) (fun _ => .bad) fn.body (start fn.ns vs) h) := by
  simp [call, e, l]
end PM

set_option Elab.async false
set_option linter.all false
set_option maxRecDepth 100000
set_option maxHeartbeats 1000000
/-! PMrel: how the evaluator's values and heap stand in the layer's. -/
namespace PM
open PySem PySem.Spec PyProof.Rows L2

/-- what never changes -/
def Imm : HO → Prop
  | .tup _ | .frz _ _ | .xd _ | .own _ => True
  | _ => False
def NoTbl (o : HO) : Prop := ∀ ps, o ≠ .tbl ps

structure After (H : Hp) (θ : List Addr) (H' : Hp) (θ' : List Addr) : Prop where
  pre : θ <+: θ'
  imm : ∀ a o, H a = some o → Imm o → H' a = some o
  frm : ∀ a o, H a = some o → a ∉ θ → NoTbl o → H' a = some o
  tbl : ∀ a ps, H a = some (.tbl ps) → ∃ ps', H' a = some (.tbl ps')
  new : ∀ a ∈ θ', a ∉ θ → H a = none

structure Cfg where
  K : PySem.W.Frag
  T : List (Addr × Str)
  ca : Nat → Addr
  xa : Nat → Addr
  nx : Nat
  fa : Option Addr
  Iv : Hp → List Addr → Prop
  stab : ∀ {H H' : Hp} {θ θ' : List Addr}, After H θ H' θ' → Iv H θ → Iv H' θ'

/-- a list that is read, never written -/
def SqF (K : PySem.W.Frag) (H : Hp) (a : Addr) (ws : List V) : Prop := (∃ o, H a = some (.frz o (.lst ws))) ∨ ∃ (o : Obj) (its : Array Value) (n : Nat), K.lookup a = some o ∧ o.cls = .type "list" ∧ o.dict = none ∧ o.data = .seq its n ∧ its.size ≤ sizeLine ∧ Vals ws its.toList
theorem SqF.list {K : PySem.W.Frag} {H : Hp} {a : Addr} {ws : List V} (s : SqF K H a ws) : SqL K H a ws := s.elim (fun ⟨o, h⟩ => .inl (.inr ⟨o, h⟩)) fun h => .inr h
mutual
def RV (K : PySem.W.Frag) (H : Hp) (θ : List Addr) : Val → V → Prop
  | .non, w => w = .non
  | .bl b, w => w = .bl b
  | .int i, w => w = .int i
  | .str s, w => w = .str s
  | .tup vs, w => ∃ a ws, w = .ref a ∧ SqT K H a ws ∧ RVs K H θ vs ws
  | .ref n, w => ∃ a, w = .ref a ∧ θ[n]? = some a
  | .scr vs, w => ∃ a ws, w = .ref a ∧ SqF K H a ws ∧ RVs K H θ vs ws
def RVs (K : PySem.W.Frag) (H : Hp) (θ : List Addr) : List Val → List V → Prop
  | [], ws => ws = []
  | v :: vs, ws => ∃ w r, ws = w :: r ∧ RV K H θ v w ∧ RVs K H θ vs r
end

def RO (C : Cfg) (H : Hp) (θ : List Addr) (a : Addr) : Ob → Prop
  | .lst vs => ∃ ws, H a = some (.lst ws) ∧ RVs C.K H θ vs ws
  | .dct kvs => kvs = [] ∧ H a = some (.dK [])
  | .ins c fs => ∃ dx gs, H a = some (.ins (C.ca c) dx gs) ∧ gs.map (·.1) = fs.map (·.1) ∧ RVs C.K H θ (fs.map (·.2)) (gs.map (·.2))


structure Rel (C : Cfg) (H : Hp) (θ : List Addr) (h : Heap) : Prop where
  len : θ.length = h.length
  nd : θ.Nodup
  ob : ∀ (i : Nat) (o : Ob), h[i]? = some o → ∃ a, θ[i]? = some a ∧ RO C H θ a o
  tab : LamX.Tabs C.T H
  iv : C.Iv H θ

/-- as far as values lean on it -/
structure Ext (H : Hp) (θ : List Addr) (H' : Hp) (θ' : List Addr) : Prop where
  pre : θ <+: θ'
  imm : ∀ a o, H a = some o → Imm o → H' a = some o
theorem After.ext {H : Hp} {θ : List Addr} {H' : Hp} {θ' : List Addr} (a : After H θ H' θ') : Ext H θ H' θ' := ⟨a.pre, a.imm⟩
theorem Ext.grow {H : Hp} {θ θ' : List Addr} (p : θ <+: θ') : Ext H θ H θ' := ⟨p, fun _ _ h _ => h⟩
theorem After.refl (H : Hp) (θ : List Addr) : After H θ H θ := ⟨List.prefix_refl _, fun _ _ h _ => h, fun _ _ h _ _ => h, fun _ ps h => ⟨ps, h⟩, fun _ h n => absurd h n⟩
theorem imm_noTbl {o : HO} (h : Imm o) : NoTbl o := fun ps e => by subst e; exact h
theorem After.trans {H H1 H2 : Hp} {θ θ1 θ2 : List Addr} (a : After H θ H1 θ1) (b : After H1 θ1 H2 θ2) : After H θ H2 θ2 := by
  have out : ∀ x o, H x = some o → x ∉ θ → x ∉ θ1 := fun x o e n m => by
    have := a.new x m n
    rw [e] at this; cases this
  refine ⟨a.pre.trans b.pre, fun x o e i => b.imm x o (a.imm x o e i) i, fun x o e n t => b.frm x o (a.frm x o e n t) (out x o e n) t, fun x ps e => ?_, fun x m n => ?_⟩
  · obtain ⟨ps', e'⟩ := a.tbl x ps e
    exact b.tbl x ps' e'
  · by_cases q : x ∈ θ1
    · exact a.new x q n
    · have z := b.new x m q
      cases e : H x with
      | none => rfl
      | some o =>
        exfalso
        cases o with
        | tbl ps =>
          obtain ⟨ps', e'⟩ := a.tbl x ps e
          rw [e'] at z; cases z
        | _ =>
          rw [a.frm x _ e n (by intro ps q; cases q)] at z
          cases z

/-! ### values go along -/
theorem sqT_after {K : PySem.W.Frag} {H H' : Hp} {θ θ' : List Addr} {a : Addr} {ws : List V} (af : Ext H θ H' θ') (s : SqT K H a ws) : SqT K H' a ws := by
  rcases s with (s | ⟨o, s⟩) | s
  · exact .inl (.inl (af.imm _ _ s True.intro))
  · exact .inl (.inr ⟨o, af.imm _ _ s True.intro⟩)
  · exact .inr s
theorem pre_get {θ θ' : List Addr} (p : θ <+: θ') {n : Nat} {a : Addr} (e : θ[n]? = some a) : θ'[n]? = some a := by
  obtain ⟨r, rfl⟩ := p
  rw [List.getElem?_append_left (List.getElem?_eq_some_iff.mp e).1]
  exact e
mutual
theorem RV.after {K : PySem.W.Frag} {H H' : Hp} {θ θ' : List Addr} (af : Ext H θ H' θ') : ∀ (v : Val) (w : V), RV K H θ v w → RV K H' θ' v w
  | .non, _, r => r
  | .bl _, _, r => r
  | .int _, _, r => r
  | .str _, _, r => r
  | .tup vs, _, ⟨a, ws, e, s, r⟩ => ⟨a, ws, e, sqT_after af s, RVs.after af vs ws r⟩
  | .ref _, _, ⟨a, e, t⟩ => ⟨a, e, pre_get af.pre t⟩
  | .scr vs, _, ⟨a, ws, e, s, r⟩ => ⟨a, ws, e, s.elim (fun ⟨o, h⟩ => .inl ⟨o, af.imm _ _ h True.intro⟩) .inr, RVs.after af vs ws r⟩
theorem RVs.after {K : PySem.W.Frag} {H H' : Hp} {θ θ' : List Addr} (af : Ext H θ H' θ') : ∀ (vs : List Val) (ws : List V), RVs K H θ vs ws → RVs K H' θ' vs ws
  | [], _, r => r
  | v :: vs, _, ⟨w, r, e, a, b⟩ => ⟨w, r, e, RV.after af v w a, RVs.after af vs r b⟩
end
mutual
/-- a value that was told before a step stands by the places that were there -/
theorem RV.down {K : PySem.W.Frag} {H H' : Hp} {θ θ' : List Addr} (p : θ <+: θ') : ∀ (v : Val) (w w0 : V), RV K H θ v w0 → RV K H' θ' v w → RV K H' θ v w
  | .non, _, _, _, r => r
  | .bl _, _, _, _, r => r
  | .int _, _, _, _, r => r
  | .str _, _, _, _, r => r
  | .tup vs, _, _, ⟨_, ws0, _, _, r0⟩, ⟨a, ws, e, s, r⟩ => ⟨a, ws, e, s, RVs.down p vs ws ws0 r0 r⟩
  | .ref n, _, _, ⟨a0, _, t0⟩, ⟨a, e, t⟩ => ⟨a, e, by
      have := pre_get p t0
      rw [t] at this; cases this; exact t0⟩
  | .scr vs, _, _, ⟨_, ws0, _, _, r0⟩, ⟨a, ws, e, s, r⟩ => ⟨a, ws, e, s, RVs.down p vs ws ws0 r0 r⟩
theorem RVs.down {K : PySem.W.Frag} {H H' : Hp} {θ θ' : List Addr} (p : θ <+: θ') : ∀ (vs : List Val) (ws ws0 : List V), RVs K H θ vs ws0 → RVs K H' θ' vs ws → RVs K H' θ vs ws
  | [], _, _, _, r => r
  | v :: vs, _, _, ⟨w0, r0, _, a0, b0⟩, ⟨w, r, e, a, b⟩ => ⟨w, r, e, RV.down p v w w0 a0 a, RVs.down p vs r r0 b0 b⟩
end
mutual
theorem RV.flat {K : PySem.W.Frag} {H : Hp} {θ θ' : List Addr} : ∀ (v : Val) (w : V), v.flat = true → RV K H θ v w → RV K H θ' v w
  | .non, _, _, r => r
  | .bl _, _, _, r => r
  | .int _, _, _, r => r
  | .str _, _, _, r => r
  | .tup vs, _, f, ⟨a, ws, e, s, r⟩ => ⟨a, ws, e, s, RVs.flat vs ws (by simpa [Val.flat] using f) r⟩
  | .ref n, _, f, _ => by simp [Val.flat] at f
  | .scr vs, _, f, _ => by simp [Val.flat] at f
theorem RVs.flat {K : PySem.W.Frag} {H : Hp} {θ θ' : List Addr} : ∀ (vs : List Val) (ws : List V), flats vs = true → RVs K H θ vs ws → RVs K H θ' vs ws
  | [], _, _, r => r
  | v :: vs, _, f, ⟨w, r, e, a, b⟩ => by
    have f' : v.flat = true ∧ flats vs = true := by simpa [flats] using f
    exact ⟨w, r, e, RV.flat v w f'.1 a, RVs.flat vs r f'.2 b⟩
end
theorem RVs.length {K : PySem.W.Frag} {H : Hp} {θ : List Addr} : ∀ {vs : List Val} {ws : List V}, RVs K H θ vs ws → ws.length = vs.length
  | [], _, r => by cases r; rfl
  | v :: vs, _, ⟨w, r, e, a, b⟩ => by subst e; simp [RVs.length b]
theorem RVs.get {K : PySem.W.Frag} {H : Hp} {θ : List Addr} : ∀ {vs : List Val} {ws : List V} {i : Nat} {v : Val}, RVs K H θ vs ws → vs[i]? = some v → ∃ w, ws[i]? = some w ∧ RV K H θ v w
  | [], _, _, _, _, e => by simp at e
  | v :: vs, _, 0, u, ⟨w, r, e, a, b⟩, q => by subst e; simp at q; subst q; exact ⟨w, rfl, a⟩
  | v :: vs, _, i + 1, u, ⟨w, r, e, a, b⟩, q => by
    subst e
    obtain ⟨z, h1, h2⟩ := RVs.get (i := i) (v := u) b (by simpa using q)
    exact ⟨z, by simpa using h1, h2⟩
theorem RVs.append {K : PySem.W.Frag} {H : Hp} {θ : List Addr} : ∀ {vs vs' : List Val} {ws ws' : List V}, RVs K H θ vs ws → RVs K H θ vs' ws' → RVs K H θ (vs ++ vs') (ws ++ ws')
  | [], _, _, _, r, s => by cases r; exact s
  | v :: vs, _, _, _, ⟨w, r, e, a, b⟩, s => by subst e; exact ⟨w, _, rfl, a, RVs.append b s⟩
theorem RVs.set {K : PySem.W.Frag} {H : Hp} {θ : List Addr} {v : Val} {w : V} (q : RV K H θ v w) : ∀ {vs : List Val} {ws : List V} (i : Nat), RVs K H θ vs ws → RVs K H θ (vs.set i v) (ws.set i w)
  | [], _, _, r => by cases r; rfl
  | x :: vs, _, 0, ⟨w', r, e, a, b⟩ => by subst e; exact ⟨w, r, rfl, q, b⟩
  | x :: vs, _, i + 1, ⟨w', r, e, a, b⟩ => by subst e; exact ⟨w', _, rfl, a, RVs.set q i b⟩
theorem RVs.take {K : PySem.W.Frag} {H : Hp} {θ : List Addr} : ∀ {vs : List Val} {ws : List V} (n : Nat), RVs K H θ vs ws → RVs K H θ (vs.take n) (ws.take n)
  | [], _, n, r => by cases r; simp [RVs]
  | x :: vs, _, 0, ⟨w', r, e, a, b⟩ => by subst e; simp [RVs]
  | x :: vs, _, n + 1, ⟨w', r, e, a, b⟩ => by subst e; exact ⟨w', _, rfl, a, RVs.take n b⟩
theorem RVs.drop {K : PySem.W.Frag} {H : Hp} {θ : List Addr} : ∀ {vs : List Val} {ws : List V} (n : Nat), RVs K H θ vs ws → RVs K H θ (vs.drop n) (ws.drop n)
  | [], _, n, r => by cases r; simp [RVs]
  | x :: vs, _, 0, ⟨w', r, e, a, b⟩ => by subst e; exact ⟨w', r, rfl, a, b⟩
  | x :: vs, _, n + 1, ⟨w', r, e, a, b⟩ => by subst e; exact RVs.drop n b
theorem RVs.reverse {K : PySem.W.Frag} {H : Hp} {θ : List Addr} : ∀ {vs : List Val} {ws : List V}, RVs K H θ vs ws → RVs K H θ vs.reverse ws.reverse
  | [], _, r => by cases r; simp [RVs]
  | x :: vs, _, ⟨w', r, e, a, b⟩ => by
    subst e
    rw [List.reverse_cons, List.reverse_cons]
    exact (RVs.reverse b).append ⟨w', [], rfl, a, rfl⟩
theorem RVs.of_map {K : PySem.W.Frag} {H : Hp} {θ : List Addr} {α : Type} {f : α → Val} {g : α → V} (h : ∀ x, RV K H θ (f x) (g x)) : ∀ xs : List α, RVs K H θ (xs.map f) (xs.map g)
  | [] => rfl
  | x :: xs => ⟨g x, _, rfl, h x, RVs.of_map h xs⟩

/-! ### objects go along -/
/-- an object that does not change -/
theorem RO.after {C : Cfg} {H H' : Hp} {θ θ' : List Addr} (af : Ext H θ H' θ') {a : Addr} {o : Ob} (e : ∀ u, H a = some u → H' a = some u) (r : RO C H θ a o) : RO C H' θ' a o := by
  cases o with
  | lst vs => obtain ⟨ws, h, r⟩ := r; exact ⟨ws, e _ h, RVs.after af _ _ r⟩
  | dct kvs => exact ⟨r.1, e _ r.2⟩
  | ins c fs => obtain ⟨dx, gs, h, n, r⟩ := r; exact ⟨dx, gs, e _ h, n, RVs.after af _ _ r⟩
theorem RO.down {C : Cfg} {H H' : Hp} {θ θ' : List Addr} (p : θ <+: θ') {a a0 : Addr} {o : Ob} (r0 : RO C H θ a0 o) (r : RO C H' θ' a o) : RO C H' θ a o := by
  cases o with
  | lst vs => obtain ⟨ws, h, r⟩ := r; obtain ⟨ws0, _, r0⟩ := r0; exact ⟨ws, h, RVs.down p _ _ _ r0 r⟩
  | dct kvs => exact r
  | ins c fs => obtain ⟨dx, gs, h, n, r⟩ := r; obtain ⟨_, gs0, _, _, r0⟩ := r0; exact ⟨dx, gs, h, n, RVs.down p _ _ _ r0 r⟩
theorem flats_of_all : ∀ {fs : List (Str × Val)}, (fs.all fun p => p.2.flat) = true → flats (fs.map (·.2)) = true
  | [], _ => rfl
  | p :: fs, h => by
    have h' : p.2.flat = true ∧ (fs.all fun p => p.2.flat) = true := by simpa using h
    simp only [List.map_cons, flats, Bool.and_eq_true]
    exact ⟨h'.1, flats_of_all h'.2⟩
theorem RO.flat {C : Cfg} {H : Hp} {θ θ' : List Addr} {a : Addr} {o : Ob} (f : o.flat = true) (r : RO C H θ a o) : RO C H θ' a o := by
  cases o with
  | lst vs => obtain ⟨ws, h, r⟩ := r; exact ⟨ws, h, RVs.flat _ _ f r⟩
  | dct kvs => exact r
  | ins c fs => obtain ⟨dx, gs, h, n, r⟩ := r; exact ⟨dx, gs, h, n, RVs.flat _ _ (flats_of_all f) r⟩

theorem prefix_take {θ θ' : List Addr} (p : θ <+: θ') : θ'.take θ.length = θ := by
  obtain ⟨r, rfl⟩ := p; simp
theorem Rel.get {C : Cfg} {H : Hp} {θ : List Addr} {h : Heap} (rl : Rel C H θ h) {i : Nat} {a : Addr} (e : θ[i]? = some a) : ∃ o, h[i]? = some o ∧ RO C H θ a o := by
  have hi := (List.getElem?_eq_some_iff.mp e).1
  have hi' : i < h.length := by rw [← rl.len]; exact hi
  obtain ⟨a', e', r⟩ := rl.ob i h[i] (by simp [hi'])
  rw [e] at e'; cases e'
  exact ⟨_, by simp [hi'], r⟩
/-- a heap whose new part is dropped -/
theorem Rel.drop {C : Cfg} {H H' : Hp} {θ θ' : List Addr} {h k : Heap} (rl : Rel C H θ h) (af : After H θ H' θ') (rl' : Rel C H' θ' k) (kp : Kept h (k.take h.length)) : Rel C H' θ (k.take h.length) := by
  refine ⟨rl.len.trans kp.1.symm, rl.nd, fun i o e => ?_, rl'.tab, C.stab ⟨List.prefix_refl _, af.imm, af.frm, af.tbl, fun _ h n => absurd h n⟩ rl.iv⟩
  have hi : i < (k.take h.length).length := (List.getElem?_eq_some_iff.mp e).1
  have hil : i < h.length := by rw [← kp.1]; exact hi
  have ek : k[i]? = some o := by rw [← e, List.getElem?_take, if_pos hil]
  obtain ⟨a, ea, r⟩ := rl'.ob i o ek
  have hθ : i < θ.length := by rw [rl.len]; exact hil
  have ea' : θ[i]? = some a := by
    obtain ⟨t, rfl⟩ := af.pre
    rw [List.getElem?_append_left hθ] at ea
    exact ea
  refine ⟨a, ea', ?_⟩
  rcases kp.2 i with q | ⟨o', q, f⟩
  · rw [e] at q
    obtain ⟨a0, _, r0⟩ := rl.ob i o q.symm
    exact r0.down af.pre r
  · rw [e] at q; cases q
    exact r.flat f
theorem After.drop {H H' : Hp} {θ θ' : List Addr} (af : After H θ H' θ') : After H θ H' θ := ⟨List.prefix_refl _, af.imm, af.frm, af.tbl, fun _ h n => absurd h n⟩

/-! ### the slots -/
/-- the caught error of a suite: where it stands, its class, its dict -/
abbrev Caught := Option (Addr × Value × Option Addr)
def RX (C : Cfg) (H : Hp) (θ : List Addr) (x : Exn) (cls : Value) (d : Option Addr) : Prop := (cls = .ref (C.xa x.c) ∧ x.c < C.nx) ∧ ∃ dd w, d = some dd ∧ H dd = some (.xd [(x.f, w)]) ∧ RV C.K H θ x.v w
def RS (C : Cfg) (cg : Caught) (H : Hp) (θ : List Addr) : Sl → Option V → Prop
  | .no, _ => True
  | .v v, w => ∃ u, w = some u ∧ RV C.K H θ v u
  | .x x, w => ∃ a cls d, cg = some (a, cls, d) ∧ w = some (.ref a) ∧ RX C H θ x cls d
  | .f, w => ∃ a, C.fa = some a ∧ w = some (.ref a)
def RE (C : Cfg) (cg : Caught) (H : Hp) (θ : List Addr) (ρ : Env) (σ : L2.St) : Prop := ρ.length = σ.length ∧ ∀ (i : Nat) (s : Sl), ρ[i]? = some s → ∃ w, σ[i]? = some w ∧ RS C cg H θ s w
theorem RX.after {C : Cfg} {H H' : Hp} {θ θ' : List Addr} (af : After H θ H' θ') {x : Exn} {cls : Value} {d : Option Addr} (r : RX C H θ x cls d) : RX C H' θ' x cls d := by
  obtain ⟨e, dd, w, e1, e2, r⟩ := r
  exact ⟨e, dd, w, e1, af.imm _ _ e2 True.intro, RV.after af.ext _ _ r⟩
theorem RS.after {C : Cfg} {cg : Caught} {H H' : Hp} {θ θ' : List Addr} (af : After H θ H' θ') {s : Sl} {w : Option V} (r : RS C cg H θ s w) : RS C cg H' θ' s w := by
  cases s with
  | no => exact True.intro
  | v v => obtain ⟨u, e, r⟩ := r; exact ⟨u, e, RV.after af.ext _ _ r⟩
  | x x => obtain ⟨a, cls, d, e, e2, r⟩ := r; exact ⟨a, cls, d, e, e2, r.after af⟩
  | f => exact r
theorem RE.after {C : Cfg} {cg : Caught} {H H' : Hp} {θ θ' : List Addr} (af : After H θ H' θ') {ρ : Env} {σ : L2.St} (r : RE C cg H θ ρ σ) : RE C cg H' θ' ρ σ :=
  ⟨r.1, fun i s e => let ⟨w, e', q⟩ := r.2 i s e; ⟨w, e', q.after af⟩⟩
theorem RE.get {C : Cfg} {cg : Caught} {H : Hp} {θ : List Addr} {ρ : Env} {σ : L2.St} (r : RE C cg H θ ρ σ) {i : Nat} {v : Val} (e : ρ[i]? = some (.v v)) : ∃ w, σ[i]? = some (some w) ∧ RV C.K H θ v w := by
  obtain ⟨w, e', u, q, z⟩ := r.2 i _ e
  exact ⟨u, by rw [e', q], z⟩
theorem RE.set {C : Cfg} {cg : Caught} {H : Hp} {θ : List Addr} {ρ : Env} {σ : L2.St} (r : RE C cg H θ ρ σ) {v : Val} {w : V} (q : RV C.K H θ v w) (i : Nat) : RE C cg H θ (ρ.set i (.v v)) (σ.set i (some w)) := by
  refine ⟨by simp [r.1], fun j s e => ?_⟩
  by_cases hij : i = j
  · subst hij
    have hi : i < ρ.length := by
      have := (List.getElem?_eq_some_iff.mp e).1
      simpa using this
    rw [List.getElem?_set_self hi] at e
    cases e
    exact ⟨some w, by rw [List.getElem?_set_self (by rw [← r.1]; exact hi)], w, rfl, q⟩
  · rw [List.getElem?_set_ne hij] at e
    obtain ⟨z, e', q'⟩ := r.2 j s e
    exact ⟨z, by rw [List.getElem?_set_ne hij]; exact e', q'⟩
theorem RE.no {C : Cfg} {cg : Caught} {H : Hp} {θ : List Addr} {ρ : Env} {σ : L2.St} (r : RE C cg H θ ρ σ) (i : Nat) (w : Option V) : RE C cg H θ (ρ.set i .no) (σ.set i w) := by
  refine ⟨by simp [r.1], fun j s e => ?_⟩
  by_cases hij : i = j
  · subst hij
    have hi : i < ρ.length := by
      have := (List.getElem?_eq_some_iff.mp e).1
      simpa using this
    rw [List.getElem?_set_self hi] at e
    cases e
    exact ⟨w, by rw [List.getElem?_set_self (by rw [← r.1]; exact hi)], True.intro⟩
  · rw [List.getElem?_set_ne hij] at e
    obtain ⟨z, e', q'⟩ := r.2 j s e
    exact ⟨z, by rw [List.getElem?_set_ne hij]; exact e', q'⟩
theorem RE.wipe {C : Cfg} {cg : Caught} {H : Hp} {θ : List Addr} : ∀ (is : List Nat) {ρ : Env} {σ : L2.St}, RE C cg H θ ρ σ → RE C cg H θ (wipe ρ is) (L2.wipe σ is)
  | [], _, _, r => r
  | i :: is, _, _, r => (RE.wipe is r).no i none

/-! ### what an outcome asks of what follows -/
/-- R: of a value; E: of an error -/
def GO {α : Type} (C : Cfg) (H : Hp) (θ : List Addr) (o : Out α) (R : α → Heap → Hp → List Addr → Prop) (E : Value → Option Addr → Hp → Prop) : Prop := match o with
  | .ok a h' => ∀ H' θ', After H θ H' θ' → Rel C H' θ' h' → R a h' H' θ'
  | .exc x h' => ∀ H' θ' cls d, After H θ H' θ' → Rel C H' θ' h' → RX C H' θ' x cls d → E cls d H'
  | .bad => False
theorem GO.mono {α : Type} {C : Cfg} {H H1 : Hp} {θ θ1 : List Addr} {o : Out α} {R : α → Heap → Hp → List Addr → Prop} {E : Value → Option Addr → Hp → Prop} (af : After H θ H1 θ1) (g : GO C H θ o R E) : GO C H1 θ1 o R E := by
  cases o with
  | ok a h' => exact fun H' θ' af' rl => g H' θ' (af.trans af') rl
  | exc x h' => exact fun H' θ' cls d af' rl rx => g H' θ' cls d (af.trans af') rl rx
  | bad => exact g
theorem GO.imp {α : Type} {C : Cfg} {H : Hp} {θ : List Addr} {o : Out α} {R R' : α → Heap → Hp → List Addr → Prop} {E : Value → Option Addr → Hp → Prop} (g : GO C H θ o R E)
    (h : ∀ a h' H' θ', After H θ H' θ' → Rel C H' θ' h' → R a h' H' θ' → R' a h' H' θ') : GO C H θ o R' E := by
  cases o with
  | ok a h' => exact fun H' θ' af' rl => h _ _ _ _ af' rl (g H' θ' af' rl)
  | exc x h' => exact g
  | bad => exact g
theorem GO.bind {α β : Type} {C : Cfg} {H : Hp} {θ : List Addr} {o : Out α} {f : α → Heap → Out β} {R : β → Heap → Hp → List Addr → Prop} {E : Value → Option Addr → Hp → Prop} (g : GO C H θ (o.bind f) R E) :
    GO C H θ o (fun a h1 H1 θ1 => GO C H1 θ1 (f a h1) R E) E := by
  cases o with
  | ok a h' => exact fun H' θ' af' rl => GO.mono af' g
  | exc x h' => exact g
  | bad => exact g
theorem GO.ofO {α : Type} {C : Cfg} {H : Hp} {θ : List Addr} {o : Option α} {h : Heap} {R : α → Heap → Hp → List Addr → Prop} {E : Value → Option Addr → Hp → Prop} (rl : Rel C H θ h) (g : GO C H θ (PM.ofO o h) R E) : ∃ a, o = some a ∧ R a h H θ := by
  cases o with
  | none => exact g.elim
  | some a => exact ⟨a, rfl, g H θ (After.refl _ _) rl⟩
theorem GO.ok {α : Type} {C : Cfg} {H : Hp} {θ : List Addr} {a : α} {h : Heap} {R : α → Heap → Hp → List Addr → Prop} {E : Value → Option Addr → Hp → Prop} (rl : Rel C H θ h) (g : GO C H θ (.ok a h) R E) : R a h H θ := g H θ (After.refl _ _) rl

/-- a value's continuation -/
abbrev VR (C : Cfg) (Q : VK) : Val → Heap → Hp → List Addr → Prop := fun v _ H' θ' => ∀ w, RV C.K H' θ' v w → Q w H'
theorem GO.trim {C : Cfg} {H : Hp} {θ : List Addr} {h : Heap} {o : Out Val} {Q : VK} {E : Value → Option Addr → Hp → Prop} (rl : Rel C H θ h) (g : GO C H θ (PM.trim h o) (VR C Q) E) : GO C H θ o (VR C Q) E := by
  cases o with
  | bad => exact g
  | ok v k =>
    unfold PM.trim at g
    dsimp only at g
    intro H' θ' af rl' w rv
    split at g
    · rename_i c
      exact g H' θ af.drop (rl.drop af rl' c.2) w (RV.flat _ _ c.1 rv)
    · cases v with
      | ref r =>
        dsimp only at g
        split at g
        · rename_i c
          obtain ⟨c1, ⟨o, c2, c3⟩, c4⟩ := c
          obtain ⟨a, ea, ro⟩ := rl'.ob r o c2
          have hθ : θ.length ≤ r := by rw [rl.len]; exact c1
          have hne : a ∉ θ := fun m => by
            obtain ⟨j, hj, ej⟩ := List.getElem_of_mem m
            have ej' : θ'[j]? = some a := pre_get af.pre (by simp [hj, ej])
            obtain ⟨hr, er⟩ := List.getElem?_eq_some_iff.mp ea
            obtain ⟨hj', er'⟩ := List.getElem?_eq_some_iff.mp ej'
            have := (List.getElem_inj rl'.nd).mp (er.trans er'.symm)
            omega
          have hm : a ∈ θ' := List.mem_of_getElem? ea
          rw [c2] at g
          have rd := rl.drop af rl' c4
          have af2 : After H θ H' (θ ++ [a]) := ⟨List.prefix_append _ _, af.imm, af.frm, af.tbl, fun x hx n => by
            rcases List.mem_append.mp hx with q | q
            · exact absurd q n
            · have : x = a := by simpa using q
              subst this
              exact af.new x hm hne⟩
          refine g H' (θ ++ [a]) af2 ⟨?_, ?_, fun i u e => ?_, rl'.tab, C.stab af2 rl.iv⟩ w ?_
          · show (θ ++ [a]).length = (k.take h.length ++ [o]).length
            rw [List.length_append, List.length_append, rd.len]; rfl
          · rw [List.nodup_append]
            refine ⟨rl.nd, by simp, fun x hx y hy => ?_⟩
            have : y = a := by simpa using hy
            subst this
            exact fun q => hne (q ▸ hx)
          · have e : (k.take h.length ++ [o])[i]? = some u := e
            by_cases hi : i < (k.take h.length).length
            · rw [List.getElem?_append_left hi] at e
              obtain ⟨b, eb, rb⟩ := rd.ob i u e
              refine ⟨b, pre_get (List.prefix_append _ _) eb, ?_⟩
              exact rb.after (.grow (List.prefix_append _ _)) (fun _ z => z)
            · rw [List.getElem?_append_right (by omega)] at e
              have hi0 : i - (k.take h.length).length = 0 := by
                have := (List.getElem?_eq_some_iff.mp e).1
                simp only [Option.toList, List.length_singleton] at this; omega
              rw [hi0] at e
              cases e
              refine ⟨a, ?_, ro.flat c3⟩
              rw [List.getElem?_append_right (by rw [rd.len]; omega), rd.len, hi0]
              rfl
          · obtain ⟨b, eb, tb⟩ := rv
            rw [ea] at tb; cases tb
            exact ⟨a, eb, by rw [← rl.len]; simp⟩
        · exact g H' θ' af rl' w rv
      | _ => exact g H' θ' af rl' w rv
  | exc x k =>
    unfold PM.trim at g
    dsimp only at g
    intro H' θ' cls d af rl' rx
    split at g
    · rename_i c
      obtain ⟨e, dd, w, e1, e2, r⟩ := rx
      exact g H' θ cls d af.drop (rl.drop af rl' c.2) ⟨e, dd, w, e1, e2, RV.flat _ _ c.1 r⟩
    · exact g H' θ' cls d af rl' rx

/-! ### readings -/
/-- the reading of an expression: W what is wished of an error -/
def LE (C : Cfg) (cg : Caught) (W : WX) (f : Env → Heap → Out Val) : TE := fun σ H Q => ∃ θ ρ h, RE C cg H θ ρ σ ∧ Rel C H θ h ∧ GO C H θ (f ρ h) (VR C Q) (fun cls d H' => W cls d σ H')
def LT (C : Cfg) (cg : Caught) (W : WX) (f : Env → Heap → Out Val) : TT := fun σ H Q => ∃ θ ρ h, RE C cg H θ ρ σ ∧ Rel C H θ h ∧ GO C H θ (toB (f ρ h)) (fun b _ H' _ => Q b H') (fun cls d H' => W cls d σ H')
def LA (C : Cfg) (cg : Caught) (W : WX) (f : Env → Heap → Out (List Val)) : TA := fun σ H Q => ∃ θ ρ h, RE C cg H θ ρ σ ∧ Rel C H θ h ∧ GO C H θ (f ρ h) (fun vs _ H' θ' => ∀ ws, RVs C.K H' θ' vs ws → Q ws H') (fun cls d H' => W cls d σ H')
def GS (C : Cfg) (cg : Caught) (W : WX) (H : Hp) (θ : List Addr) (o : SOut) (D : Ends) : Prop := match o with
  | .nx ρ h => ∀ H' θ' σ', After H θ H' θ' → Rel C H' θ' h → RE C cg H' θ' ρ σ' → D.nx σ' H'
  | .rt v h => ∀ H' θ' w, After H θ H' θ' → Rel C H' θ' h → RV C.K H' θ' v w → D.rt w H'
  | .bk ρ h => ∀ H' θ' σ', After H θ H' θ' → Rel C H' θ' h → RE C cg H' θ' ρ σ' → D.bk σ' H'
  | .ct ρ h => ∀ H' θ' σ', After H θ H' θ' → Rel C H' θ' h → RE C cg H' θ' ρ σ' → D.ct σ' H'
  | .exc x ρ h => ∀ H' θ' σ' cls d, After H θ H' θ' → Rel C H' θ' h → RE C cg H' θ' ρ σ' → RX C H' θ' x cls d → W cls d σ' H'
  | .bad => False
def LS (C : Cfg) (cg : Caught) (W : WX) (f : Env → Heap → SOut) : TS := fun D σ H => ∃ θ ρ h, RE C cg H θ ρ σ ∧ Rel C H θ h ∧ GS C cg W H θ (f ρ h) D
theorem GS.mono {C : Cfg} {cg : Caught} {W : WX} {H H1 : Hp} {θ θ1 : List Addr} {o : SOut} {D : Ends} (af : After H θ H1 θ1) (g : GS C cg W H θ o D) : GS C cg W H1 θ1 o D := by
  cases o with
  | nx ρ h => exact fun H' θ' σ' a => g H' θ' σ' (af.trans a)
  | rt v h => exact fun H' θ' w a => g H' θ' w (af.trans a)
  | bk ρ h => exact fun H' θ' σ' a => g H' θ' σ' (af.trans a)
  | ct ρ h => exact fun H' θ' σ' a => g H' θ' σ' (af.trans a)
  | exc x ρ h => exact fun H' θ' σ' cls d a => g H' θ' σ' cls d (af.trans a)
  | bad => exact g
theorem _root_.L2.PE.weak {X : Cx} {e : Expr} {t t' : TE} (h : PE X e t) (w : ∀ σ H Q, t' σ H Q → t σ H Q) : PE X e t' := ⟨fun pins s σ H Q I q => h.run pins s σ H Q I (w σ H Q q)⟩
theorem _root_.L2.PT.weak {X : Cx} {e : Expr} {t t' : TT} (h : PT X e t) (w : ∀ σ H Q, t' σ H Q → t σ H Q) : PT X e t' := ⟨fun pins s σ H Q I q => h.run pins s σ H Q I (w σ H Q q)⟩
theorem _root_.L2.PA.weak {X : Cx} {e : List Expr} {t t' : TA} (h : PA X e t) (w : ∀ σ H Q, t' σ H Q → t σ H Q) : PA X e t' := ⟨fun pos pins s σ H Q I q => h.run pos pins s σ H Q I (w σ H Q q)⟩
theorem _root_.L2.PS.weak {X : Cx} {e : Stmt} {t t' : TS} (h : PS X e t) (w : ∀ D σ H, t' D σ H → t D σ H) : PS X e t' := ⟨fun pins s σ H D I q => h.run pins s σ H D I (w D σ H q)⟩
theorem _root_.L2.PSs.weak {X : Cx} {e : List Stmt} {t t' : TS} (h : PSs X e t) (w : ∀ D σ H, t' D σ H → t D σ H) : PSs X e t' := ⟨fun pins s σ H D I q => h.run pins s σ H D I (w D σ H q)⟩
end PM

set_option Elab.async false
set_option linter.all false
set_option maxRecDepth 100000
set_option maxHeartbeats 1000000
/-! PMops: the operators, by values. -/
namespace PM
open PySem PySem.Spec PyProof.Rows L2

/-! ### steps of the layer's heap -/
theorem keepNew {H : Hp} {p : Addr} {u : HO} (n : H p = none) : ∀ b o, H b = some o → upd H p u b = some o := fun b o e => by rw [upd_ne (ne_of_none e n)]; exact e
theorem After.grow {H : Hp} {θ : List Addr} {p : Addr} {u : HO} (n : H p = none) : After H θ (upd H p u) (θ ++ [p]) :=
  ⟨List.prefix_append _ _, fun b o e _ => keepNew n b o e, fun b o e _ _ => keepNew n b o e, fun b ps e => ⟨ps, keepNew n b _ e⟩, fun x hx hn => by
    rcases List.mem_append.mp hx with q | q
    · exact absurd q hn
    · have : x = p := by simpa using q
      rw [this]; exact n⟩
theorem After.side {H : Hp} {θ : List Addr} {p : Addr} {u : HO} (n : H p = none) : After H θ (upd H p u) θ := (After.grow (u := u) n).drop
theorem Rel.mem {C : Cfg} {H : Hp} {θ : List Addr} {h : Heap} (rl : Rel C H θ h) {a : Addr} (m : a ∈ θ) : ∃ (i : Nat) (o : Ob), θ[i]? = some a ∧ h[i]? = some o ∧ RO C H θ a o := by
  obtain ⟨i, hi, e⟩ := List.getElem_of_mem m
  have e' : θ[i]? = some a := by simp [hi, e]
  obtain ⟨o, eo, r⟩ := rl.get e'
  exact ⟨i, o, e', eo, r⟩

/-- what the objects of the evaluator may be in the layer -/
def Own : HO → Prop
  | .lst _ | .dK _ | .ins _ _ _ => True
  | _ => False
theorem RO.own {C : Cfg} {H : Hp} {θ : List Addr} {a : Addr} {o : Ob} (r : RO C H θ a o) : ∃ u, H a = some u ∧ Own u := by
  cases o with
  | lst vs => obtain ⟨ws, h, _⟩ := r; exact ⟨_, h, True.intro⟩
  | dct kvs => exact ⟨_, r.2, True.intro⟩
  | ins c fs => obtain ⟨dx, gs, h, _⟩ := r; exact ⟨_, h, True.intro⟩
theorem Rel.there {C : Cfg} {H : Hp} {θ : List Addr} {h : Heap} (rl : Rel C H θ h) {a : Addr} (m : a ∈ θ) : ∃ u, H a = some u ∧ Own u := by
  obtain ⟨_, _, _, _, r⟩ := rl.mem m
  exact r.own
theorem Rel.fresh {C : Cfg} {H : Hp} {θ : List Addr} {h : Heap} (rl : Rel C H θ h) {p : Addr} (n : H p = none) : p ∉ θ := fun m => by
  obtain ⟨u, e, _⟩ := rl.there m
  rw [n] at e; cases e
/-- a new object of the layer that the evaluator does not see -/
theorem Rel.side {C : Cfg} {H : Hp} {θ : List Addr} {h : Heap} (rl : Rel C H θ h) {p : Addr} {u : HO} (n : H p = none) : Rel C (upd H p u) θ h :=
  ⟨rl.len, rl.nd, fun i o e => let ⟨a, ea, r⟩ := rl.ob i o e; ⟨a, ea, r.after (After.side n).ext fun _ z => keepNew n _ _ z⟩, rl.tab.ext (keepNew n), C.stab (After.side n) rl.iv⟩
theorem Rel.push {C : Cfg} {H : Hp} {θ : List Addr} {h : Heap} (rl : Rel C H θ h) {p : Addr} {u : HO} {ob : Ob} (n : H p = none) (r : RO C (upd H p u) (θ ++ [p]) p ob) : Rel C (upd H p u) (θ ++ [p]) (h ++ [ob]) := by
  have hp := rl.fresh n
  refine ⟨by simp [rl.len], ?_, fun i o e => ?_, rl.tab.ext (keepNew n), C.stab (After.grow n) rl.iv⟩
  · rw [List.nodup_append]
    refine ⟨rl.nd, by simp, fun x hx y hy => ?_⟩
    have : y = p := by simpa using hy
    subst this
    exact fun q => hp (q ▸ hx)
  · by_cases hi : i < h.length
    · rw [List.getElem?_append_left hi] at e
      obtain ⟨a, ea, r⟩ := rl.ob i o e
      exact ⟨a, pre_get (List.prefix_append _ _) ea, r.after (After.grow n).ext fun _ z => keepNew n _ _ z⟩
    · rw [List.getElem?_append_right (by omega)] at e
      have hi0 : i - h.length = 0 := by
        have := (List.getElem?_eq_some_iff.mp e).1
        simp only [List.length_singleton] at this; omega
      rw [hi0] at e
      cases e
      refine ⟨p, ?_, r⟩
      rw [List.getElem?_append_right (by rw [rl.len]; omega), rl.len, hi0]
      rfl
/-- an object of ours is written -/
theorem After.write {C : Cfg} {H : Hp} {θ : List Addr} {h : Heap} (rl : Rel C H θ h) {a : Addr} {u : HO} (m : a ∈ θ) : After H θ (upd H a u) θ := by
  obtain ⟨u0, e0, ow⟩ := rl.there m
  have ne : ∀ b o, H b = some o → ¬ Own o → b ≠ a := fun b o e n z => by rw [z, e0] at e; cases e; exact n ow
  refine ⟨List.prefix_refl _, fun b o e i => ?_, fun b o e n _ => ?_, fun b ps e => ⟨ps, ?_⟩, fun _ h n => absurd h n⟩
  · rw [upd_ne (ne b o e fun q => by cases o <;> first | exact i | exact q)]; exact e
  · rw [upd_ne (fun z => by rw [z] at n; exact n m)]; exact e
  · rw [upd_ne (ne b _ e (fun q => q))]; exact e
theorem tabs_write {T : List (Addr × Str)} {H : Hp} {a : Addr} {u u0 : HO} (e0 : H a = some u0) (ow : Own u0) (t : LamX.Tabs T H) : LamX.Tabs T (upd H a u) := fun p hp => by
  obtain ⟨ps, h1, h2, h3⟩ := t p hp
  have n1 : p.1 ≠ a := fun z => by rw [z, e0] at h1; cases h1; exact ow
  refine ⟨ps, by rw [upd_ne n1]; exact h1, h2, fun pos cv hc => ?_⟩
  obtain ⟨c, ec, eo⟩ := h3 pos cv hc
  refine ⟨c, ec, ?_⟩
  have n2 : c ≠ a := fun z => by rw [z, e0] at eo; cases eo; exact ow
  rw [upd_ne n2]; exact eo
theorem Rel.write {C : Cfg} {H : Hp} {θ : List Addr} {h : Heap} (rl : Rel C H θ h) {a : Addr} {u : HO} {i : Nat} {ob : Ob} (e : θ[i]? = some a) (r : RO C (upd H a u) θ a ob) : Rel C (upd H a u) θ (h.set i ob) := by
  have m : a ∈ θ := List.mem_of_getElem? e
  obtain ⟨u0, e0, ow⟩ := rl.there m
  refine ⟨by simp [rl.len], rl.nd, fun j o ej => ?_, tabs_write e0 ow rl.tab, C.stab (After.write rl m) rl.iv⟩
  by_cases hij : i = j
  · subst hij
    have hi : i < h.length := by
      have := (List.getElem?_eq_some_iff.mp ej).1
      simpa using this
    rw [List.getElem?_set_self hi] at ej
    cases ej
    exact ⟨a, e, r⟩
  · rw [List.getElem?_set_ne hij] at ej
    obtain ⟨b, eb, rb⟩ := rl.ob j o ej
    have hb : b ≠ a := fun z => by
      subst z
      obtain ⟨h1, e1⟩ := List.getElem?_eq_some_iff.mp e
      obtain ⟨h2, e2⟩ := List.getElem?_eq_some_iff.mp eb
      exact hij ((List.getElem_inj rl.nd).mp (e1.trans e2.symm))
    exact ⟨b, eb, rb.after (After.write rl m).ext fun v z => by rw [upd_ne hb]; exact z⟩

/-! ### ends by values -/
variable {C : Cfg} {H : Hp} {θ : List Addr} {h : Heap} {Q : VK} {E : Value → Option Addr → Hp → Prop}
theorem GO.val {v : Val} (rl : Rel C H θ h) (g : GO C H θ (.ok v h) (VR C Q) E) {w : V} (r : RV C.K H θ v w) : Q w H := g H θ (After.refl _ _) rl w r
/-- a new list -/
theorem GO.newL {vs : List Val} {ws : List V} (rl : Rel C H θ h) (g : GO C H θ (.ok (.ref h.length) (h ++ [.lst vs])) (VR C Q) E) (r : RVs C.K H θ vs ws) {p : Addr} (n : H p = none) : Q (.ref p) (upd H p (.lst ws)) := by
  refine g _ (θ ++ [p]) (After.grow n) (rl.push n ⟨ws, upd_same, RVs.after (After.grow n).ext _ _ r⟩) _ ⟨p, rfl, ?_⟩
  rw [← rl.len]; simp
/-- a new tuple -/
theorem GO.newT {vs : List Val} {ws : List V} (rl : Rel C H θ h) (g : GO C H θ (.ok (.tup vs) h) (VR C Q) E) (r : RVs C.K H θ vs ws) {p : Addr} (n : H p = none) : Q (.ref p) (upd H p (.tup ws)) :=
  g _ θ (After.side n) (rl.side n) _ ⟨p, ws, rfl, .of upd_same, RVs.after (After.side n).ext _ _ r⟩

/-! ### the items of a value -/
theorem lst_inv {v : Val} {vs : List Val} (e : lst? h v = some vs) : ∃ n, v = .ref n ∧ h[n]? = some (.lst vs) := by
  unfold lst? at e
  split at e
  · rename_i n
    split at e
    · rename_i ws q; cases e; exact ⟨n, rfl, q⟩
    · cases e
  · cases e
theorem lst_rv {v : Val} {vs : List Val} {x : V} (rl : Rel C H θ h) (r : RV C.K H θ v x) (e : lst? h v = some vs) : ∃ a ws, x = .ref a ∧ H a = some (.lst ws) ∧ RVs C.K H θ vs ws := by
  obtain ⟨n, rfl, q⟩ := lst_inv e
  obtain ⟨a, rfl, t⟩ := r
  obtain ⟨b, eb, ws, hb, rv⟩ := rl.ob n _ q
  rw [t] at eb; cases eb
  exact ⟨a, ws, rfl, hb, rv⟩
theorem items_rv {v : Val} {vs : List Val} {x : V} (rl : Rel C H θ h) (r : RV C.K H θ v x) (e : items? h v = some vs) : ∃ a ws, x = .ref a ∧ (SqL C.K H a ws ∨ SqT C.K H a ws) ∧ RVs C.K H θ vs ws := by
  cases v with
  | tup us => cases e; obtain ⟨a, ws, e, s, r⟩ := r; exact ⟨a, ws, e, .inr s, r⟩
  | scr us => cases e; obtain ⟨a, ws, e, s, r⟩ := r; exact ⟨a, ws, e, .inl s.list, r⟩
  | ref n =>
    obtain ⟨a, ws, e, s, r⟩ := lst_rv rl r (show lst? h (.ref n) = some vs from e)
    exact ⟨a, ws, e, .inl (.of s), r⟩
  | _ => cases e

/-! ### operators -/
def rV2 (C : Cfg) (f : Val → Val → Heap → Out Val) : R2 := fun x y H Q => ∃ θ h v w E, Rel C H θ h ∧ RV C.K H θ v x ∧ RV C.K H θ w y ∧ GO C H θ (f v w h) (VR C Q) E
def opOf : BOp → Operator
  | .add => .Add | .sub => .Sub | .mul => .Mult | .fdiv => .FloorDiv | .mod => .Mod | .pow => .Pow
theorem OpR.weak {X : Cx} {f : Value → Value → Sem Value} {r r' : R2} (o : OpR X f r) (w : ∀ x y H Q, r' x y H Q → r x y H Q) : OpR X f r' := fun pins s σ H x y v u Q I rx ry q => o pins s σ H x y v u Q I rx ry (w _ _ _ _ q)

theorem line_eq : sizeLine = 16777216 := by decide

theorem op_fdivA {X : Cx} : OpR X (binaryOp .FloorDiv) (rI (fun _ j => j ≠ 0 ∧ j.natAbs.log2 < 9000) fun i j => .int (i.fdiv j)) := opI fun i j _ _ _ _ _ hc q => floordiv_int hc.1 q (.inl (PyProof.noPylong_of_log2 hc.2))

theorem RVs.nil_iff {K : PySem.W.Frag} {vs : List Val} {ws : List V} (r : RVs K H θ vs ws) : ws = [] ↔ vs = [] := by
  have := RVs.length r
  constructor
  · rintro rfl; exact List.length_eq_zero_iff.mp this.symm
  · rintro rfl; exact List.length_eq_zero_iff.mp this
theorem GO.tup {vs : List Val} {a : Addr} {ws : List V} (rl : Rel C H θ h) (g : GO C H θ (.ok (.tup vs) h) (VR C Q) E) (s : SqT C.K H a ws) (r : RVs C.K H θ vs ws) : Q (.ref a) H := GO.val rl g ⟨a, ws, rfl, s, r⟩
theorem GO.bad {α : Type} {R : α → Heap → Hp → List Addr → Prop} {P : Prop} (g : GO C H θ (.bad : Out α) R E) : P := False.elim g

theorem RVs.rep {K : PySem.W.Frag} {vs : List Val} {ws : List V} (r : RVs K H θ vs ws) : ∀ n : Nat, RVs K H θ (List.replicate n vs).flatten (List.replicate n ws).flatten
  | 0 => rfl
  | n + 1 => by
    rw [List.replicate_succ, List.replicate_succ, List.flatten_cons, List.flatten_cons]
    exact r.append (RVs.rep r n)

theorem bin_ok {X : Cx} (hK : X.K = C.K) (o : BOp) : OpR X (binaryOp (opOf o)) (rV2 C (bin o)) := by
  intro pins s σ H x y v u Q I rx ry ⟨θ, h, a, b, E, rl, ra, rb, g⟩
  unfold bin at g
  split at g
  · rename_i i j
    cases ra; cases rb
    cases o with
    | add => exact op_add pins s σ H _ _ v u Q I rx ry ⟨i, j, rfl, rfl, GO.val rl g rfl⟩
    | sub => exact op_sub pins s σ H _ _ v u Q I rx ry ⟨i, j, rfl, rfl, GO.val rl g rfl⟩
    | mul =>
      simp only [binI] at g
      split at g
      · rename_i c; exact op_mulW pins s σ H _ _ v u Q I rx ry ⟨i, j, rfl, rfl, c, GO.val rl g rfl⟩
      · exact g.elim
    | fdiv =>
      simp only [binI] at g
      split at g
      · rename_i c; exact op_fdivA pins s σ H _ _ v u Q I rx ry ⟨i, j, rfl, rfl, c, GO.val rl g rfl⟩
      · exact g.elim
    | mod =>
      simp only [binI] at g
      split at g
      · rename_i c; exact op_modN pins s σ H _ _ v u Q I rx ry ⟨i, j, rfl, rfl, c, GO.val rl g rfl⟩
      · exact g.elim
    | pow =>
      simp only [binI] at g
      split at g
      · rename_i c; exact op_pow pins s σ H _ _ v u Q I rx ry ⟨i, j, rfl, rfl, c, GO.val rl g rfl⟩
      · exact g.elim
  · rename_i z t
    cases ra; cases rb
    split at g
    · rename_i c; exact op_add_str pins s σ H _ _ v u Q I rx ry ⟨z, t, rfl, rfl, by rw [line_eq]; exact c, GO.val rl g rfl⟩
    · exact g.elim
  · rename_i vs ws
    obtain ⟨p, xs, rfl, sp, rp⟩ := ra
    obtain ⟨q, ys, rfl, sq, rq⟩ := rb
    split at g
    · rename_i c
      refine op_catA pins s σ H _ _ v u Q I rx ry ⟨p, q, xs, ys, rfl, rfl, hK ▸ sp, hK ▸ sq, by rw [line_eq, RVs.length rp, RVs.length rq]; exact c, fun e => ?_, fun _ e => ?_, fun _ _ r n => ?_⟩
      · have e' := (RVs.nil_iff rp).mp e
        subst e'
        exact GO.tup rl g sq rq
      · have e' := (RVs.nil_iff rq).mp e
        subst e'
        rw [List.append_nil] at g
        exact GO.tup rl g sp rp
      · exact GO.newT rl g (rp.append rq) n
    · exact g.elim
  · rename_i m k
    split at g
    · rename_i vs ws e1 e2
      obtain ⟨p, xs, rfl, sp, rp⟩ := lst_rv rl ra e1
      obtain ⟨q, ys, rfl, sq, rq⟩ := lst_rv rl rb e2
      split at g
      · rename_i c
        exact op_cat pins s σ H _ _ v u Q I rx ry ⟨p, q, xs, ys, rfl, rfl, sp, sq, by rw [line_eq, RVs.length rp, RVs.length rq]; exact c, fun r n => GO.newL rl g (rp.append rq) n⟩
      · exact g.elim
    · exact g.elim
  · rename_i m k
    split at g
    · rename_i vs e1
      obtain ⟨p, xs, rfl, sp, rp⟩ := lst_rv rl ra e1
      cases rb
      split at g
      · rename_i c
        exact op_rep pins s σ H _ _ v u Q I rx ry ⟨p, k, xs, rfl, rfl, sp, c.1, c.2.1, by rw [line_eq, RVs.length rp]; exact c.2.2, fun r n => GO.newL rl g (RVs.rep rp _) n⟩
      · exact g.elim
    · exact g.elim
  · exact g.elim

/-! ### equality -/
mutual
def dat : Val → PyData
  | .non => .none
  | .bl b => .bool b
  | .int i => .int i
  | .str s => .str s
  | .tup vs => .tuple (dats vs)
  | .ref _ => .none
  | .scr _ => .none
def dats : List Val → List PyData
  | [] => []
  | v :: vs => dat v :: dats vs
end
mutual
theorem veq_dat : ∀ (v w : Val) (n m : Nat), v.eqb n = true → w.eqb m = true → PyData.eqv (dat v) (dat w) = veq v w
  | .non, w, _, _, _, f => by cases w <;> simp_all [dat, PyData.eqv, veq, Val.eqb]
  | .bl a, w, _, _, _, f => by cases w <;> simp_all [dat, PyData.eqv, veq, Val.eqb, b2i]
  | .int i, w, _, _, _, f => by cases w <;> simp_all [dat, PyData.eqv, veq, Val.eqb, b2i]
  | .str x, w, _, _, _, f => by cases w <;> simp_all [dat, PyData.eqv, veq, Val.eqb]
  | .tup vs, .tup ws, n, m, e, f => by
    cases n with
    | zero => simp [Val.eqb] at e
    | succ n =>
      cases m with
      | zero => simp [Val.eqb] at f
      | succ m =>
        simp only [dat, PyData.eqv, veq]
        exact veqs_dat vs ws n m (by simpa [Val.eqb] using e) (by simpa [Val.eqb] using f)
  | .tup vs, .non, _, _, _, _ => by simp [dat, PyData.eqv, veq]
  | .tup vs, .bl _, _, _, _, _ => by simp [dat, PyData.eqv, veq]
  | .tup vs, .int _, _, _, _, _ => by simp [dat, PyData.eqv, veq]
  | .tup vs, .str _, _, _, _, _ => by simp [dat, PyData.eqv, veq]
  | .tup vs, .ref _, _, m, _, f => by cases m <;> simp [Val.eqb] at f
  | .tup vs, .scr _, _, m, _, f => by cases m <;> simp [Val.eqb] at f
  | .ref _, _, n, _, e, _ => by cases n <;> simp [Val.eqb] at e
  | .scr _, _, n, _, e, _ => by cases n <;> simp [Val.eqb] at e
theorem veqs_dat : ∀ (vs ws : List Val) (n m : Nat), eqbs n vs = true → eqbs m ws = true → PyData.eqvAll (dats vs) (dats ws) = veqs vs ws
  | [], [], _, _, _, _ => by simp [dats, PyData.eqvAll, veqs]
  | [], _ :: _, _, _, _, _ => by simp [dats, PyData.eqvAll, veqs]
  | _ :: _, [], _, _, _, _ => by simp [dats, PyData.eqvAll, veqs]
  | v :: vs, w :: ws, n, m, e, f => by
    have e' : v.eqb n = true ∧ eqbs n vs = true := by simpa [eqbs] using e
    have f' : w.eqb m = true ∧ eqbs m ws = true := by simpa [eqbs] using f
    simp only [dats, PyData.eqvAll, veqs, veq_dat v w n m e'.1 f'.1, veqs_dat vs ws n m e'.2 f'.2]
end
mutual
theorem shape_dat : ∀ (v : Val) (n : Nat), v.eqb n = true → (dat v).canLay0 = true ∧ (dat v).depth ≤ n
  | .non, _, _ => by simp [dat, PyData.canLay0, PyData.depth]
  | .bl _, _, _ => by simp [dat, PyData.canLay0, PyData.depth]
  | .int _, _, _ => by simp [dat, PyData.canLay0, PyData.depth]
  | .str s, n, e => by
    refine ⟨?_, by simp [dat, PyData.depth]⟩
    have : (s.cps.all (· < 0x110000)) = true := by cases n <;> simpa [Val.eqb] using e
    simpa [dat, PyData.canLay0, PyData.strOk] using this
  | .tup vs, n, e => by
    cases n with
    | zero => simp [Val.eqb] at e
    | succ n =>
      have := shapes_dat vs n (by simpa [Val.eqb] using e)
      exact ⟨by simpa [dat, PyData.canLay0] using this.1, by simp only [dat, PyData.depth]; omega⟩
  | .ref _, n, e => by cases n <;> simp [Val.eqb] at e
  | .scr _, n, e => by cases n <;> simp [Val.eqb] at e
theorem shapes_dat : ∀ (vs : List Val) (n : Nat), eqbs n vs = true → PyData.canLayAll0 (dats vs) = true ∧ PyData.depthAll (dats vs) ≤ n
  | [], _, _ => by simp [dats, PyData.canLayAll0, PyData.depthAll]
  | v :: vs, n, e => by
    have e' : v.eqb n = true ∧ eqbs n vs = true := by simpa [eqbs] using e
    have h1 := shape_dat v n e'.1
    have h2 := shapes_dat vs n e'.2
    exact ⟨by simp [dats, PyData.canLayAll0, h1.1, h2.1], by simp only [dats, PyData.depthAll]; omega⟩
end
mutual
theorem dp_dat : ∀ (v : Val) (n : Nat) (x : V), v.eqb n = true → RV C.K H θ v x → Dp C.K H x (dat v)
  | .non, _, _, _, r => by cases r; exact .non
  | .bl _, _, _, _, r => by cases r; exact .bl _
  | .int _, _, _, _, r => by cases r; exact .int _
  | .str _, _, _, _, r => by cases r; exact .str _
  | .tup vs, n, _, e, ⟨a, ws, ex, s, r⟩ => by
    subst ex
    cases n with
    | zero => simp [Val.eqb] at e
    | succ n => exact .tup s (dps_dat vs n ws (by simpa [Val.eqb] using e) r)
  | .ref _, n, _, e, _ => by cases n <;> simp [Val.eqb] at e
  | .scr _, n, _, e, _ => by cases n <;> simp [Val.eqb] at e
theorem dps_dat : ∀ (vs : List Val) (n : Nat) (xs : List V), eqbs n vs = true → RVs C.K H θ vs xs → DpAll C.K H xs (dats vs)
  | [], _, _, _, r => by cases r; exact .nil
  | v :: vs, n, _, e, ⟨w, r, ex, a, b⟩ => by
    subst ex
    have e' : v.eqb n = true ∧ eqbs n vs = true := by simpa [eqbs] using e
    exact .cons (dp_dat v n w e'.1 a) (dps_dat vs n r e'.2 b)
end
theorem shaped_dat {v : Val} (e : v.eqb 60 = true) : SeqAt.shaped (dat v) = true := by
  have h := shape_dat v 60 e
  simp only [SeqAt.shaped, h.1, Bool.true_and, decide_eq_true_eq]
  omega
theorem shaped_list {vs : List Val} (e : eqbs 60 vs = true) : SeqAt.shaped (.list (dats vs)) = true := by
  have h := shapes_dat vs 60 e
  unfold SeqAt.shaped
  rw [Bool.and_eq_true]
  exact ⟨by simpa [PyData.canLay0] using h.1, decide_eq_true (by simp only [PyData.depth]; omega)⟩
theorem shaped_tup {vs : List Val} (e : eqbs 60 vs = true) : SeqAt.shaped (.tuple (dats vs)) = true := by
  have h := shapes_dat vs 60 e
  unfold SeqAt.shaped
  rw [Bool.and_eq_true]
  exact ⟨by simpa [PyData.canLay0] using h.1, decide_eq_true (by simp only [PyData.depth]; omega)⟩
/-- the two sides of == as data -/
theorem heq_data {x y : Val} {u v : V} {b : Bool} (rl : Rel C H θ h) (rx : RV C.K H θ x u) (ry : RV C.K H θ y v) (e : heq h x y = some b) :
    ∃ d f, Dp C.K H u d ∧ Dp C.K H v f ∧ SeqAt.shaped d = true ∧ SeqAt.shaped f = true ∧ PyData.eqv d f = b := by
  unfold heq at e
  split at e
  · rename_i c
    cases e
    exact ⟨_, _, dp_dat x 60 u c.1 rx, dp_dat y 60 v c.2 ry, shaped_dat c.1, shaped_dat c.2, veq_dat x y 60 60 c.1 c.2⟩
  · split at e
    · rename_i vs ws e1 e2
      split at e
      · rename_i c
        cases e
        obtain ⟨p, xs, rfl, sp, rp⟩ := lst_rv rl rx e1
        obtain ⟨q, ys, rfl, sq, rq⟩ := lst_rv rl ry e2
        exact ⟨_, _, .lst (.of sp) (dps_dat vs 60 xs c.1 rp), .lst (.of sq) (dps_dat ws 60 ys c.2 rq), shaped_list c.1, shaped_list c.2, by simp only [PyData.eqv]; exact veqs_dat vs ws 60 60 c.1 c.2⟩
      · cases e
    · rename_i vs e1 e2
      split at e
      · rename_i c
        cases e
        obtain ⟨p, xs, rfl, sp, rp⟩ := lst_rv rl rx e1
        refine ⟨_, _, .lst (.of sp) (dps_dat vs 60 xs c.1 rp), dp_dat y 60 v c.2 ry, shaped_list c.1, shaped_dat c.2, ?_⟩
        cases y <;> simp [dat, PyData.eqv, Val.eqb] at c ⊢
      · cases e
    · rename_i ws e1 e2
      split at e
      · rename_i c
        cases e
        obtain ⟨q, ys, rfl, sq, rq⟩ := lst_rv rl ry e2
        refine ⟨_, _, dp_dat x 60 u c.2 rx, .lst (.of sq) (dps_dat ws 60 ys c.1 rq), shaped_dat c.2, shaped_list c.1, ?_⟩
        cases x <;> simp [dat, PyData.eqv, Val.eqb] at c ⊢
      · cases e
    · cases e

/-! ### comparisons -/
def cmpOf : COp → CmpOp
  | .eq => .Eq | .ne => .NotEq | .lt => .Lt | .le => .LtE | .gt => .Gt | .ge => .GtE | .is_ => .Is | .isnot => .IsNot | .in_ => .In | .notin => .NotIn
def rCmp (C : Cfg) (o : COp) : R2 := fun x y H Q => ∃ θ h v w b, Rel C H θ h ∧ RV C.K H θ v x ∧ RV C.K H θ w y ∧ cmpB o v w h = some b ∧ Q (.bl b) H
theorem eqvAny {x : Val} {vs : List Val} (hx : x.eqb 60 = true) (hv : eqbs 60 vs = true) : ((dats vs).any fun z => PyData.eqv z (dat x)) = vs.any fun v => veq v x := by
  induction vs with
  | nil => rfl
  | cons v vs ih =>
    have e' : v.eqb 60 = true ∧ eqbs 60 vs = true := by simpa [eqbs] using hv
    simp only [dats, List.any_cons, veq_dat v x 60 60 e'.1 hx, ih e'.2]
/-- x in a list or a tuple, by its data -/
theorem in_ok {X : Cx} (hK : X.K = C.K) (hu : X.A.units + 65 < cLine) {pins : List (Addr × Obj)} {s : Shared} {σ : L2.St} {v u : Value} {a : Val} {vs : List Val} {x : V} {q : Addr} {ys : List V} {b : Bool} {Q : VK} {neg : Bool}
    (I : L2.Inv X pins σ H s) (rx : L2.RelV x v) (ry : L2.RelV (V.ref q) u) (ra : RV C.K H θ a x) (sq : SqL C.K H q ys ∨ SqT C.K H q ys) (rq : RVs C.K H θ vs ys) (e : inList h a vs = some b) (k : Q (.bl (if neg then !b else b)) H) :
    wpAny (model X.prog X.w) X.A (compareOp (if neg then .NotIn else .In) v u) (EP X pins σ Q) X.xe s := by
  unfold inList at e
  split at e
  · rename_i c
    cases e
    rcases sq with sq | sq
    · cases neg with
      | false => exact op_inD hu pins s σ H x _ v u Q I rx ry ⟨_, _, hK ▸ dp_dat a 60 x c.1 ra, hK ▸ .lst sq (dps_dat vs 60 ys c.2 rq), shaped_dat c.1, shaped_list c.2, by rw [eqvAny c.1 c.2]; exact k⟩
      | true => exact op_notInD hu pins s σ H x _ v u Q I rx ry ⟨_, _, hK ▸ dp_dat a 60 x c.1 ra, hK ▸ .lst sq (dps_dat vs 60 ys c.2 rq), shaped_dat c.1, shaped_list c.2, by rw [eqvAny c.1 c.2]; exact k⟩
    · cases rry : ry
      obtain ⟨as, r1⟩ := Dp.reads I _ x v (hK ▸ dp_dat a 60 x c.1 ra) rx
      have dq : Dp X.K H (V.ref q) (.tuple (dats vs)) := by
        rw [hK]
        exact Dp.tup sq (dps_dat vs 60 ys c.2 rq)
      obtain ⟨bs, r2⟩ := Dp.reads I (.tuple (dats vs)) (V.ref q) (Value.ref q) dq rfl
      have room : X.A.units + 1 + min (PyData.depthAll (dats vs)) (dat a).depth < cLine := by
        have := (shape_dat a 60 c.1).2
        omega
      cases neg with
      | false => exact SeqAt.in_tuple_reads r2 r1 (shapes_dat vs 60 c.2).1 (shape_dat a 60 c.1).1 room (by rw [eqvAny c.1 c.2]; exact ⟨.bl _, H, I, rfl, k⟩)
      | true => exact SeqAt.notIn_tuple_reads r2 r1 (shapes_dat vs 60 c.2).1 (shape_dat a 60 c.1).1 room (by rw [eqvAny c.1 c.2]; exact ⟨.bl _, H, I, rfl, k⟩)
  · cases e
theorem neg_map {o : Option Bool} {b : Bool} (e : o.map (!·) = some b) : o = some (!b) := by
  cases o with
  | none => cases e
  | some c => simp at e; simp [← e]
theorem str1 {x : Str} {c : Nat} (e : x.cps.toList = [c]) : x = ⟨#[c]⟩ := by
  cases x with
  | mk a => cases a; simp at e; subst e; rfl
theorem cmp_ok {X : Cx} (hK : X.K = C.K) (hu : X.A.units + 65 < cLine) (o : COp) : OpR X (compareOp (cmpOf o)) (rCmp C o) := by
  intro pins s σ H x y v u Q I rx ry ⟨θ, h, a, b, t, rl, ra, rb, e, k⟩
  have hu64 : X.A.units + 64 < cLine := by omega
  have hin : ∀ {vs : List Val} {q : Addr} {ys : List V} {neg : Bool} {t' : Bool}, y = .ref q → (SqL C.K H q ys ∨ SqT C.K H q ys) → RVs C.K H θ vs ys → inList h a vs = some t' → t = (if neg then !t' else t') →
      wpAny (model X.prog X.w) X.A (compareOp (if neg then .NotIn else .In) v u) (EP X pins σ Q) X.xe s := by
    intro vs q ys neg t' ey sq rq e' et
    subst ey et
    exact in_ok hK hu I rx ry ra sq rq e' k
  unfold cmpB at e
  split at e
  · obtain ⟨d, f, h1, h2, h3, h4, h5⟩ := heq_data rl ra rb e
    exact op_eqD hu64 pins s σ H x y v u Q I rx ry ⟨d, f, hK ▸ h1, hK ▸ h2, h3, h4, by rw [h5]; exact k⟩
  · obtain ⟨d, f, h1, h2, h3, h4, h5⟩ := heq_data rl ra rb (neg_map e)
    exact op_neD hu64 pins s σ H x y v u Q I rx ry ⟨d, f, hK ▸ h1, hK ▸ h2, h3, h4, by rw [h5, Bool.not_not]; exact k⟩
  · cases ra; cases rb; cases e; exact op_lt pins s σ H _ _ v u Q I rx ry ⟨_, _, rfl, rfl, k⟩
  · cases ra; cases rb; cases e; exact op_le pins s σ H _ _ v u Q I rx ry ⟨_, _, rfl, rfl, k⟩
  · cases ra; cases rb; cases e; exact op_gt pins s σ H _ _ v u Q I rx ry ⟨_, _, rfl, rfl, k⟩
  · cases ra; cases rb; cases e; exact op_ge pins s σ H _ _ v u Q I rx ry ⟨_, _, rfl, rfl, k⟩
  · cases rb
    have z : t = decide (x = .non) := by
      cases a with
      | non => cases ra; cases e; rfl
      | bl _ => cases ra; cases e; rfl
      | int _ => cases ra; cases e; rfl
      | str _ => cases ra; cases e; rfl
      | tup _ => obtain ⟨p, ws, rfl, _⟩ := ra; cases e; rfl
      | ref _ => obtain ⟨p, rfl, _⟩ := ra; cases e; rfl
      | scr _ => obtain ⟨p, ws, rfl, _⟩ := ra; cases e; rfl
    exact op_isN pins s σ H _ _ v u Q I rx ry ⟨rfl, by rw [← z]; exact k⟩
  · cases rb
    have z : t = !decide (x = .non) := by
      cases a with
      | non => cases ra; cases e; rfl
      | bl _ => cases ra; cases e; rfl
      | int _ => cases ra; cases e; rfl
      | str _ => cases ra; cases e; rfl
      | tup _ => obtain ⟨p, ws, rfl, _⟩ := ra; cases e; rfl
      | ref _ => obtain ⟨p, rfl, _⟩ := ra; cases e; rfl
      | scr _ => obtain ⟨p, ws, rfl, _⟩ := ra; cases e; rfl
    exact op_notN pins s σ H _ _ v u Q I rx ry ⟨rfl, by rw [← z]; exact k⟩
  · rename_i p q
    cases ra; cases rb; cases e
    exact op_is_bl pins s σ H _ _ v u Q I rx ry ⟨p, q, rfl, rfl, by rw [← Bool.beq_eq_decide_eq]; exact k⟩
  · rename_i p q
    cases ra; cases rb; cases e
    exact op_isnot_bl pins s σ H _ _ v u Q I rx ry ⟨p, q, rfl, rfl, by rw [← Bool.beq_eq_decide_eq]; exact k⟩
  · obtain ⟨q, ys, ey, sq, rq⟩ := rb
    exact hin (neg := false) ey (.inr sq) rq e rfl
  · obtain ⟨q, ys, ey, sq, rq⟩ := rb
    exact hin (neg := true) ey (.inr sq) rq (neg_map e) (by simp)
  · rename_i n
    cases e1 : lst? h (.ref n) with
    | none => rw [e1] at e; cases e
    | some vs =>
      rw [e1] at e
      obtain ⟨q, ys, ey, sq, rq⟩ := lst_rv rl rb e1
      exact hin (neg := false) ey (.inl (.of sq)) rq e rfl
  · rename_i n
    cases e1 : lst? h (.ref n) with
    | none => rw [e1] at e; cases e
    | some vs =>
      rw [e1] at e
      obtain ⟨q, ys, ey, sq, rq⟩ := lst_rv rl rb e1
      exact hin (neg := true) ey (.inl (.of sq)) rq (neg_map e) (by simp)
  · cases ra; cases rb; cases e; exact op_lt_str pins s σ H _ _ v u Q I rx ry ⟨_, _, rfl, rfl, k⟩
  · rename_i z1 z2
    cases ra; cases rb
    unfold inSign at e
    split at e
    · rename_i c ec
      cases e
      have := str1 ec
      subst this
      exact op_in_sign pins s σ H _ _ v u Q I rx ry ⟨c, z2, rfl, rfl, k⟩
    · cases e
  · rename_i z1 z2
    cases ra; cases rb
    have e := neg_map e
    unfold inSign at e
    split at e
    · rename_i c ec
      have e' := Option.some.inj e
      have := str1 ec
      subst this
      exact op_notIn_sign pins s σ H _ _ v u Q I rx ry ⟨c, z2, rfl, rfl, by rw [e', Bool.not_not]; exact k⟩
    · cases e
  · cases e
end PM

set_option Elab.async false
set_option linter.all false
set_option maxRecDepth 100000
set_option maxHeartbeats 1000000
/-! PMblt: built-ins, subscripts, slices, methods, by values. -/
namespace PM
open PySem PySem.Spec PyProof.Rows L2
variable {C : Cfg} {H : Hp} {θ : List Addr} {h : Heap} {Q : VK} {E : Value → Option Addr → Hp → Prop}

def rB1 (C : Cfg) (o : B1) : List V → Hp → VK → Prop := fun xs H Q => ∃ x θ h v E, xs = [x] ∧ Rel C H θ h ∧ RV C.K H θ v x ∧ GO C H θ (bl1 o v h) (VR C Q) E
def rB2 (C : Cfg) (o : B2) : List V → Hp → VK → Prop := fun xs H Q => ∃ x y θ h v w E, xs = [x, y] ∧ Rel C H θ h ∧ RV C.K H θ v x ∧ RV C.K H θ w y ∧ GO C H θ (bl2 o v w h) (VR C Q) E
theorem CallR.weak {X : Cx} {f : Value} {r r' : List V → Hp → VK → Prop} (o : CallR X f r) (w : ∀ xs H Q, r' xs H Q → r xs H Q) : CallR X f r' := fun pins s σ H xs us Q I rs q => o pins s σ H xs us Q I rs (w _ _ _ q)

theorem bools_rv : ∀ {vs : List Val} {bs : List Bool} {ws : List V}, vs.mapM blOf = some bs → RVs C.K H θ vs ws → ws = bs.map V.bl
  | [], bs, ws, e, r => by cases r; simp at e; subst e; rfl
  | v :: vs, bs, ws, e, ⟨w, r, ew, a, b⟩ => by
    subst ew
    rw [List.mapM_cons] at e
    cases v with
    | bl c =>
      cases q : vs.mapM blOf with
      | none => simp [blOf, q] at e
      | some cs => simp [blOf, q] at e; subst e; cases a; simp [bools_rv q b]
    | _ => simp [blOf] at e
theorem ints_rv : ∀ {vs : List Val} {bs : List Int} {ws : List V}, vs.mapM intOf = some bs → RVs C.K H θ vs ws → ws = bs.map V.int
  | [], bs, ws, e, r => by cases r; simp at e; subst e; rfl
  | v :: vs, bs, ws, e, ⟨w, r, ew, a, b⟩ => by
    subst ew
    rw [List.mapM_cons] at e
    cases v with
    | int c =>
      cases q : vs.mapM intOf with
      | none => simp [intOf, q] at e
      | some cs => simp [intOf, q] at e; subst e; cases a; simp [ints_rv q b]
    | _ => simp [intOf] at e

/-- what stands behind the name of a built-in -/
def b1Val : B1 → Option Value
  | .len => some (.builtin "len") | .abs => some (.builtin "abs") | .all => some (.builtin "all") | .any => some (.builtin "any") | .sum => some (.builtin "sum")
  | .int => some (.type "int") | .bool => some (.type "bool") | .tuple => some (.type "tuple") | .list => some (.type "list")
  | _ => none
theorem bl1_ok {X : Cx} (hK : X.K = C.K) (hc : X.calm = true) {o : B1} {f : Value} (ef : b1Val o = some f) : CallR X f (rB1 C o) := by
  intro pins s σ H xs us Q I rs ⟨x, θ, h, v, E, e, rl, rv, g⟩
  subst e
  unfold bl1 at g
  split at g
  · cases ef
    cases rv
    split at g
    · rename_i z c
      exact call_len_str pins s σ H _ us Q I rs ⟨z, rfl, by rw [line_eq]; exact c, GO.val rl g rfl⟩
    · exact g.elim
  · cases ef
    split at g
    · rename_i vs e1
      obtain ⟨a, ws, rfl, sq, r⟩ := items_rv rl rv e1
      exact call_len_seq pins s σ H _ us Q I rs ⟨a, ws, rfl, by rw [hK]; exact sq, GO.val rl g (by rw [RVs.length r]; rfl)⟩
    · exact g.elim
  · cases ef; cases rv; exact call_abs pins s σ H _ us Q I rs ⟨_, rfl, GO.val rl g rfl⟩
  · cases ef; cases rv; exact call_int1 pins s σ H _ us Q I rs (.inl ⟨_, rfl, GO.val rl g rfl⟩)
  · rename_i b; cases ef; cases rv; exact call_int1 pins s σ H _ us Q I rs (.inr ⟨b, rfl, GO.val rl g (by cases b <;> rfl)⟩)
  · cases ef; cases rv; exact call_bool1 pins s σ H _ us Q I rs (.inr ⟨_, rfl, GO.val rl g rfl⟩)
  · cases ef
    obtain ⟨a, ws, rfl, sq, r⟩ := rv
    exact call_tuple_of pins s σ H _ us Q I rs ⟨a, ws, rfl, .inr ⟨by rw [hK]; exact sq, GO.tup rl g sq r⟩⟩
  · cases ef
    split at g
    · rename_i vs e1
      obtain ⟨a, ws, rfl, sq, r⟩ := lst_rv rl rv e1
      exact call_tuple_of pins s σ H _ us Q I rs ⟨a, ws, rfl, .inl ⟨.of sq, fun p n => GO.newT rl g r n⟩⟩
    · exact g.elim
  · cases ef
    split at g
    · rename_i vs e1
      obtain ⟨a, ws, rfl, sq, r⟩ := items_rv rl rv e1
      exact call_list_of pins s σ H _ us Q I rs ⟨a, ws, rfl, by rw [hK]; exact sq, fun p n => GO.newL rl g r n⟩
    · exact g.elim
  · cases ef
    split at g
    · rename_i bs e1
      cases e2 : lst? h v with
      | none => rw [e2] at e1; cases e1
      | some vs =>
        rw [e2] at e1
        obtain ⟨a, ws, rfl, sq, r⟩ := lst_rv rl rv e2
        have ew := bools_rv (show vs.mapM blOf = some bs from e1) r
        subst ew
        exact cr_all hc pins s σ H _ us Q I rs ⟨a, bs, rfl, .of sq, GO.val rl g rfl⟩
    · exact g.elim
  · cases ef
    split at g
    · rename_i bs e1
      cases e2 : lst? h v with
      | none => rw [e2] at e1; cases e1
      | some vs =>
        rw [e2] at e1
        obtain ⟨a, ws, rfl, sq, r⟩ := lst_rv rl rv e2
        have ew := bools_rv (show vs.mapM blOf = some bs from e1) r
        subst ew
        exact cr_any hc pins s σ H _ us Q I rs ⟨a, bs, rfl, .of sq, GO.val rl g rfl⟩
    · exact g.elim
  · cases ef
    split at g
    · rename_i bs e1
      cases e2 : lst? h v with
      | none => rw [e2] at e1; cases e1
      | some vs =>
        rw [e2] at e1
        obtain ⟨a, ws, rfl, sq, r⟩ := lst_rv rl rv e2
        have ew := ints_rv (show vs.mapM intOf = some bs from e1) r
        subst ew
        exact cr_sum hc pins s σ H _ us Q I rs ⟨a, bs, rfl, .of sq, GO.val rl g rfl⟩
    · exact g.elim
  · exact g.elim

def b2Val : B2 → Value
  | .min => .builtin "min" | .max => .builtin "max"
theorem bl2_ok {X : Cx} (hc : X.calm = true) (o : B2) : CallR X (b2Val o) (rB2 C o) := by
  intro pins s σ H xs us Q I rs ⟨x, y, θ, h, v, w, E, e, rl, rv, rw', g⟩
  subst e
  unfold bl2 at g
  split at g
  · cases rv; cases rw'; exact call_min2 hc pins s σ H _ us Q I rs ⟨_, _, rfl, GO.val rl g rfl⟩
  · cases rv; cases rw'; exact call_max2 hc pins s σ H _ us Q I rs ⟨_, _, rfl, GO.val rl g rfl⟩
  · exact g.elim

/-! ### isinstance -/
def tyName : Ty → Option String
  | .int => some "int" | .bool => some "bool" | .str => some "str" | .tuple => some "tuple" | .list => some "list" | .dict => some "dict" | .cls _ => none
theorem sqT_ty {K : PySem.W.Frag} {H : Hp} {a : Addr} {ws : List V} (s : SqT K H a ws) : TyX K H (.ref a) (.type "tuple") := by
  rcases s with (s | ⟨o, s⟩) | ⟨o, its, n, h1, h2, _⟩
  · exact .base (.tup s)
  · exact .fTuple s
  · exact .kTuple h1 h2
def rIsa (C : Cfg) (t : Ty) : List V → Hp → VK → Prop := fun xs H Q => ∃ x n θ h v b, tyName t = some n ∧ xs = [x, .ty n] ∧ Rel C H θ h ∧ RV C.K H θ v x ∧ isaB h v t = some b ∧ Q (.bl b) H
theorem isa_ok {X : Cx} (hK : X.K = C.K) (t : Ty) : CallR X (.builtin "isinstance") (rIsa C t) := by
  intro pins s σ H xs us Q I rs ⟨x, n, θ, h, v, b, en, e, rl, rv, eb, k⟩
  subst e
  have go : ∀ {m : String}, TyX X.K H x (.type m) → kitB m n = some b → wpAny (model X.prog X.w) X.A (PySem.call (.builtin "isinstance") us) (EP X pins σ Q) X.xe s := fun {m} ty kb =>
    call_isi pins s σ H _ us Q I rs ⟨x, .ty n, .type m, .type n, b, rfl, .ty n, ty, kit_ty kb, k⟩
  cases v with
  | non =>
    cases rv
    refine go (.base .non) ?_
    cases t <;> cases en <;> cases eb <;> decide +kernel
  | bl _ =>
    cases rv
    refine go (.base (.bl _)) ?_
    cases t <;> cases en <;> cases eb <;> decide +kernel
  | int _ =>
    cases rv
    refine go (.base (.int _)) ?_
    cases t <;> cases en <;> cases eb <;> decide +kernel
  | str _ =>
    cases rv
    refine go (.base (.str _)) ?_
    cases t <;> cases en <;> cases eb <;> decide +kernel
  | tup _ =>
    obtain ⟨a, ws, rfl, sq, _⟩ := rv
    refine go (hK ▸ sqT_ty sq) ?_
    cases t <;> cases en <;> cases eb <;> decide +kernel
  | scr _ => cases t <;> cases eb
  | ref m =>
    obtain ⟨a, rfl, ta⟩ := rv
    obtain ⟨o, eo, ro⟩ := rl.get ta
    simp only [isaB, eo] at eb
    cases o with
    | lst vs =>
      obtain ⟨ws, hw, _⟩ := ro
      refine go (.base (.lst hw)) ?_
      cases t <;> cases en <;> cases eb <;> decide +kernel
    | dct kvs =>
      refine go (.base (.dK ro.2)) ?_
      cases t <;> cases en <;> cases eb <;> decide +kernel
    | ins c fs => cases eb

/-! ### subscripts -/
theorem place_eq (n : Nat) (i : Int) : ixN n i = place n i := rfl
def rIdx (C : Cfg) : R2 := fun x y H Q => ∃ θ h v w E, Rel C H θ h ∧ RV C.K H θ v x ∧ RV C.K H θ w y ∧ GO C H θ (idxV v w h) (VR C Q) E
theorem idx_ok {X : Cx} (hK : X.K = C.K) : IxR X (rIdx C) := by
  intro value slice pins s σ H x y v u Q I rx ry ⟨θ, h, a, b, E, rl, ra, rb, g⟩ hs
  unfold idxV at g
  split at g
  · rename_i z i
    cases ra; cases rb
    split at g
    · rename_i c e1
      split at e1
      · rename_i hz
        exact ix_str value slice pins s σ H _ _ v u Q I rx ry ⟨z, i, c, rfl, rfl, by rw [line_eq]; exact hz, by unfold atI; rw [place_eq]; simpa [Str.length] using e1, GO.val rl g rfl⟩ hs
      · cases e1
    · exact g.elim
  · rename_i i _
    cases rb
    split at g
    · rename_i t e1
      cases e2 : items? h a with
      | none => rw [e2] at e1; cases e1
      | some vs =>
        rw [e2] at e1
        cases e3 : place vs.length i with
        | none => simp [e3] at e1
        | some k =>
          have e4 : vs[k]? = some t := by simpa [e3] using e1
          obtain ⟨p, ws, rfl, sq, r⟩ := items_rv rl ra e2
          obtain ⟨w, ew, rw'⟩ := r.get e4
          have hat : atI ws i = some w := by unfold atI; rw [place_eq, RVs.length r, e3]; exact ew
          rcases sq with sq | sq
          · exact ix_list value slice pins s σ H _ _ v u Q I rx ry ⟨p, ws, i, w, rfl, rfl, by rw [hK]; exact sq, hat, GO.val rl g rw'⟩ hs
          · exact ix_tup value slice pins s σ H _ _ v u Q I rx ry ⟨p, ws, i, w, rfl, rfl, by rw [hK]; exact sq, hat, GO.val rl g rw'⟩ hs
    · exact g.elim
  · exact g.elim

/-! ### slices -/
theorem clip_eq (n d : Nat) (o : Option Int) : HT.sIx n d o = clip n d o := by cases o <;> rfl
theorem cut_rv {vs : List Val} {ws : List V} (r : RVs C.K H θ vs ws) (l u : Option Int) : RVs C.K H θ (cutL vs l u) (cutV ws l u) := by
  unfold cutL cutV
  rw [clip_eq, clip_eq, RVs.length r]
  exact (r.drop _).take _
def rSli (C : Cfg) : V → Option Int → Option Int → Hp → VK → Prop := fun x lo hi H Q => ∃ θ h v vl vh E, part? vl = some lo ∧ part? vh = some hi ∧ Rel C H θ h ∧ RV C.K H θ v x ∧ GO C H θ (sliceV v vl vh h) (VR C Q) E
theorem sli_ok {X : Cx} (hK : X.K = C.K) : SlR X (rSli C) := by
  intro pins s σ H x v vl vu lo hi sl Q I rx hs pl pu ⟨θ, h, a, al, ah, E, el, eh, rl, ra, g⟩
  unfold sliceV at g
  rw [el, eh] at g
  dsimp only at g
  split at g
  · rename_i z
    cases ra
    split at g
    · rename_i hz
      exact sl_str pins s σ H _ v vl vu lo hi sl Q I rx hs pl pu ⟨z, rfl, by rw [line_eq]; exact hz, GO.val rl g (by
        show V.str (cutS z lo hi) = V.str _
        unfold cutS cutL
        rw [clip_eq, clip_eq, Array.length_toList]; rfl)⟩
    · exact g.elim
  · rename_i vs
    obtain ⟨p, ws, rfl, sq, r⟩ := ra
    have hlen := RVs.length r
    refine sl_tupA pins s σ H _ v vl vu lo hi sl Q I rx hs pl pu ⟨p, ws, rfl, by rw [hK]; exact sq, fun ⟨h1, h2⟩ => ?_, fun _ q n => GO.newT rl g (cut_rv r lo hi) n⟩
    have hw : cutV ws lo hi = ws := by
      unfold cutV
      rw [h1, h2]
      simp
    exact GO.tup rl g sq (hw ▸ cut_rv r lo hi)
  · split at g
    · rename_i vs e1
      obtain ⟨p, ws, rfl, sq, r⟩ := lst_rv rl ra e1
      exact sl_list pins s σ H _ v vl vu lo hi sl Q I rx hs pl pu ⟨p, ws, rfl, .of sq, fun q n => GO.newL rl g (cut_rv r lo hi) n⟩
    · exact g.elim

/-! ### stores -/
def rSetI (C : Cfg) : V → V → V → Hp → (Hp → Prop) → Prop := fun o i v H Q => ∃ θ h a b c E, Rel C H θ h ∧ RV C.K H θ a o ∧ RV C.K H θ b i ∧ RV C.K H θ c v ∧ GO C H θ (setIx a b c h) (fun _ _ H' _ => Q H') E
theorem set_ok {X : Cx} : PSet X (rSetI C) := by
  intro pins s σ H o i v ov iv u Q I ro ri rv ⟨θ, h, a, b, c, E, rl, ra, rb, rc, g⟩
  unfold setIx at g
  split at g
  · rename_i n k
    cases rb
    obtain ⟨p, rfl, tp⟩ := ra
    split at g
    · rename_i vs e1
      split at g
      · rename_i j e2
        obtain ⟨p', ep, ws, hw, r⟩ := rl.ob n _ e1
        rw [tp] at ep; cases ep
        refine set_list pins s σ H _ _ v ov iv u Q I ro ri rv ⟨p, ws, k, j, rfl, rfl, hw, by rw [place_eq, RVs.length r]; exact e2, ?_⟩
        have m : p ∈ θ := List.mem_of_getElem? tp
        have af := After.write (u := .lst (ws.set j v)) rl m
        exact g _ θ af (rl.write tp ⟨_, upd_same, RVs.after af.ext _ _ (RVs.set rc j r)⟩)
      · exact g.elim
    · exact g.elim
  · exact g.elim

/-! ### methods -/
def rApp (C : Cfg) : V → List V → Hp → VK → Prop := fun x vs H Q => ∃ y θ h a b E, vs = [y] ∧ Rel C H θ h ∧ RV C.K H θ a x ∧ RV C.K H θ b y ∧ GO C H θ (appV a b h) (VR C Q) E
theorem app_ok {X : Cx} : MtR X "list.append" (rApp C) := by
  intro pins s σ H x xs v us Q I rx rs ⟨y, θ, h, a, b, E, e, rl, ra, rb, g⟩
  subst e
  unfold appV at g
  split at g
  · rename_i n
    obtain ⟨p, rfl, tp⟩ := ra
    split at g
    · rename_i vs e1
      split at g
      · rename_i c
        obtain ⟨p', ep, ws, hw, r⟩ := rl.ob n _ e1
        rw [tp] at ep; cases ep
        refine mt_append pins s σ H _ _ v us Q I rx rs ⟨p, ws, y, rfl, rfl, hw, by rw [line_eq, RVs.length r]; exact c, ?_⟩
        have m : p ∈ θ := List.mem_of_getElem? tp
        have af := After.write (u := .lst (ws ++ [y])) rl m
        exact g _ θ af (rl.write tp ⟨_, upd_same, RVs.after af.ext _ _ (r.append ⟨y, [], rfl, rb, rfl⟩)⟩) _ rfl
      · exact g.elim
    · exact g.elim
  · exact g.elim
/-- what the receiver of append is -/
theorem app_ty {K : PySem.W.Frag} {a b : Val} {x : V} (hK : K = C.K) (rl : Rel C H θ h) (ra : RV C.K H θ a x) (g : GO C H θ (appV a b h) (VR C Q) E) : ∃ p ws, x = .ref p ∧ H p = some (.lst ws) := by
  unfold appV at g
  split at g
  · rename_i n
    obtain ⟨p, rfl, tp⟩ := ra
    split at g
    · rename_i vs e1
      obtain ⟨p', ep, ws, hw, r⟩ := rl.ob n _ e1
      rw [tp] at ep; cases ep
      exact ⟨p, ws, rfl, hw⟩
    · exact g.elim
  · exact g.elim
end PM

set_option Elab.async false
set_option linter.all false
set_option maxRecDepth 100000
set_option maxHeartbeats 1000000
/-! PMexp: expressions. -/
namespace PM
open PySem PySem.Spec PyProof.Rows L2
section
variable {C : Cfg} {X : Cx} {cg : Caught} {W : WX}

/-- a value in hand is the reading's -/
theorem LE.pure {f : PM.Env → Heap → Out Val} {σ : L2.St} {H : Hp} {Q : VK} {θ : List Addr} {ρ : PM.Env} {h : Heap} (re : RE C cg H θ ρ σ) (rl : Rel C H θ h) (g : GO C H θ (f ρ h) (VR C Q) (fun cls d H' => W cls d σ H')) : LE C cg W f σ H Q := ⟨θ, ρ, h, re, rl, g⟩

/-- a step: from the whole's outcome to its first part -/
theorem LE.step {f : PM.Env → Heap → Out Val} {k : Val → Heap → Out Val} {σ : L2.St} {H : Hp} {Q : VK} {P : V → Hp → Prop} {θ : List Addr} {ρ : PM.Env} {h : Heap} (re : RE C cg H θ ρ σ) (rl : Rel C H θ h)
    (g : GO C H θ ((f ρ h).bind k) (VR C Q) (fun cls d H' => W cls d σ H'))
    (n : ∀ v h1 H1 θ1 w, After H θ H1 θ1 → RE C cg H1 θ1 ρ σ → Rel C H1 θ1 h1 → RV C.K H1 θ1 v w → GO C H1 θ1 (k v h1) (VR C Q) (fun cls d H' => W cls d σ H') → P w H1) : LE C cg W f σ H P :=
  ⟨θ, ρ, h, re, rl, (GO.bind g).imp fun v h1 H1 θ1 af rl1 g1 w rv => n v h1 H1 θ1 w af (re.after af) rl1 rv g1⟩
theorem LT.step {f : PM.Env → Heap → Out Val} {k : Bool → Heap → Out Val} {σ : L2.St} {H : Hp} {Q : VK} {P : Bool → Hp → Prop} {θ : List Addr} {ρ : PM.Env} {h : Heap} (re : RE C cg H θ ρ σ) (rl : Rel C H θ h)
    (g : GO C H θ ((toB (f ρ h)).bind k) (VR C Q) (fun cls d H' => W cls d σ H'))
    (n : ∀ b h1 H1 θ1, After H θ H1 θ1 → RE C cg H1 θ1 ρ σ → Rel C H1 θ1 h1 → GO C H1 θ1 (k b h1) (VR C Q) (fun cls d H' => W cls d σ H') → P b H1) : LT C cg W f σ H P :=
  ⟨θ, ρ, h, re, rl, (GO.bind g).imp fun b h1 H1 θ1 af rl1 g1 => n b h1 H1 θ1 af (re.after af) rl1 g1⟩

/-! ### names, constants -/
noncomputable def varF (i : Nat) : PM.Env → Heap → Out Val := fun ρ h => match ρ[i]? with
  | some (.v v) => .ok v h
  | _ => .bad
theorem je_var {i : Nat} {x : Str} {pos : Pos} (hN : X.N[i]? = some x) (hv : Vis X.env.scope x) (hd : (x == ("__debug__" : Str)) = false) (hcd : (x == ("__classdict__" : Str)) = false) : PE X (.Name x pos) (LE C cg W (varF i)) := by
  refine (pe_var hN hv hd hcd).weak fun σ H Q ⟨θ, ρ, h, re, rl, g⟩ => ?_
  unfold varF at g
  split at g
  · rename_i v e
    obtain ⟨w, ew, rv⟩ := re.get e
    exact ⟨w, ew, GO.val rl g rv⟩
  · exact g.elim
theorem je_cst {e : Expr} {v : Val} {w : V} (p : PE X e (tC w)) (r : ∀ H θ, RV C.K H θ v w) : PE X e (LE C cg W (fun _ h => .ok v h)) :=
  p.weak fun σ H Q ⟨θ, ρ, h, re, rl, g⟩ => GO.val rl g (r H θ)

/-! ### operators -/
theorem je_bin {a b : Expr} {fa fb : PM.Env → Heap → Out Val} {pos : Pos} (hK : X.K = C.K) (o : BOp) (ha : PE X a (LE C cg W fa)) (hb : PE X b (LE C cg W fb)) :
    PE X (.BinOp a (opOf o) b pos) (LE C cg W (fun ρ h => (fa ρ h).bind fun x h1 => (fb ρ h1).bind fun y h2 => bin o x y h2)) :=
  (pe_op (bin_ok hK o) ha hb).weak fun σ H Q ⟨θ, ρ, h, re, rl, g⟩ => LE.step re rl g fun v h1 H1 θ1 w af re1 rl1 rv g1 => LE.step re1 rl1 g1 fun u h2 H2 θ2 z af2 re2 rl2 rz g2 =>
    ⟨θ2, h2, v, u, _, rl2, RV.after af2.ext _ _ rv, rz, g2⟩
theorem je_neg {a : Expr} {fa : PM.Env → Heap → Out Val} {pos : Pos} (ha : PE X a (LE C cg W fa)) :
    PE X (.UnaryOp .USub a pos) (LE C cg W (fun ρ h => (fa ρ h).bind fun x h1 => match x with | .int i => .ok (.int (-i)) h1 | _ => .bad)) :=
  (pe_un un_neg ha).weak fun σ H Q ⟨θ, ρ, h, re, rl, g⟩ => LE.step re rl g fun v h1 H1 θ1 w af re1 rl1 rv g1 => by
    split at g1
    · rename_i i; cases rv; exact ⟨i, rfl, GO.val rl1 g1 rfl⟩
    · exact g1.elim
noncomputable def cmpF (o : COp) (fa fb : PM.Env → Heap → Out Val) : PM.Env → Heap → Out Val := fun ρ h => trim h ((fa ρ h).bind fun x h1 => (fb ρ h1).bind fun y h2 => PM.ofO ((cmpB o x y h2).map Val.bl) h2)
theorem cmp_go {a : Val} {b : Val} {o : COp} {h : Heap} {H : Hp} {θ : List Addr} {Q : VK} {E : Value → Option Addr → Hp → Prop} (rl : Rel C H θ h) (g : GO C H θ (PM.ofO ((cmpB o a b h).map Val.bl) h) (VR C Q) E) : ∃ t, cmpB o a b h = some t ∧ Q (.bl t) H := by
  cases e : cmpB o a b h with
  | none => rw [e] at g; exact g.elim
  | some t => rw [e] at g; exact ⟨t, rfl, GO.val rl g rfl⟩
theorem je_cmp {a b : Expr} {fa fb : PM.Env → Heap → Out Val} {pos : Pos} (hK : X.K = C.K) (hu : X.A.units + 65 < cLine) (o : COp) (ha : PE X a (LE C cg W fa)) (hb : PE X b (LE C cg W fb)) (hm : behindInMarks (cmpOf o) b = false) :
    PE X (.Compare a [cmpOf o] [b] pos) (LE C cg W (cmpF o fa fb)) :=
  (pe_cmpR (cmp_ok (C := C) hK hu o) ha hb hm).weak fun σ H Q ⟨θ, ρ, h, re, rl, g⟩ => LE.step re rl (GO.trim rl g) fun v h1 H1 θ1 w af re1 rl1 rv g1 => LE.step re1 rl1 g1 fun u h2 H2 θ2 z af2 re2 rl2 rz g2 => by
    obtain ⟨t, e, k⟩ := cmp_go rl2 g2
    exact ⟨θ2, h2, v, u, t, rl2, RV.after af2.ext _ _ rv, rz, e, k⟩
/-- from a value's reading to a test's -/
theorem LT.of {f : PM.Env → Heap → Out Val} {σ : L2.St} {H : Hp} {Q : Bool → Hp → Prop} (t : LT C cg W f σ H Q) : LE C cg W f σ H (fun x H1 => ∃ k, x = .bl k ∧ Q k H1) := by
  obtain ⟨θ, ρ, h, re, rl, g⟩ := t
  refine ⟨θ, ρ, h, re, rl, ?_⟩
  cases e : f ρ h with
  | ok v h1 =>
    rw [e] at g
    cases v with
    | bl b => exact fun H' θ' af rl' w rv => ⟨b, rv, g H' θ' af rl'⟩
    | _ => exact g.elim
  | exc x h1 => rw [e] at g; exact g
  | bad => rw [e] at g; exact g.elim
theorem jt_val {e : Expr} {f : PM.Env → Heap → Out Val} (h : PE X e (LE C cg W f)) (he : ∀ whole, PySem.isTrue e X.env whole = (do let v ← whole; standAt e.pos; holding [v] (truthy v))) : PT X e (LT C cg W f) :=
  (pt_val h he).weak fun σ H Q q => q.of
theorem jt_cmp {a b : Expr} {fa fb : PM.Env → Heap → Out Val} {pos : Pos} (hK : X.K = C.K) (hu : X.A.units + 65 < cLine) (o : COp) (ha : PE X a (LE C cg W fa)) (hb : PE X b (LE C cg W fb)) (hm : behindInMarks (cmpOf o) b = false) :
    PT X (.Compare a [cmpOf o] [b] pos) (LT C cg W (cmpF o fa fb)) :=
  (pt_cmpR (cmp_ok (C := C) hK hu o) ha hb hm).weak fun σ H Q q => by
    obtain ⟨θ, ρ, h, re, rl, g⟩ := q.of
    exact LE.step re rl (GO.trim rl g) fun v h1 H1 θ1 w af re1 rl1 rv g1 => LE.step re1 rl1 g1 fun u h2 H2 θ2 z af2 re2 rl2 rz g2 => by
      obtain ⟨t, e, k⟩ := cmp_go (Q := fun x H1 => ∃ k, x = .bl k ∧ Q k H1) rl2 g2
      exact ⟨θ2, h2, v, u, t, rl2, RV.after af2.ext _ _ rv, rz, e, k⟩
noncomputable def chainF (o p : COp) (fa fb fc : PM.Env → Heap → Out Val) : PM.Env → Heap → Out Val := fun ρ h => trim h ((fa ρ h).bind fun x h1 => (fb ρ h1).bind fun y h2 => match cmpB o x y h2 with
    | some true => (fc ρ h2).bind fun z h3 => PM.ofO ((cmpB p y z h3).map Val.bl) h3
    | some false => .ok (.bl false) h2
    | none => .bad)
theorem chain_read {o p : COp} {fa fb fc : PM.Env → Heap → Out Val} {σ : L2.St} {H : Hp} {Q : VK} (q : LE C cg W (chainF o p fa fb fc) σ H Q) :
    tChain (rCmp C o) (rCmp C p) (LE C cg W fa) (LE C cg W fb) (LE C cg W fc) σ H Q := by
  obtain ⟨θ, ρ, h, re, rl, g⟩ := q
  exact LE.step re rl (GO.trim rl g) fun v h1 H1 θ1 w af re1 rl1 rv g1 => LE.step re1 rl1 g1 fun u h2 H2 θ2 z af2 re2 rl2 rz g2 => by
    split at g2
    · rename_i e
      refine ⟨θ2, h2, v, u, true, rl2, RV.after af2.ext _ _ rv, rz, e, true, rfl, ?_⟩
      rw [if_pos rfl]
      exact LE.step re2 rl2 g2 fun t h3 H3 θ3 y af3 re3 rl3 ry g3 => by
        obtain ⟨b, e, k⟩ := cmp_go rl3 g3
        exact ⟨θ3, h3, u, t, b, rl3, RV.after af3.ext _ _ rz, ry, e, k⟩
    · rename_i e
      refine ⟨θ2, h2, v, u, false, rl2, RV.after af2.ext _ _ rv, rz, e, false, rfl, ?_⟩
      rw [if_neg Bool.false_ne_true]
      exact GO.val rl2 g2 rfl
    · exact g2.elim
theorem je_chain {a b c : Expr} {fa fb fc : PM.Env → Heap → Out Val} {pos : Pos} (hK : X.K = C.K) (hu : X.A.units + 65 < cLine) (o p : COp) (ha : PE X a (LE C cg W fa)) (hb : PE X b (LE C cg W fb)) (hc : PE X c (LE C cg W fc))
    (hm : lastMarks [cmpOf o, cmpOf p] [b, c] = false) : PE X (.Compare a [cmpOf o, cmpOf p] [b, c] pos) (LE C cg W (chainF o p fa fb fc)) :=
  (pe_chain (cmp_ok (C := C) hK hu o) (cmp_ok (C := C) hK hu p) ha hb hc hm).weak fun σ H Q q => chain_read q
theorem jt_chain {a b c : Expr} {fa fb fc : PM.Env → Heap → Out Val} {pos : Pos} (hK : X.K = C.K) (hu : X.A.units + 65 < cLine) (o p : COp) (ha : PE X a (LE C cg W fa)) (hb : PE X b (LE C cg W fb)) (hc : PE X c (LE C cg W fc))
    (hm : lastMarks [cmpOf o, cmpOf p] [b, c] = false) : PT X (.Compare a [cmpOf o, cmpOf p] [b, c] pos) (LT C cg W (chainF o p fa fb fc)) :=
  (pt_chain (cmp_ok (C := C) hK hu o) (cmp_ok (C := C) hK hu p) ha hb hc hm).weak fun σ H Q q => chain_read q.of

/-! ### and, or, not, if -/
noncomputable def andF (fa fb : PM.Env → Heap → Out Val) : PM.Env → Heap → Out Val := fun ρ h => (toB (fa ρ h)).bind fun t h1 => if t then fb ρ h1 else .ok (.bl false) h1
noncomputable def orF (fa fb : PM.Env → Heap → Out Val) : PM.Env → Heap → Out Val := fun ρ h => (toB (fa ρ h)).bind fun t h1 => if t then .ok (.bl true) h1 else fb ρ h1
noncomputable def notF (fa : PM.Env → Heap → Out Val) : PM.Env → Heap → Out Val := fun ρ h => (toB (fa ρ h)).bind fun t h1 => .ok (.bl !t) h1
noncomputable def iteF (fc fa fb : PM.Env → Heap → Out Val) : PM.Env → Heap → Out Val := fun ρ h => (toB (fc ρ h)).bind fun t h1 => if t then fa ρ h1 else fb ρ h1
/-- from a test's outcome in a value to a value's -/
theorem LE.ofT {f : PM.Env → Heap → Out Val} {k : Bool → Heap → Out Val} {σ : L2.St} {H : Hp} {Q : VK} {P : Bool → Hp → Prop} {θ : List Addr} {ρ : PM.Env} {h : Heap} (re : RE C cg H θ ρ σ) (rl : Rel C H θ h)
    (g : GO C H θ ((toB (f ρ h)).bind k) (VR C Q) (fun cls d H' => W cls d σ H'))
    (n : ∀ b h1 H1 θ1, After H θ H1 θ1 → RE C cg H1 θ1 ρ σ → Rel C H1 θ1 h1 → GO C H1 θ1 (k b h1) (VR C Q) (fun cls d H' => W cls d σ H') → P b H1) : LE C cg W f σ H (fun x H1 => ∃ c, x = .bl c ∧ P c H1) := (LT.step re rl g n).of
theorem je_and {a b : Expr} {rest : List Expr} {fa fb : PM.Env → Heap → Out Val} {pos : Pos} (ha : PE X a (LE C cg W fa)) (hb : PE X (.BoolOp .And (b :: rest) pos) (LE C cg W fb)) : PE X (.BoolOp .And (a :: b :: rest) pos) (LE C cg W (andF fa fb)) :=
  (pe_and ha hb).weak fun σ H Q ⟨θ, ρ, h, re, rl, g⟩ => LE.ofT re rl g fun t h1 H1 θ1 af re1 rl1 g1 => by
    cases t with
    | true => rw [if_pos rfl]; exact ⟨θ1, ρ, h1, re1, rl1, g1⟩
    | false => rw [if_neg Bool.false_ne_true]; exact GO.val rl1 g1 rfl
theorem je_or {a b : Expr} {rest : List Expr} {fa fb : PM.Env → Heap → Out Val} {pos : Pos} (ha : PE X a (LE C cg W fa)) (hb : PE X (.BoolOp .Or (b :: rest) pos) (LE C cg W fb)) : PE X (.BoolOp .Or (a :: b :: rest) pos) (LE C cg W (orF fa fb)) :=
  (pe_or ha hb).weak fun σ H Q ⟨θ, ρ, h, re, rl, g⟩ => LE.ofT re rl g fun t h1 H1 θ1 af re1 rl1 g1 => by
    cases t with
    | true => rw [if_pos rfl]; exact GO.val rl1 g1 rfl
    | false => rw [if_neg Bool.false_ne_true]; exact ⟨θ1, ρ, h1, re1, rl1, g1⟩
theorem je_not {a : Expr} {fa : PM.Env → Heap → Out Val} {pos : Pos} (ha : PE X a (LE C cg W fa)) : PE X (.UnaryOp .Not a pos) (LE C cg W (notF fa)) :=
  (pe_not ha).weak fun σ H Q ⟨θ, ρ, h, re, rl, g⟩ => LE.ofT re rl g fun t h1 H1 θ1 af re1 rl1 g1 => GO.val rl1 g1 rfl
theorem je_ite {c a b : Expr} {fc fa fb : PM.Env → Heap → Out Val} {pos : Pos} (hc : PT X c (LT C cg W fc)) (ha : PE X a (LE C cg W fa)) (hb : PE X b (LE C cg W fb)) : PE X (.IfExp c a b pos) (LE C cg W (iteF fc fa fb)) :=
  (pe_ifExp hc ha hb).weak fun σ H Q ⟨θ, ρ, h, re, rl, g⟩ => LT.step re rl g fun t h1 H1 θ1 af re1 rl1 g1 => by
    cases t with
    | true => rw [if_pos rfl]; exact ⟨θ1, ρ, h1, re1, rl1, g1⟩
    | false => rw [if_neg Bool.false_ne_true]; exact ⟨θ1, ρ, h1, re1, rl1, g1⟩
/-- tests -/
theorem toB_bind {o : Out Bool} {k : Bool → Heap → Out Val} : toB (o.bind k) = o.bind fun b h => toB (k b h) := by cases o <;> rfl
theorem LT.step2 {f : PM.Env → Heap → Out Val} {k : Bool → Heap → Out Val} {σ : L2.St} {H : Hp} {Q : Bool → Hp → Prop} {P : Bool → Hp → Prop} {θ : List Addr} {ρ : PM.Env} {h : Heap} (re : RE C cg H θ ρ σ) (rl : Rel C H θ h)
    (g : GO C H θ (toB ((toB (f ρ h)).bind k)) (fun b _ H' _ => Q b H') (fun cls d H' => W cls d σ H'))
    (n : ∀ b h1 H1 θ1, After H θ H1 θ1 → RE C cg H1 θ1 ρ σ → Rel C H1 θ1 h1 → GO C H1 θ1 (toB (k b h1)) (fun b _ H' _ => Q b H') (fun cls d H' => W cls d σ H') → P b H1) : LT C cg W f σ H P := by
  rw [toB_bind] at g
  exact ⟨θ, ρ, h, re, rl, (GO.bind g).imp fun b h1 H1 θ1 af rl1 g1 => n b h1 H1 θ1 af (re.after af) rl1 g1⟩
theorem jw_and {a b : Expr} {rest : List Expr} {fa fb : PM.Env → Heap → Out Val} {pos : Pos} (ha : PT X a (LT C cg W fa)) (hb : PW X (.BoolOp .And (b :: rest) pos) (LT C cg W fb)) : PW X (.BoolOp .And (a :: b :: rest) pos) (LT C cg W (andF fa fb)) := by
  refine ⟨fun wh pins s σ H Q I ⟨θ, ρ, h, re, rl, g⟩ => (pw_and ha hb).run wh pins s σ H Q I (LT.step2 re rl g fun t h1 H1 θ1 af re1 rl1 g1 => ?_)⟩
  cases t with
  | true => rw [if_pos rfl]; exact ⟨θ1, ρ, h1, re1, rl1, g1⟩
  | false => rw [if_neg Bool.false_ne_true]; exact GO.ok rl1 g1
theorem jw_or {a b : Expr} {rest : List Expr} {fa fb : PM.Env → Heap → Out Val} {pos : Pos} (ha : PT X a (LT C cg W fa)) (hb : PW X (.BoolOp .Or (b :: rest) pos) (LT C cg W fb)) : PW X (.BoolOp .Or (a :: b :: rest) pos) (LT C cg W (orF fa fb)) := by
  refine ⟨fun wh pins s σ H Q I ⟨θ, ρ, h, re, rl, g⟩ => (pw_or ha hb).run wh pins s σ H Q I (LT.step2 re rl g fun t h1 H1 θ1 af re1 rl1 g1 => ?_)⟩
  cases t with
  | true => rw [if_pos rfl]; exact GO.ok rl1 g1
  | false => rw [if_neg Bool.false_ne_true]; exact ⟨θ1, ρ, h1, re1, rl1, g1⟩
theorem jt_not {a : Expr} {fa : PM.Env → Heap → Out Val} {pos : Pos} (ha : PT X a (LT C cg W fa)) : PT X (.UnaryOp .Not a pos) (LT C cg W (notF fa)) :=
  (pt_not ha).weak fun σ H Q ⟨θ, ρ, h, re, rl, g⟩ => LT.step2 re rl g fun t h1 H1 θ1 af re1 rl1 g1 => GO.ok rl1 g1
theorem isTrue_if {M : Model} {A : Around} {E : Value → Shared → Prop} {c a b : Expr} {pos : Pos} {env : PySem.Env} {wh : Sem Value} {Q : Bool → Shared → Prop} {s : Shared}
    (h : wpAny M A (PySem.isTrue c env (eval c env)) (fun t s1 => wpAny M A (if t then PySem.isTrue a env (eval a env) else PySem.isTrue b env (eval b env)) Q E s1) E s) : wpAny M A (PySem.isTrue (.IfExp c a b pos) env wh) Q E s := by
  rw [show PySem.isTrue (.IfExp c a b pos) env wh = (do if ← PySem.isTrue c env (eval c env) then PySem.isTrue a env (eval a env) else PySem.isTrue b env (eval b env)) from by rw [PySem.isTrue]]
  exact wpAny_bind h
theorem jt_ite {c a b : Expr} {fc fa fb : PM.Env → Heap → Out Val} {pos : Pos} (hc : PT X c (LT C cg W fc)) (ha : PT X a (LT C cg W fa)) (hb : PT X b (LT C cg W fb)) : PT X (.IfExp c a b pos) (LT C cg W (iteF fc fa fb)) := by
  refine ⟨fun pins s σ H Q I ⟨θ, ρ, h, re, rl, g⟩ => isTrue_if (thn (hc.run pins s σ H (fun t H1 => ∃ θ1 h1, RE C cg H1 θ1 ρ σ ∧ Rel C H1 θ1 h1 ∧ GO C H1 θ1 (toB (if t then fa ρ h1 else fb ρ h1)) (fun b _ H' _ => Q b H') (fun cls d H' => W cls d σ H')) I
    (LT.step2 re rl g fun t h1 H1 θ1 af re1 rl1 g1 => ⟨θ1, h1, re1, rl1, g1⟩)) fun t s1 ⟨H1, I1, θ1, h1, re1, rl1, g1⟩ => ?_)⟩
  cases t with
  | true => exact ha.run pins s1 σ H1 Q I1 ⟨θ1, ρ, h1, re1, rl1, g1⟩
  | false => exact hb.run pins s1 σ H1 Q I1 ⟨θ1, ρ, h1, re1, rl1, g1⟩

/-! ### displays -/
theorem ja_nil : PA X [] (LA C cg W (fun _ h => .ok [] h)) := pa_nil.weak fun σ H Q ⟨θ, ρ, h, re, rl, g⟩ => GO.ok rl g [] rfl
noncomputable def consF (f : PM.Env → Heap → Out Val) (r : PM.Env → Heap → Out (List Val)) : PM.Env → Heap → Out (List Val) := fun ρ h => (f ρ h).bind fun v h1 => (r ρ h1).bind fun vs h2 => .ok (v :: vs) h2
theorem ja_cons {e : Expr} {es : List Expr} {f : PM.Env → Heap → Out Val} {r : PM.Env → Heap → Out (List Val)} (he : PE X e (LE C cg W f)) (hr : PA X es (LA C cg W r)) (hs : starEach (e :: es) X.env = (false, eval e X.env) :: starEach es X.env) :
    PA X (e :: es) (LA C cg W (consF f r)) :=
  (pa_cons he hr hs).weak fun σ H Q ⟨θ, ρ, h, re, rl, g⟩ => ⟨θ, ρ, h, re, rl, (GO.bind g).imp fun v h1 H1 θ1 af rl1 g1 w rv =>
    ⟨θ1, ρ, h1, re.after af, rl1, (GO.bind g1).imp fun vs h2 H2 θ2 af2 rl2 g2 ws rvs => GO.ok rl2 g2 (w :: ws) ⟨w, ws, rfl, RV.after af2.ext _ _ rv, rvs⟩⟩⟩
/-- a step behind an argument list -/
theorem LA.step {f : PM.Env → Heap → Out (List Val)} {k : List Val → Heap → Out Val} {σ : L2.St} {H : Hp} {Q : VK} {P : List V → Hp → Prop} {θ : List Addr} {ρ : PM.Env} {h : Heap} (re : RE C cg H θ ρ σ) (rl : Rel C H θ h)
    (g : GO C H θ ((f ρ h).bind k) (VR C Q) (fun cls d H' => W cls d σ H'))
    (n : ∀ vs h1 H1 θ1 ws, After H θ H1 θ1 → RE C cg H1 θ1 ρ σ → Rel C H1 θ1 h1 → RVs C.K H1 θ1 vs ws → GO C H1 θ1 (k vs h1) (VR C Q) (fun cls d H' => W cls d σ H') → P ws H1) : LA C cg W f σ H P :=
  ⟨θ, ρ, h, re, rl, (GO.bind g).imp fun v h1 H1 θ1 af rl1 g1 w rv => n v h1 H1 θ1 w af (re.after af) rl1 rv g1⟩

theorem je_tup {es : List Expr} {f : PM.Env → Heap → Out (List Val)} {k : Nat} {pos : Pos} (ha : PA X es (LA C cg W f)) (hl : ∀ ρ h vs h1, f ρ h = .ok vs h1 → vs.length ≤ 16777216) :
    PE X (.Tuple es k pos) (LE C cg W (fun ρ h => (f ρ h).bind fun vs h1 => .ok (.tup vs) h1)) :=
  (pe_tup ha).weak fun σ H Q ⟨θ, ρ, h, re, rl, g⟩ => by
    refine ⟨θ, ρ, h, re, rl, ?_⟩
    have g1 := GO.bind g
    cases e : f ρ h with
    | ok vs h1 =>
      rw [e] at g1
      intro H1 θ1 af rl1 ws rv
      exact ⟨by rw [line_eq, RVs.length rv]; exact hl _ _ _ _ e, fun p n => GO.newT rl1 (g1 H1 θ1 af rl1) rv n⟩
    | exc x k => rw [e] at g1; exact g1
    | bad => rw [e] at g1; exact g1.elim
theorem je_lst {es : List Expr} {f : PM.Env → Heap → Out (List Val)} {pos : Pos} (ha : PA X es (LA C cg W f)) (hl : ∀ ρ h vs h1, f ρ h = .ok vs h1 → vs.length ≤ 16777216) :
    PE X (.List es pos) (LE C cg W (fun ρ h => (f ρ h).bind fun vs h1 => .ok (.ref h1.length) (h1 ++ [.lst vs]))) :=
  (pe_lst ha).weak fun σ H Q ⟨θ, ρ, h, re, rl, g⟩ => by
    refine ⟨θ, ρ, h, re, rl, ?_⟩
    have g1 := GO.bind g
    cases e : f ρ h with
    | ok vs h1 =>
      rw [e] at g1
      intro H1 θ1 af rl1 ws rv
      exact ⟨by rw [line_eq, RVs.length rv]; exact hl _ _ _ _ e, fun p n => GO.newL rl1 (g1 H1 θ1 af rl1) rv n⟩
    | exc x k => rw [e] at g1; exact g1
    | bad => rw [e] at g1; exact g1.elim

/-! ### built-ins -/
theorem trim_bind {α : Type} {h : Heap} {o : Out α} {k : α → Heap → Out Val} : True := True.intro
theorem je_b1 {o : B1} {x : Str} {a : Expr} {fa : PM.Env → Heap → Out Val} {p pos : Pos} {f : Value} (hK : X.K = C.K) (hc : X.calm = true) (ef : b1Val o = some f) (hg : Gl X x) (hm : X.mg x = none) (hv : bootBuiltins x = some f)
    (ha : PE X a (LE C cg W fa)) (hn : x ≠ "__name__") (hdb : (x == ("__debug__" : Str)) = false) (he : starEach [a] X.env = [(false, eval a X.env)]) :
    PE X (.Call (.Name x p) [a] [] pos) (LE C cg W (fun ρ h => trim h ((fa ρ h).bind fun v h1 => bl1 o v h1))) := by
  have one : PA X [a] (tCons (LE C cg W fa) tNil) := pa_cons ha pa_nil (by rw [he]; rfl)
  have rd : ∀ σ H Q, LE C cg W (fun ρ h => trim h ((fa ρ h).bind fun v h1 => bl1 o v h1)) σ H Q → tCB (rB1 C o) (tCons (LE C cg W fa) tNil) σ H Q := fun σ H Q ⟨θ, ρ, h, re, rl, g⟩ =>
    LE.step re rl (GO.trim rl g) fun v h1 H1 θ1 w af re1 rl1 rv g1 => ⟨w, θ1, h1, v, _, rfl, rl1, rv, g1⟩
  have hs : starEach (a :: []) X.env = (false, eval a X.env) :: starEach [] X.env := by rw [he]; rfl
  have ok := bl1_ok (X := X) hK hc ef
  cases f with
  | builtin id => exact (pe_callB (r := rB1 C o) ok hg hm hv one hn hdb hs rfl).weak rd
  | type T => exact (pe_callTy (r := rB1 C o) ok hg hm hv one hn hdb hs rfl).weak rd
  | _ => cases o <;> cases ef
theorem je_b2 {o : B2} {x : Str} {a b : Expr} {fa fb : PM.Env → Heap → Out Val} {p pos : Pos} (hc : X.calm = true) (hg : Gl X x) (hm : X.mg x = none) (hv : bootBuiltins x = some (b2Val o))
    (ha : PE X a (LE C cg W fa)) (hb : PE X b (LE C cg W fb)) (hn : x ≠ "__name__") (hdb : (x == ("__debug__" : Str)) = false) (he : starEach [a, b] X.env = [(false, eval a X.env), (false, eval b X.env)]) (he2 : starEach [b] X.env = [(false, eval b X.env)]) :
    PE X (.Call (.Name x p) [a, b] [] pos) (LE C cg W (fun ρ h => trim h ((fa ρ h).bind fun v h1 => (fb ρ h1).bind fun w h2 => bl2 o v w h2))) := by
  have two : PA X [a, b] (tCons (LE C cg W fa) (tCons (LE C cg W fb) tNil)) := pa_cons ha (pa_cons hb pa_nil (by rw [he2]; rfl)) (by rw [he, he2])
  have ok := bl2_ok (C := C) (X := X) hc o
  have id : ∃ i, b2Val o = .builtin i := by cases o <;> exact ⟨_, rfl⟩
  obtain ⟨i, ei⟩ := id
  rw [ei] at hv ok
  refine (pe_callB (r := rB2 C o) ok hg hm hv two hn hdb (by rw [he, he2]) (by rw [he2]; rfl)).weak fun σ H Q ⟨θ, ρ, h, re, rl, g⟩ => ?_
  exact LE.step re rl (GO.trim rl g) fun v h1 H1 θ1 w af re1 rl1 rv g1 => LE.step re1 rl1 g1 fun u h2 H2 θ2 z af2 re2 rl2 rz g2 => ⟨w, z, θ2, h2, v, u, _, rfl, rl2, RV.after af2.ext _ _ rv, rz, g2⟩
theorem je_isa {t : Ty} {a b : Expr} {fa : PM.Env → Heap → Out Val} {p pos : Pos} {n : String} (hK : X.K = C.K) (et : tyName t = some n) (hg : Gl X "isinstance") (hm : X.mg "isinstance" = none)
    (ha : PE X a (LE C cg W fa)) (hb : PE X b (tC (.ty n))) (he : starEach [a, b] X.env = [(false, eval a X.env), (false, eval b X.env)]) (he2 : starEach [b] X.env = [(false, eval b X.env)]) :
    PE X (.Call (.Name "isinstance" p) [a, b] [] pos) (LE C cg W (fun ρ h => trim h ((fa ρ h).bind fun v h1 => PM.ofO ((isaB h1 v t).map Val.bl) h1))) := by
  have two : PA X [a, b] (tCons (LE C cg W fa) (tCons (tC (.ty n)) tNil)) := pa_cons ha (pa_cons hb pa_nil (by rw [he2]; rfl)) (by rw [he, he2])
  refine (pe_callB (r := rIsa C t) (isa_ok hK t) hg hm (by decide +kernel) two (by decide) (by decide) (by rw [he, he2]) (by rw [he2]; rfl)).weak fun σ H Q ⟨θ, ρ, h, re, rl, g⟩ => ?_
  refine LE.step re rl (GO.trim rl g) fun v h1 H1 θ1 w af re1 rl1 rv g1 => ?_
  cases e : isaB h1 v t with
  | none => rw [e] at g1; exact g1.elim
  | some b => rw [e] at g1; exact ⟨w, n, θ1, h1, v, b, et, rfl, rl1, rv, e, GO.val rl1 g1 rfl⟩

/-! ### subscripts, slices, methods -/
theorem je_idx {a b : Expr} {fa fb : PM.Env → Heap → Out Val} {pos : Pos} (hK : X.K = C.K) (ha : PE X a (LE C cg W fa)) (hb : PE X b (LE C cg W fb)) (hs : PlainIx b) :
    PE X (.Subscript a b pos) (LE C cg W (fun ρ h => trim h ((fa ρ h).bind fun x h1 => (fb ρ h1).bind fun y h2 => idxV x y h2))) :=
  (pe_ix (idx_ok (C := C) hK) ha hb hs).weak fun σ H Q ⟨θ, ρ, h, re, rl, g⟩ => LE.step re rl (GO.trim rl g) fun v h1 H1 θ1 w af re1 rl1 rv g1 => LE.step re1 rl1 g1 fun u h2 H2 θ2 z af2 re2 rl2 rz g2 =>
    ⟨θ2, h2, v, u, _, rl2, RV.after af2.ext _ _ rv, rz, g2⟩
/-- a part of a slice -/
def LPt (C : Cfg) (cg : Caught) (W : WX) (f : PM.Env → Heap → Out Val) : TO := fun σ H Q => ∃ θ ρ h, RE C cg H θ ρ σ ∧ Rel C H θ h ∧ GO C H θ (f ρ h) (fun v h' H' θ' => ∃ o, part? v = some o ∧ Q o H') (fun cls d H' => W cls d σ H')
theorem jo_none {o : PM.Env → Heap → Out Val} : PO X none (LPt C cg W (fun ρ h => partW true h (o ρ h))) := ⟨fun pins s σ H Q I ⟨θ, ρ, h, re, rl, g⟩ => by
  obtain ⟨o, e, q⟩ := GO.ok (a := Val.non) rl g
  cases e
  exact po_none.run pins s σ H Q I q⟩
theorem jo_some {e : Expr} {f : PM.Env → Heap → Out Val} (h : PE X e (LE C cg W f)) : PO X (some e) (LPt C cg W (fun ρ h => partW false h (f ρ h))) := ⟨fun pins s σ H Q I ⟨θ, ρ, k, re, rl, g⟩ => by
  refine (po_some h).run pins s σ H Q I ⟨θ, ρ, k, re, rl, ?_⟩
  have g : GO C H θ ((f ρ k).bind fun v k => match v with | .int i => .ok (.int i) k | _ => .bad) (fun v h' H' θ' => ∃ o, part? v = some o ∧ Q o H') (fun cls d H' => W cls d σ H') := g
  refine (GO.bind g).imp fun v h1 H1 θ1 af rl1 g1 w rv => ?_
  cases v with
  | int i =>
    obtain ⟨o, e, qq⟩ := GO.ok (a := Val.int i) rl1 g1
    cases e
    exact ⟨i, rv, qq⟩
  | _ => exact g1.elim⟩
theorem LPt.step {f : PM.Env → Heap → Out Val} {k : Val → Heap → Out Val} {σ : L2.St} {H : Hp} {Q : VK} {P : Option Int → Hp → Prop} {θ : List Addr} {ρ : PM.Env} {h : Heap} (re : RE C cg H θ ρ σ) (rl : Rel C H θ h)
    (g : GO C H θ ((f ρ h).bind k) (VR C Q) (fun cls d H' => W cls d σ H')) (hf : ∀ ρ h v h1, f ρ h = .ok v h1 → ∃ o, part? v = some o)
    (n : ∀ v o h1 H1 θ1, part? v = some o → After H θ H1 θ1 → RE C cg H1 θ1 ρ σ → Rel C H1 θ1 h1 → GO C H1 θ1 (k v h1) (VR C Q) (fun cls d H' => W cls d σ H') → P o H1) : LPt C cg W f σ H P := by
  refine ⟨θ, ρ, h, re, rl, ?_⟩
  have g1 := GO.bind g
  cases e : f ρ h with
  | ok v h1 =>
    rw [e] at g1
    obtain ⟨o, eo⟩ := hf _ _ _ _ e
    exact fun H1 θ1 af rl1 => ⟨o, eo, n v o h1 H1 θ1 eo af (re.after af) rl1 (g1 H1 θ1 af rl1)⟩
  | exc x k => rw [e] at g1; exact g1
  | bad => rw [e] at g1; exact g1.elim
theorem partW_ok {b : Bool} {h : Heap} {o : Out Val} {v : Val} {h1 : Heap} (e : partW b h o = .ok v h1) : ∃ p, part? v = some p := by
  unfold partW at e
  split at e
  · cases e; exact ⟨none, rfl⟩
  · cases o with
    | ok u k =>
      simp only [Out.bind_ok] at e
      split at e
      · cases e; exact ⟨_, rfl⟩
      · cases e
    | exc x k => cases e
    | bad => cases e
theorem je_slice {a : Expr} {lo hi : Option Expr} {fa : PM.Env → Heap → Out Val} {fl fh : PM.Env → Heap → Out Val} {bl bh : Bool} {p2 pos : Pos} (hK : X.K = C.K) (ha : PE X a (LE C cg W fa))
    (hl : PO X lo (LPt C cg W (fun ρ h => partW bl h (fl ρ h)))) (hh : PO X hi (LPt C cg W (fun ρ h => partW bh h (fh ρ h)))) :
    PE X (.Subscript a (.Slice lo hi none p2) pos) (LE C cg W (fun ρ h => trim h ((fa ρ h).bind fun x h1 => (partW bl h1 (fl ρ h1)).bind fun y h2 => (partW bh h2 (fh ρ h2)).bind fun z h3 => sliceV x y z h3))) :=
  (pe_slice (sli_ok (C := C) hK) ha hl hh).weak fun σ H Q ⟨θ, ρ, h, re, rl, g⟩ => LE.step re rl (GO.trim rl g) fun v h1 H1 θ1 w af re1 rl1 rv g1 =>
    LPt.step (f := fun ρ h => partW bl h (fl ρ h)) re1 rl1 g1 (fun _ _ _ _ => partW_ok) fun y o h2 H2 θ2 e2 af2 re2 rl2 g2 =>
      LPt.step (f := fun ρ h => partW bh h (fh ρ h)) re2 rl2 g2 (fun _ _ _ _ => partW_ok) fun z o' h3 H3 θ3 e3 af3 re3 rl3 g3 =>
        ⟨θ3, h3, v, y, z, _, e2, e3, rl3, RV.after (af2.trans af3).ext _ _ rv, g3⟩
theorem je_rev {a : Expr} {fa : PM.Env → Heap → Out Val} {k : Nat} {p1 p2 p3 pos : Pos} (hK : X.K = C.K) (ha : PE X a (LE C cg W fa)) :
    PE X (.Subscript a (.Slice none none (some (.UnaryOp .USub (.Constant (.int 1) k p1) p2)) p3) pos) (LE C cg W (fun ρ h => trim h ((fa ρ h).bind fun x h1 => match lst? h1 x with
    | some vs => .ok (.ref h1.length) (h1 ++ [.lst vs.reverse])
    | none => .bad))) :=
  (pe_revL ha).weak fun σ H Q ⟨θ, ρ, h, re, rl, g⟩ => LE.step re rl (GO.trim rl g) fun v h1 H1 θ1 w af re1 rl1 rv g1 => by
    split at g1
    · rename_i vs e
      obtain ⟨p, ws, rfl, sq, r⟩ := lst_rv rl1 rv e
      exact ⟨p, ws, rfl, .of sq, fun q n => GO.newL rl1 g1 r.reverse n⟩
    · exact g1.elim
theorem je_append {o e : Expr} {fo fe : PM.Env → Heap → Out Val} {apos cpos : Pos} (hK : X.K = C.K) (ho : PE X o (LE C cg W fo)) (he : PE X e (LE C cg W fe)) (hbase : attributeBase o "append" X.env (eval o X.env) = eval o X.env)
    (hfew : ((backTo cpos (starEach [e] X.env)).all (fun x => !x.1) && (backToKw cpos (keywordEach [] X.env)).all (fun x => x.1.isSome)
      && decide (([e] : List Expr).length + ([] : List Keyword).length + (if ([] : List Keyword).isEmpty then 0 else 1) < 30)) = true)
    (hline : (apos.endLine == cpos.line) = true) (hs : starEach [e] X.env = [(false, eval e X.env)]) :
    PE X (.Call (.Attribute o "append" apos) [e] [] cpos) (LE C cg W (fun ρ h => trim h ((fo ρ h).bind fun x h1 => if (lst? h1 x).isSome = true then (fe ρ h1).bind fun v h2 => appV x v h2 else .bad))) := by
  have one : PA X [e] (tCons (LE C cg W fe) tNil) := pa_cons he pa_nil (by rw [hs]; rfl)
  refine (pe_bm PySem.F.plainAttrs_list PySem.F.slot_list_append PySem.F.type_list_append (app_ok (C := C)) ho one hbase hfew hline (by rw [hs]; rfl) rfl).weak fun σ H Q ⟨θ, ρ, h, re, rl, g⟩ => ?_
  refine LE.step re rl (GO.trim rl g) fun x h1 H1 θ1 w af re1 rl1 rx g1 => ?_
  split at g1
  · rename_i c
    obtain ⟨vs, e1⟩ := Option.isSome_iff_exists.mp c
    obtain ⟨p, ws, rfl, sq, r⟩ := lst_rv rl1 rx e1
    exact ⟨.inl ⟨rfl, ws, .of sq⟩, LE.step re1 rl1 g1 fun v h2 H2 θ2 z af2 re2 rl2 rz g2 => ⟨z, θ2, h2, x, v, _, rfl, rl2, RV.after af2.ext _ _ rx, rz, g2⟩⟩
  · exact g1.elim
end
end PM

set_option Elab.async false
set_option linter.all false
set_option maxRecDepth 100000
set_option maxHeartbeats 1000000
/-! PMcall: calls of own defs; what a def promises. -/
namespace PM
open PySem PySem.Spec PyProof.Rows L2

/-- a def's promise: its outcome by the evaluator -/
def spF (C : Cfg) (g : List Val → Heap → Out Val) (np : Nat) : Sp := fun vs H Q E => vs.length = np ∧ ∃ θ h ds, RVs C.K H θ ds vs ∧ Rel C H θ h ∧ GO C H θ (g ds h) (VR C Q) E

/-- the values in the parameters' order -/
def perm {α : Type} (p : List Nat) (l : List α) : List α := p.filterMap fun i => l[i]?
theorem perm_of {p : List Nat} {vs ws : List Val} (e : permute p vs = some ws) : perm p vs = ws := by
  unfold permute at e
  induction p generalizing ws with
  | nil => simp at e; subst e; rfl
  | cons i p ih =>
    rw [List.mapM_cons] at e
    cases q : vs[i]? with
    | none => simp [q] at e
    | some v =>
      cases r : p.mapM fun i => vs[i]? with
      | none => simp [q, r] at e
      | some us =>
        simp [q, r] at e
        subst e
        simp only [perm, List.filterMap_cons, q]
        rw [show p.filterMap (fun i => vs[i]?) = us from ih r]
theorem permute_length {p : List Nat} {vs ws : List Val} (e : permute p vs = some ws) : ws.length = p.length := by
  unfold permute at e
  induction p generalizing ws with
  | nil => simp at e; subst e; rfl
  | cons i p ih =>
    rw [List.mapM_cons] at e
    cases q : vs[i]? with
    | none => simp [q] at e
    | some v =>
      cases r : p.mapM fun i => vs[i]? with
      | none => simp [q, r] at e
      | some us =>
        simp [q, r] at e
        subst e
        simp [ih r]
theorem perm_vals {p : List Nat} {xs : List V} {us : List Value} (r : Vals xs us) : Vals (perm p xs) (perm p us) := by
  induction p with
  | nil => exact .nil
  | cons i p ih =>
    unfold perm at ih ⊢
    rw [List.filterMap_cons, List.filterMap_cons]
    cases q : xs[i]? with
    | none => rw [r.none_of q]; exact ih
    | some x =>
      obtain ⟨u, e, rx⟩ := r.get q
      rw [e]
      exact .cons rx ih
theorem perm_rvs {K : PySem.W.Frag} {H : Hp} {θ : List Addr} {p : List Nat} {vs : List Val} {xs : List V} (r : RVs K H θ vs xs) : RVs K H θ (perm p vs) (perm p xs) := by
  induction p with
  | nil => exact rfl
  | cons i p ih =>
    unfold perm at ih ⊢
    rw [List.filterMap_cons, List.filterMap_cons]
    cases q : vs[i]? with
    | none =>
      have : xs[i]? = none := by
        rw [List.getElem?_eq_none_iff] at q ⊢
        rw [RVs.length r]; exact q
      rw [this]; exact ih
    | some x =>
      obtain ⟨u, e, rx⟩ := r.get q
      rw [e]
      exact ⟨u, _, rfl, rx, ih⟩

/-- how a call with m values and the keywords ks binds -/
def KB (K : PySem.W.Frag) (fd : FuncData) (ps : List Str) (m : Nat) (ks : List Str) (p : List Nat) : Prop :=
  ∀ (s : Shared) (us ws : List Value), K.In s.heap → us.length = m → ws.length = ks.length → BindsTo s fd ⟨us, ks.zip ws⟩ (ps.zip (perm p (us ++ ws)))

section
variable {C : Cfg} {X : Cx} {cg : Caught} {W : WX}
/-- keywords' values -/
noncomputable def kwF (f : PM.Env → Heap → Out (List Val)) : PM.Env → Heap → Out (List Val) := f
theorem jk_nil : PK X [] (LA C cg W (fun _ h => .ok [] h)) := ⟨fun pos pins s σ H Q I ⟨θ, ρ, h, re, rl, g⟩ => pk_nil.run pos pins s σ H Q I (GO.ok rl g [] rfl)⟩
theorem jk_cons {nm : Option Str} {e : Expr} {kpos : Pos} {kws : List Keyword} {f : PM.Env → Heap → Out Val} {r : PM.Env → Heap → Out (List Val)} (he : PE X e (LE C cg W f)) (hr : PK X kws (LA C cg W r)) : PK X (⟨nm, e, kpos⟩ :: kws) (LA C cg W (consF f r)) :=
  ⟨fun pos pins s σ H Q I ⟨θ, ρ, h, re, rl, g⟩ => (pk_cons he hr).run pos pins s σ H Q I ⟨θ, ρ, h, re, rl, (GO.bind g).imp fun v h1 H1 θ1 af rl1 g1 w rv =>
    ⟨θ1, ρ, h1, re.after af, rl1, (GO.bind g1).imp fun vs h2 H2 θ2 af2 rl2 g2 ws rvs => GO.ok rl2 g2 (w :: ws) ⟨w, ws, rfl, RV.after af2.ext _ _ rv, rvs⟩⟩⟩⟩

noncomputable def callF (p : List Nat) (g : List Val → Heap → Out Val) (fa fk : PM.Env → Heap → Out (List Val)) : PM.Env → Heap → Out Val := fun ρ h => trim h ((fa ρ h).bind fun a h1 => (fk ρ h1).bind fun b h2 => match permute p (a ++ b) with
    | some ws => g ws h2
    | none => .bad)
variable {k m : Nat} {f : Addr} {fd : FuncData} {ps ks : List Str} {g : List Val → Heap → Out Val} {x : Str} {p pos : Pos} {es : List Expr} {kws : List Keyword} {fa fk : PM.Env → Heap → Out (List Val)} {pm : List Nat}
theorem run_call {pins : List (Addr × Obj)} {σ : L2.St} {H : Hp} {s : Shared} {Q : VK} {us ws : List Value} {vs zs : List V} {ds : List Val} {θ : List Addr} {h : Heap} (F : FnOk X.prog X.w X.K X.mg X.base (L2.CX X.prog X.w) k f fd ps (spF C g ps.length)) (hr : Room k X.A) (tk : Takes X W)
    (hb : KB X.K fd ps m ks pm) (I : L2.Inv X pins σ H s) (r : Vals vs us) (rz : Vals zs ws) (lm : vs.length = m) (lk : zs.length = ks.length) (rd : RVs C.K H θ ds (vs ++ zs)) (rl : Rel C H θ h) (hl : pm.length = ps.length)
    (go : GO C H θ (match permute pm ds with | some ws => g ws h | none => .bad) (VR C Q) (fun cls d H' => W cls d σ H')) :
    wpAny (model X.prog X.w) X.A (PySem.call (.ref f) us (ks.zip ws)) (EP X pins σ Q) X.xe s := by
  cases e : permute pm ds with
  | none => rw [e] at go; exact go.elim
  | some es =>
    rw [e] at go
    have e' := perm_of e
    have r2 : Vals (perm pm (vs ++ zs)) (perm pm (us ++ ws)) := perm_vals (r.append rz)
    have rp : RVs C.K H θ es (perm pm (vs ++ zs)) := e' ▸ perm_rvs rd
    have le : es.length = pm.length := permute_length e
    have sp : spF C g ps.length (perm pm (vs ++ zs)) H Q (WE W σ) := ⟨by rw [RVs.length rp, le, hl], θ, h, es, rp, rl, go⟩
    refine wpAny_call (codeAny_mono (F.run X.A X.stack s H ⟨us, ks.zip ws⟩ (perm pm (us ++ ws)) (perm pm (vs ++ zs)) Q (WE W σ) hr I.env0 (hb s us ws I.kIn (by rw [← r.length]; exact lm) (by rw [← rz.length]; exact lk)) r2 sp) fun r s' hq => ?_)
    cases r with
    | error e => exact passAt tk σ pins H s e s' I hq
    | ok fl =>
      cases fl with
      | ret u => exact I.after hq
      | next => exact False.elim hq
      | brk => exact False.elim hq
      | cont => exact False.elim hq
/-- f(e, .., k = e, ..) -/
theorem je_call (F : FnOk X.prog X.w X.K X.mg X.base (L2.CX X.prog X.w) k f fd ps (spF C g ps.length)) (hr : Room k X.A) (tk : Takes X W) (hg : Gl X x) (hm : X.mg x = some (.ref f)) (hkp : PySem.W.keepIn X.K (.ref f) = true) (hb : KB X.K fd ps m ks pm) (hl : pm.length = ps.length)
    (ha : PA X es (LA C cg W fa)) (hkw : PK X kws (LA C cg W fk)) (lm : ∀ ρ h vs h1, fa ρ h = .ok vs h1 → vs.length = m) (lk : ∀ ρ h vs h1, fk ρ h = .ok vs h1 → vs.length = ks.length)
    (hall : (backToKw pos (keywordEach kws X.env)).all (·.1.isSome) = true) (hks : (backToKw pos (keywordEach kws X.env)).filterMap (·.1) = ks) (hdb : (x == ("__debug__" : Str)) = false)
    (hn : es = [] → ∀ ρ h, fa ρ h = .ok [] h) (hst : ∀ e r, es = e :: r → starEach (e :: r) X.env = (false, eval e X.env) :: starEach r X.env) (hpl : ((backTo pos (starEach es X.env)).any (·.1) || (backToKw pos (keywordEach kws X.env)).any (·.1.isNone)) = false) :
    PE X (.Call (.Name x p) es kws pos) (LE C cg W (callF pm g fa fk)) := by
  refine ⟨fun pins s σ H Q I ⟨θ, ρ, h, re, rl, go⟩ => ?_⟩
  refine wpAny_Call_Name_kw (ld_glob I hg hm ?_ hdb)
  have go1 := GO.bind (GO.trim rl go)
  have kw : ∀ (s1 : Shared) (H1 : Hp) (θ1 : List Addr) (h1 : Heap) (vs : List Val) (ws : List V) (us : List Value), L2.Inv X pins σ H1 s1 → After H θ H1 θ1 → Rel C H1 θ1 h1 → RVs C.K H1 θ1 vs ws → Vals ws us → vs.length = m →
      GO C H1 θ1 ((fk ρ h1).bind fun b h2 => match permute pm (vs ++ b) with | some ws => g ws h2 | none => .bad) (VR C Q) (fun cls d H' => W cls d σ H') →
      wpAny (model X.prog X.w) X.A (evalAll ((backToKw pos (keywordEach kws X.env)).map (·.2))) (fun zs s₂ => X.K.In s₂.heap ∧ wpAny (model X.prog X.w) X.A (PySem.call (.ref f) ([] ++ us) (((backToKw pos (keywordEach kws X.env)).filterMap (·.1)).zip zs)) (EP X pins σ Q) X.xe s₂) X.xe s1 := by
    intro s1 H1 θ1 h1 vs ws us I1 af rl1 rv r lv g1
    have g2 := GO.bind g1
    refine thn (hkw.run pos pins s1 σ H1 (fun zs H2 => ∃ θ2 h2 b, RVs C.K H2 θ2 (vs ++ b) (ws ++ zs) ∧ b.length = ks.length ∧ zs.length = ks.length ∧ Rel C H2 θ2 h2 ∧ GO C H2 θ2 (match permute pm (vs ++ b) with | some ws => g ws h2 | none => .bad) (VR C Q) (fun cls d H' => W cls d σ H')) I1 ⟨θ1, ρ, h1, re.after af, rl1, ?_⟩) fun us2 s2 ⟨zs, H2, I2, rz, θ2, h2, b, rb, lb, lz, rl2, g3⟩ => ⟨I2.kIn, ?_⟩
    · cases e : fk ρ h1 with
      | ok b h2 =>
        rw [e] at g2
        exact fun H2 θ2 af2 rl2 zs rz => ⟨θ2, h2, b, (RVs.after af2.ext _ _ rv).append rz, lk _ _ _ _ e, by rw [RVs.length rz]; exact lk _ _ _ _ e, rl2, g2 H2 θ2 af2 rl2⟩
      | exc x k => rw [e] at g2; exact g2
      | bad => rw [e] at g2; exact g2.elim
    · rw [hks]
      have lw : ws.length = m := by
        have := RVs.length rb
        rw [List.length_append, List.length_append] at this
        omega
      exact run_call F hr tk hb I2 r rz lw lz rb rl2 hl g3
  cases es with
  | nil =>
    have e0 := hn rfl ρ h
    rw [e0] at go1
    exact PySem.W.callWith_KW0 (h₀ := X.base) I.ok.mod.kin hkp hall (kw s H θ h [] [] [] I (After.refl _ _) rl rfl .nil (lm _ _ _ _ e0) (GO.ok rl go1)) hpl
  | cons e r =>
    refine PySem.W.callWith_KW (h₀ := X.base) I.ok.mod.kin hkp hall (thn (ha.run pos pins s σ H (fun ws H1 => ∃ θ1 h1 vs, RVs C.K H1 θ1 vs ws ∧ vs.length = m ∧ After H θ H1 θ1 ∧ Rel C H1 θ1 h1 ∧
      GO C H1 θ1 ((fk ρ h1).bind fun b h2 => match permute pm (vs ++ b) with | some ws => g ws h2 | none => .bad) (VR C Q) (fun cls d H' => W cls d σ H')) I ⟨θ, ρ, h, re, rl, ?_⟩) fun us s1 ⟨ws, H1, I1, r1, θ1, h1, vs, rv, lv, af, rl1, g1⟩ => ?_) hpl (hst e r rfl)
    · cases q : fa ρ h with
      | ok vs h1 =>
        rw [q] at go1
        exact fun H1 θ1 af rl1 ws rv => ⟨θ1, h1, vs, rv, lm _ _ _ _ q, af, rl1, go1 H1 θ1 af rl1⟩
      | exc x k => rw [q] at go1; exact go1
      | bad => rw [q] at go1; exact go1.elim
    · exact kw s1 H1 θ1 h1 vs ws us I1 af rl1 rv r1 lv g1
end
end PM

set_option Elab.async false
set_option linter.all false
set_option maxRecDepth 100000
set_option maxHeartbeats 1000000
/-! PMit: what loops and comprehensions walk. -/
namespace PM
open PySem PySem.Spec PyProof.Rows L2

/-- the iterator J walks the items of s, from the layer's heap H with ours at θ -/
structure WK (C : Cfg) (J : L2.It) (s : Src) (H : Hp) (θ : List Addr) : Prop where
  go : ∀ (i : Nat) Hc θc hc, i < s.1.length → After H θ Hc θc → Rel C Hc θc hc → holds hc s.2 → J.go i Hc
  stop : ∀ Hc θc hc, After H θ Hc θc → Rel C Hc θc hc → holds hc s.2 → J.stop s.1.length Hc
  yld : ∀ (i : Nat) Hc θc hc x Hn v, s.1[i]? = some v → After H θ Hc θc → Rel C Hc θc hc → holds hc s.2 → J.yld i Hc x Hn → After Hc θc Hn θc ∧ Rel C Hn θc hc ∧ RV C.K Hn θc v x

def LI (C : Cfg) (cg : Caught) (W : WX) (f : PM.Env → Heap → Out Src) : TI := fun σ H R => ∃ θ ρ h, RE C cg H θ ρ σ ∧ Rel C H θ h ∧ GO C H θ (f ρ h) (fun s _ H' θ' => ∀ J, WK C J s H' θ' → R J H') (fun cls d H' => W cls d σ H')

section
variable {C : Cfg} {X : Cx} {cg : Caught} {W : WX} {H : Hp} {θ : List Addr} {h : Heap}

/-- a list's address, that is ours or stands aside -/
def Seat (θ : List Addr) (gs : List (Nat × List Val)) (a : Addr) (vs : List Val) : Prop := a ∉ θ ∨ ∃ n, θ[n]? = some a ∧ (n, vs) ∈ gs
/-- a seated list at a later time -/
theorem seat_at {gs : List (Nat × List Val)} {a : Addr} {vs : List Val} {ws : List V} (hw : H a = some (.lst ws)) (rv : RVs C.K H θ vs ws) (st : Seat θ gs a vs) {Hc : Hp} {θc : List Addr} {hc : Heap} (af : After H θ Hc θc) (rl : Rel C Hc θc hc) (hd : holds hc gs) :
    ∃ us, Hc a = some (.lst us) ∧ RVs C.K Hc θc vs us := by
  rcases st with n | ⟨n, e, m⟩
  · exact ⟨ws, af.frm a _ hw n (by intro ps q; cases q), RVs.after af.ext _ _ rv⟩
  · obtain ⟨b, eb, us, hu, r⟩ := rl.ob n _ (hd _ m)
    rw [pre_get af.pre e] at eb
    cases eb
    exact ⟨us, hu, r⟩
theorem wk_list {vs : List Val} {gs : List (Nat × List Val)} {a : Addr} {ws : List V} (hw : H a = some (.lst ws)) (rv : RVs C.K H θ vs ws) (st : Seat θ gs a vs) : WK C (Itl C.K a) (vs, gs) H θ := by
  refine ⟨fun i Hc θc hc hi af rl hd => ?_, fun Hc θc hc af rl hd => ?_, fun i Hc θc hc x Hn v ev af rl hd y => ?_⟩
  · obtain ⟨us, hu, r⟩ := seat_at hw rv st af rl hd
    have hl : i < us.length := by rw [RVs.length r]; exact hi
    exact ⟨us, us[i], .of hu, by simp [hl]⟩
  · obtain ⟨us, hu, r⟩ := seat_at hw rv st af rl hd
    exact ⟨us, .of hu, by rw [RVs.length r]; exact Nat.le_refl _⟩
  · obtain ⟨us, hu, r⟩ := seat_at hw rv st af rl hd
    obtain ⟨e, y⟩ := y
    subst e
    obtain ⟨w, ew, rw'⟩ := r.get ev
    have := y us (.of hu)
    rw [ew] at this; cases this
    exact ⟨After.refl _ _, rl, rw'⟩
theorem wk_listK {vs : List Val} {gs : List (Nat × List Val)} {a : Addr} {ws : List V} (hw : SqF C.K H a ws) (rv : RVs C.K H θ vs ws) : WK C (Itl C.K a) (vs, gs) H θ := by
  have at_ : ∀ {Hc : Hp} {θc : List Addr}, After H θ Hc θc → SqL C.K Hc a ws := fun af => (hw.elim (fun ⟨o, h⟩ => .inl ⟨o, af.imm _ _ h True.intro⟩) .inr : SqF C.K _ a ws).list
  refine ⟨fun i Hc θc hc hi af rl hd => ?_, fun Hc θc hc af rl hd => ?_, fun i Hc θc hc x Hn v ev af rl hd y => ?_⟩
  · have hl : i < ws.length := by rw [RVs.length rv]; exact hi
    exact ⟨ws, ws[i], at_ af, by simp [hl]⟩
  · exact ⟨ws, at_ af, by rw [RVs.length rv]; exact Nat.le_refl _⟩
  · obtain ⟨e, y⟩ := y
    subst e
    obtain ⟨w, ew, rw'⟩ := (RVs.after af.ext _ _ rv).get ev
    have := y ws (at_ af)
    rw [ew] at this; cases this
    exact ⟨After.refl _ _, rl, rw'⟩
theorem wk_tup {vs : List Val} {gs : List (Nat × List Val)} {a : Addr} {ws : List V} (hw : SqT C.K H a ws) (rv : RVs C.K H θ vs ws) : WK C (Itt C.K a) (vs, gs) H θ := by
  refine ⟨fun i Hc θc hc hi af rl hd => ?_, fun Hc θc hc af rl hd => ?_, fun i Hc θc hc x Hn v ev af rl hd y => ?_⟩
  · have hl : i < ws.length := by rw [RVs.length rv]; exact hi
    exact ⟨ws, ws[i], sqT_after af.ext hw, by simp [hl]⟩
  · exact ⟨ws, sqT_after af.ext hw, by rw [RVs.length rv]; exact Nat.le_refl _⟩
  · obtain ⟨e, y⟩ := y
    subst e
    obtain ⟨w, ew, rw'⟩ := (RVs.after af.ext _ _ rv).get ev
    have := y ws (sqT_after af.ext hw)
    rw [ew] at this; cases this
    exact ⟨After.refl _ _, rl, rw'⟩
theorem range_get {i : Int} {n k : Nat} {v : Val} (e : (rangeV i n)[k]? = some v) : v = .int (i + k) ∧ k < n := by
  unfold rangeV at e
  rw [List.getElem?_map] at e
  cases q : (List.range n)[k]? with
  | none => rw [q] at e; cases e
  | some j =>
    rw [q] at e
    obtain ⟨h1, h2⟩ := List.getElem?_eq_some_iff.mp q
    rw [List.getElem_range] at h2
    subst h2
    cases e
    exact ⟨rfl, by simpa using h1⟩
theorem wk_range {i : Int} {n : Nat} : WK C (Itr i n) (rangeV i n, []) H θ := by
  have hl : (rangeV i n).length = n := by simp [rangeV]
  refine ⟨fun k Hc θc hc hi af rl hd => by rw [hl] at hi; exact hi, fun Hc θc hc af rl hd => by rw [hl]; exact Nat.le_refl _, fun k Hc θc hc x Hn v ev af rl hd y => ?_⟩
  obtain ⟨e1, e2⟩ := range_get ev
  obtain ⟨e, y⟩ := y
  subst e y e1
  exact ⟨After.refl _ _, rl, rfl⟩

/-- a source may be dropped where nothing else reaches it; T: the items that are walked -/
theorem drop_go {s : Src} {T : List Val} {k : Heap} {R : L2.It → Hp → Prop} {E : Value → Option Addr → Hp → Prop} {H0 : Hp} {θ0 : List Addr} {h0 : Heap} (rl0 : Rel C H0 θ0 h0) {H' : Hp} {θ' : List Addr} (af : After H0 θ0 H' θ') (rl' : Rel C H' θ' k)
    (g : GO C H0 θ0 ((dropSrc h0 s k).bind fun q k => .ok (T, q.2) k) (fun s _ H' θ' => ∀ J, WK C J s H' θ' → R J H') E) {J : L2.It}
    (w : ∀ (gs : List (Nat × List Val)) (θ1 : List Addr), θ1 <+: θ' → (flats s.1 = true ∨ θ1 = θ') → (∀ g ∈ s.2, θ1.length ≤ g.1 ∨ g ∈ gs) → WK C J (T, gs) H' θ1) : R J H' := by
  unfold dropSrc at g
  split at g
  · rename_i c
    refine g H' θ0 af.drop (rl0.drop af rl' c.1) J (w _ θ0 af.pre (.inl c.2) fun q hq => ?_)
    by_cases hlt : q.1 < h0.length
    · exact .inr (List.mem_filter.mpr ⟨hq, by simpa using hlt⟩)
    · exact .inl (by rw [rl0.len]; omega)
  · exact g H' θ' af rl' J (w s.2 θ' (List.prefix_refl _) (.inr rfl) fun q hq => .inr hq)
theorem drop_self {s : Src} {k h0 : Heap} : dropSrc h0 s k = (dropSrc h0 s k).bind fun q k => .ok (s.1, q.2) k := by
  unfold dropSrc
  split <;> rfl
theorem src_inv {v : Val} {s : Src} (e : src1 h v = some s) : (∃ vs, v = .tup vs ∧ s = (vs, [])) ∨ (∃ vs, v = .scr vs ∧ s = (vs, [])) ∨ ∃ n vs, v = .ref n ∧ h[n]? = some (.lst vs) ∧ s = (vs, [(n, vs)]) := by
  unfold src1 at e
  split at e
  · cases e; exact .inl ⟨_, rfl, rfl⟩
  · cases e; exact .inr (.inl ⟨_, rfl, rfl⟩)
  · rename_i n
    split at e
    · rename_i vs q
      cases e
      obtain ⟨m, em, q'⟩ := lst_inv q
      cases em
      exact .inr (.inr ⟨n, vs, rfl, q', rfl⟩)
    · cases e
  · cases e
theorem nodup_get {θ : List Addr} (nd : θ.Nodup) {i j : Nat} {a : Addr} (e : θ[i]? = some a) (f : θ[j]? = some a) : i = j := by
  obtain ⟨h1, e1⟩ := List.getElem?_eq_some_iff.mp e
  obtain ⟨h2, e2⟩ := List.getElem?_eq_some_iff.mp f
  exact (List.getElem_inj nd).mp (e1.trans e2.symm)
theorem seat_of {θ θ1 : List Addr} (nd : θ.Nodup) (p : θ1 <+: θ) {n : Nat} {a : Addr} {vs : List Val} {gs : List (Nat × List Val)} (e : θ[n]? = some a) (c : θ1.length ≤ n ∨ (n, vs) ∈ gs) : Seat θ1 gs a vs := by
  by_cases hn : n < θ1.length
  · have e1 : θ1[n]? = some a := by
      obtain ⟨r, rfl⟩ := p
      rw [List.getElem?_append_left hn] at e
      exact e
    rcases c with c | c
    · omega
    · exact .inr ⟨n, e1, c⟩
  · refine .inl fun m => ?_
    obtain ⟨j, hj, ej⟩ := List.getElem_of_mem m
    have := nodup_get nd (pre_get p (show θ1[j]? = some a by simp [hj, ej])) e
    omega
/-- a value's items at a place where they are told by fewer places -/
theorem rvs_at {vs : List Val} {ws : List V} {θ1 : List Addr} (p : θ1 <+: θ) (c : flats vs = true ∨ θ1 = θ) (r : RVs C.K H θ vs ws) : RVs C.K H θ1 vs ws := by
  rcases c with c | c
  · exact RVs.flat _ _ c r
  · rw [c]; exact r

/-- an iterator of a list, of a tuple, by values -/
theorem it_list {tg : Expr} {pins : List (Addr × Obj)} {σ : L2.St} {s1 : Shared} {H1 : Hp} {R : L2.It → Hp → Prop} {a : Addr} {xs : List V} (I1 : L2.Inv X pins σ H1 s1) (hq : SqL X.K H1 a xs) (q : R (Itl X.K a) H1) :
    wpAny (model X.prog X.w) X.A (pyIter (.ref a)) (PIE X pins σ tg R) X.xe s1 := by
  obtain ⟨its, rv, p, hz⟩ := I1.list hq
  refine wpAny_pyIter_list p.isList ?_
  refine ⟨s1.heap.objs.size, [s1.heap.objs.size], _, _, H1, rfl, I1.kept (t' := s1.toks) fun b o e => Heap.get?_push_of_some _ e, turn_list a _, ⟨_, Heap.get?_push_size _ rfl, rfl, rfl⟩, fun b hb => ?_, q⟩
  have e : b = s1.heap.objs.size := by simpa using hb
  subst e
  exact I1.fpOk (Nat.le_refl _) (I1.hok.fresh (Nat.le_refl _))
theorem it_tup {tg : Expr} {pins : List (Addr × Obj)} {σ : L2.St} {s1 : Shared} {H1 : Hp} {R : L2.It → Hp → Prop} {a : Addr} {xs : List V} (I1 : L2.Inv X pins σ H1 s1) (hq : SqT X.K H1 a xs) (q : R (Itt X.K a) H1) :
    wpAny (model X.prog X.w) X.A (pyIter (.ref a)) (PIE X pins σ tg R) X.xe s1 := by
  obtain ⟨its, rv, p, hz⟩ := I1.tuple hq
  refine wpAny_pyIter_tuple (show s1.heap.IsTuple a its.toArray from p) ?_
  refine ⟨s1.heap.objs.size, [s1.heap.objs.size], _, _, H1, rfl, I1.kept (t' := s1.toks) fun b o e => Heap.get?_push_of_some _ e, turn_tuple a _, ⟨_, Heap.get?_push_size _ rfl, rfl, rfl⟩, fun b hb => ?_, q⟩
  have e : b = s1.heap.objs.size := by simpa using hb
  subst e
  exact I1.fpOk (Nat.le_refl _) (I1.hok.fresh (Nat.le_refl _))
/-- for x in e: a list, a tuple -/
theorem ji_ex {tg e : Expr} {f : PM.Env → Heap → Out Val} (hK : X.K = C.K) (he : PE X e (LE C cg W f)) : PI X tg e (LI C cg W (fun ρ h => (f ρ h).bind fun v k => (PM.ofO (src1 k v) k).bind fun s k => dropSrc h s k)) := by
  refine ⟨fun pins s σ H R I ⟨θ, ρ, h, re, rl, g⟩ => ?_⟩
  refine thn (he.run pins s σ H (fun x H1 => ∃ v k θ1, f ρ h = .ok v k ∧ RV C.K H1 θ1 v x ∧ Rel C H1 θ1 k ∧ After H θ H1 θ1) I ⟨θ, ρ, h, re, rl, ?_⟩) fun u s1 ⟨x, H1, I1, r1, v, k, θ1, q, rv, rl1, af⟩ => ?_
  · cases q : f ρ h with
    | ok v k => exact fun H1 θ1 af rl1 w rw' => ⟨v, k, θ1, rfl, rw', rl1, af⟩
    | exc x k => dsimp only at g; rw [q] at g; exact g
    | bad => dsimp only at g; rw [q] at g; exact g.elim
  · dsimp only at g
    rw [q, Out.bind_ok] at g
    cases q2 : src1 k v with
    | none => rw [q2] at g; exact g.elim
    | some sc =>
      rw [q2, ofO_some, Out.bind_ok, drop_self] at g
      rcases src_inv q2 with ⟨vs, rfl, rfl⟩ | ⟨vs, rfl, rfl⟩ | ⟨n, vs, rfl, e, rfl⟩
      · obtain ⟨a, ws, rfl, sq, r⟩ := rv
        cases r1
        exact it_tup I1 (hK ▸ sq) (hK ▸ drop_go rl af rl1 g fun gs θ2 p c _ => wk_tup sq (rvs_at p c r))
      · obtain ⟨a, ws, rfl, sq, r⟩ := rv
        cases r1
        exact it_list I1 (hK ▸ sq.list) (hK ▸ drop_go rl af rl1 g fun gs θ2 p c _ => wk_listK sq (rvs_at p c r))
      · obtain ⟨a, rfl, ta⟩ := rv
        cases r1
        obtain ⟨b, eb, ws, hw, r⟩ := rl1.ob n _ e
        rw [ta] at eb; cases eb
        exact it_list I1 (xs := ws) (SqL.of hw) (hK ▸ drop_go rl af rl1 g fun gs θ2 p c m => wk_list hw (rvs_at p c r) (seat_of rl1.nd p ta (m (n, vs) (List.mem_singleton.mpr rfl))))
/-- range -/
theorem ji_range1 {tg a : Expr} {f : PM.Env → Heap → Out Val} {p pos : Pos} (hg : Gl X "range") (hm : X.mg "range" = none) (ha : PE X a (LE C cg W f)) (hs : starEach [a] X.env = [(false, eval a X.env)]) :
    PI X tg (.Call (.Name "range" p) [a] [] pos) (LI C cg W (fun ρ h => (trim h (f ρ h)).bind fun v k => match v with
    | .int j => if -(2 ^ 62) ≤ j ∧ j < 2 ^ 62 then .ok (rangeV 0 j.toNat, []) k else .bad
    | _ => .bad)) := by
  have one : PA X [a] (tCons (LE C cg W f) tNil) := pa_cons ha pa_nil (by rw [hs]; rfl)
  refine ⟨fun pins s σ H R I ⟨θ, ρ, h, re, rl, g⟩ => (pi_range1 hg hm one hs).run pins s σ H R I ⟨θ, ρ, h, re, rl, ?_⟩⟩
  have g1 := GO.bind g
  have g2 : GO C H θ (trim h (f ρ h)) (VR C fun x H1 => ∃ j : Int, [x] = [.int j] ∧ -(2 ^ 62) ≤ j ∧ j < 2 ^ 62 ∧ R (Itr 0 j.toNat) H1) (fun cls d H' => W cls d σ H') := g1.imp fun v k H1 θ1 af rl1 g w rv => by
    split at g
    · rename_i j
      split at g
      · rename_i c
        cases rv
        exact ⟨j, rfl, c.1, c.2, GO.ok rl1 g _ wk_range⟩
      · exact g.elim
    · exact g.elim
  exact GO.trim rl g2
theorem ji_range2 {tg a b : Expr} {f f2 : PM.Env → Heap → Out Val} {p pos : Pos} (hg : Gl X "range") (hm : X.mg "range" = none) (ha : PE X a (LE C cg W f)) (hb : PE X b (LE C cg W f2)) (hs : starEach [a, b] X.env = [(false, eval a X.env), (false, eval b X.env)]) (hs2 : starEach [b] X.env = [(false, eval b X.env)]) :
    PI X tg (.Call (.Name "range" p) [a, b] [] pos) (LI C cg W (fun ρ h => (trim h (f ρ h)).bind fun v k => (trim k (f2 ρ k)).bind fun w k => match v, w with
    | .int i, .int j => if -(2 ^ 62) ≤ i ∧ i < 2 ^ 62 ∧ -(2 ^ 62) ≤ j ∧ j < 2 ^ 62 then .ok (rangeV i (j - i).toNat, []) k else .bad
    | _, _ => .bad)) := by
  have two : PA X [a, b] (tCons (LE C cg W f) (tCons (LE C cg W f2) tNil)) := pa_cons ha (pa_cons hb pa_nil (by rw [hs2]; rfl)) (by rw [hs, hs2])
  refine ⟨fun pins s σ H R I ⟨θ, ρ, h, re, rl, g⟩ => (pi_range2 hg hm two hs hs2).run pins s σ H R I ⟨θ, ρ, h, re, rl, ?_⟩⟩
  refine GO.trim rl ((GO.bind g).imp fun v k H1 θ1 af rl1 g1 w rv => ⟨θ1, ρ, k, re.after af, rl1, GO.trim rl1 ((GO.bind g1).imp fun v2 k2 H2 θ2 af2 rl2 g2 w2 rv2 => ?_)⟩)
  split at g2
  · rename_i i j
    split at g2
    · rename_i c
      cases rv; cases rv2
      exact ⟨i, j, rfl, c, GO.ok rl2 g2 _ wk_range⟩
    · exact g2.elim
  · exact g2.elim
/-! ### pairs -/
theorem pair_get : ∀ {vs ws : List Val} {i : Nat} {v : Val}, (pairUp vs ws)[i]? = some v → ∃ x y, v = .tup [x, y] ∧ vs[i]? = some x ∧ ws[i]? = some y
  | [], _, _, _, e => by simp [pairUp] at e
  | _ :: _, [], _, _, e => by simp [pairUp] at e
  | x :: vs, y :: ws, 0, v, e => by simp [pairUp] at e; exact ⟨x, y, e.symm, rfl, rfl⟩
  | x :: vs, y :: ws, i + 1, v, e => by
    obtain ⟨x', y', h1, h2, h3⟩ := pair_get (i := i) (by simpa [pairUp] using e)
    exact ⟨x', y', h1, by simpa using h2, by simpa using h3⟩
theorem pair_length : ∀ {vs ws : List Val}, (pairUp vs ws).length = min vs.length ws.length
  | [], _ => by simp [pairUp]
  | _ :: _, [] => by simp [pairUp]
  | x :: vs, y :: ws => by simp [pairUp, pair_length]
theorem flats_pair : ∀ {vs ws : List Val}, flats vs = true → flats ws = true → flats (pairUp vs ws) = true
  | [], _, _, _ => by simp [pairUp, flats]
  | _ :: _, [], _, _ => by simp [pairUp, flats]
  | x :: vs, y :: ws, a, b => by
    have a' : x.flat = true ∧ flats vs = true := by simpa [flats] using a
    have b' : y.flat = true ∧ flats ws = true := by simpa [flats] using b
    simp [pairUp, flats, Val.flat, a'.1, b'.1, flats_pair a'.2 b'.2]
/-- the pair that a turn makes -/
theorem pair_rel {Hc : Hp} {θc : List Addr} {hc : Heap} (rl : Rel C Hc θc hc) {T : Addr} {x y : V} {v w : Val} (n : Hc T = none) (rx : RV C.K Hc θc v x) (ry : RV C.K Hc θc w y) :
    After Hc θc (upd Hc T (.tup [x, y])) θc ∧ Rel C (upd Hc T (.tup [x, y])) θc hc ∧ RV C.K (upd Hc T (.tup [x, y])) θc (.tup [v, w]) (.ref T) :=
  ⟨After.side n, rl.side n, T, [x, y], rfl, .of upd_same, x, [y], rfl, RV.after (After.side n).ext _ _ rx, y, [], rfl, RV.after (After.side n).ext _ _ ry, rfl⟩
theorem wk_zipT {vs ws : List Val} {gs : List (Nat × List Val)} {a b : Addr} {xs ys : List V} (hx : SqT C.K H a xs) (hy : SqT C.K H b ys) (rx : RVs C.K H θ vs xs) (ry : RVs C.K H θ ws ys) : WK C (RZ.ItzT C.K a b) (pairUp vs ws, gs) H θ := by
  have lx := RVs.length rx
  have ly := RVs.length ry
  refine ⟨fun i Hc θc hc hi af rl hd => ?_, fun Hc θc hc af rl hd => ⟨xs, ys, sqT_after af.ext hx, sqT_after af.ext hy, ?_⟩, fun i Hc θc hc x Hn v ev af rl hd y => ?_⟩
  · have hi : i < (pairUp vs ws).length := hi
    rw [pair_length] at hi
    have h1 : i < xs.length := by omega
    have h2 : i < ys.length := by omega
    exact ⟨xs, ys, xs[i], ys[i], sqT_after af.ext hx, sqT_after af.ext hy, by simp [h1], by simp [h2]⟩
  · show xs.length ≤ (pairUp vs ws).length ∨ ys.length ≤ (pairUp vs ws).length
    rw [pair_length]; omega
  · obtain ⟨p, q, rfl, e1, e2⟩ := pair_get ev
    obtain ⟨T, x1, y1, rfl, n, rfl, h1, h2⟩ := y
    obtain ⟨z1, f1, r1⟩ := (RVs.after af.ext _ _ rx).get e1
    obtain ⟨z2, f2, r2⟩ := (RVs.after af.ext _ _ ry).get e2
    have g1 := h1 xs (sqT_after af.ext hx)
    have g2 := h2 ys (sqT_after af.ext hy)
    rw [f1] at g1; cases g1
    rw [f2] at g2; cases g2
    exact pair_rel rl n r1 r2
theorem wk_zip {vs ws : List Val} {gs : List (Nat × List Val)} {a b : Addr} {xs ys : List V} (hx : H a = some (.lst xs)) (hy : H b = some (.lst ys)) (rx : RVs C.K H θ vs xs) (ry : RVs C.K H θ ws ys) (sx : Seat θ gs a vs) (sy : Seat θ gs b ws) : WK C (Itz C.K a b) (pairUp vs ws, gs) H θ := by
  refine ⟨fun i Hc θc hc hi af rl hd => ?_, fun Hc θc hc af rl hd => ?_, fun i Hc θc hc x Hn v ev af rl hd y => ?_⟩
  · obtain ⟨us, hu, ru⟩ := seat_at hx rx sx af rl hd
    obtain ⟨zs, hz, rz⟩ := seat_at hy ry sy af rl hd
    have hi : i < (pairUp vs ws).length := hi
    rw [pair_length] at hi
    have h1 : i < us.length := by rw [RVs.length ru]; omega
    have h2 : i < zs.length := by rw [RVs.length rz]; omega
    exact ⟨us, zs, us[i], zs[i], .of hu, .of hz, by simp [h1], by simp [h2]⟩
  · obtain ⟨us, hu, ru⟩ := seat_at hx rx sx af rl hd
    obtain ⟨zs, hz, rz⟩ := seat_at hy ry sy af rl hd
    refine ⟨us, zs, .of hu, .of hz, ?_⟩
    show us.length ≤ (pairUp vs ws).length ∨ zs.length ≤ (pairUp vs ws).length
    rw [pair_length, RVs.length ru, RVs.length rz]; omega
  · obtain ⟨us, hu, ru⟩ := seat_at hx rx sx af rl hd
    obtain ⟨zs, hz, rz⟩ := seat_at hy ry sy af rl hd
    obtain ⟨p, q, rfl, e1, e2⟩ := pair_get ev
    obtain ⟨T, x1, y1, rfl, n, rfl, h1, h2⟩ := y
    obtain ⟨z1, f1, r1⟩ := ru.get e1
    obtain ⟨z2, f2, r2⟩ := rz.get e2
    have g1 := h1 us (.of hu)
    have g2 := h2 zs (.of hz)
    rw [f1] at g1; cases g1
    rw [f2] at g2; cases g2
    exact pair_rel rl n r1 r2
/-- a source's items, told -/
theorem src_rv {v : Val} {s : Src} {x : V} (rl : Rel C H θ h) (rv : RV C.K H θ v x) (e0 : src1 h v = some s) : ∃ a ws, x = .ref a ∧ RVs C.K H θ s.1 ws ∧ ((SqT C.K H a ws ∧ s.2 = [] ∧ ∃ vs, v = .tup vs) ∨ (SqF C.K H a ws ∧ s.2 = []) ∨ (H a = some (.lst ws) ∧ ∃ n, θ[n]? = some a ∧ s.2 = [(n, s.1)] ∧ v = .ref n)) := by
  rcases src_inv e0 with ⟨vs, rfl, rfl⟩ | ⟨vs, rfl, rfl⟩ | ⟨n, vs, rfl, e, rfl⟩
  · obtain ⟨a, ws, rfl, sq, r⟩ := rv
    exact ⟨a, ws, rfl, r, .inl ⟨sq, rfl, vs, rfl⟩⟩
  · obtain ⟨a, ws, rfl, sq, r⟩ := rv
    exact ⟨a, ws, rfl, r, .inr (.inl ⟨sq, rfl⟩)⟩
  · obtain ⟨a, rfl, ta⟩ := rv
    obtain ⟨b, eb, ws, hw, r⟩ := rl.ob n _ e
    rw [ta] at eb; cases eb
    exact ⟨a, ws, rfl, r, .inr (.inr ⟨hw, n, ta, rfl, rfl⟩)⟩
theorem flats_append : ∀ {vs ws : List Val}, flats (vs ++ ws) = true → flats vs = true ∧ flats ws = true
  | [], _, f => ⟨rfl, f⟩
  | x :: vs, ws, f => by
    have f' : x.flat = true ∧ flats (vs ++ ws) = true := by simpa [flats] using f
    have ih := flats_append f'.2
    exact ⟨by simp [flats, f'.1, ih.1], ih.2⟩
/-- zip of two lists, of two tuples, in a for with a written pair -/
theorem ji_zip {a b : Expr} {elts : List Expr} {kk : Nat} {tpos p pos : Pos} {fa fb : PM.Env → Heap → Out Val} (hK : X.K = C.K) (hg : Gl X "zip") (hm : X.mg "zip" = none) (ha : PE X a (LE C cg W fa)) (hb : PE X b (LE C cg W fb)) (hs : starEach [a, b] X.env = [(false, eval a X.env), (false, eval b X.env)]) (hs2 : starEach [b] X.env = [(false, eval b X.env)]) :
    PI X (.Tuple elts kk tpos) (.Call (.Name "zip" p) [a, b] [] pos) (LI C cg W (fun ρ h => (fa ρ h).bind fun v k => (fb ρ k).bind fun w k => if alike k v w then (PM.ofO (src1 k v) k).bind fun s k => (PM.ofO (src1 k w) k).bind fun r k =>
      (dropSrc h (s.1 ++ r.1, s.2 ++ r.2) k).bind fun q k => .ok (pairUp s.1 r.1, q.2) k else .bad)) := by
  have two : PA X [a, b] (tCons (LE C cg W fa) (tCons (LE C cg W fb) tNil)) := pa_cons ha (pa_cons hb pa_nil (by rw [hs2]; rfl)) (by rw [hs, hs2])
  refine ⟨fun pins s σ H R I ⟨θ, ρ, h, re, rl, g⟩ => (RZ.pi_zipA hg hm two (by rw [hs, hs2]) (by rw [hs2]; rfl)).run pins s σ H R I ?_⟩
  dsimp only at g
  refine ⟨θ, ρ, h, re, rl, ?_⟩
  cases q1 : fa ρ h with
  | bad => rw [q1] at g; exact g.elim
  | exc x k => rw [q1] at g; exact g
  | ok v k1 =>
    rw [q1, Out.bind_ok] at g
    intro H1 θ1 af1 rl1 x rv
    refine ⟨θ1, ρ, k1, re.after af1, rl1, ?_⟩
    cases q2 : fb ρ k1 with
    | bad => rw [q2] at g; exact g.elim
    | exc x k => rw [q2] at g; exact fun H' θ' cls d a => g H' θ' cls d (af1.trans a)
    | ok w k2 =>
      rw [q2, Out.bind_ok] at g
      intro H2 θ2 af2 rl2 y rw'
      have rv2 := RV.after af2.ext _ _ rv
      have af := af1.trans af2
      split at g
      · rename_i al
        cases q3 : src1 k2 v with
        | none => rw [q3] at g; exact g.elim
        | some sv =>
          rw [q3, ofO_some, Out.bind_ok] at g
          cases q4 : src1 k2 w with
          | none => rw [q4] at g; exact g.elim
          | some sw =>
            rw [q4, ofO_some, Out.bind_ok] at g
            have cases_ : (∃ us zs, v = .tup us ∧ w = .tup zs) ∨ ((lst? k2 v).isSome = true ∧ (lst? k2 w).isSome = true) := by
              unfold alike at al
              split at al
              · exact .inl ⟨_, _, rfl, rfl⟩
              · exact .inr (by simpa using al)
            rcases cases_ with ⟨us, zs, e1, e2⟩ | ⟨e1, e2⟩
            · subst e1 e2
              cases q3; cases q4
              obtain ⟨p1, xs, rfl, s1, r1⟩ := rv2
              obtain ⟨p2, ys, rfl, s2, r2⟩ := rw'
              refine ⟨p1, p2, xs, ys, rfl, .inr ⟨hK ▸ s1, hK ▸ s2, hK ▸ drop_go rl af rl2 g fun gs θ3 p c m => ?_⟩⟩
              rcases c with c | c
              · exact wk_zipT s1 s2 (RVs.flat _ _ (flats_append c).1 r1) (RVs.flat _ _ (flats_append c).2 r2)
              · rw [c]; exact wk_zipT s1 s2 r1 r2
            · obtain ⟨us, e1⟩ := Option.isSome_iff_exists.mp e1
              obtain ⟨zs, e2⟩ := Option.isSome_iff_exists.mp e2
              obtain ⟨n1, rfl, f1⟩ := lst_inv e1
              obtain ⟨n2, rfl, f2⟩ := lst_inv e2
              have h3 : sv = (us, [(n1, us)]) := by
                have : src1 k2 (.ref n1) = some (us, [(n1, us)]) := by simp only [src1, e1]
                rw [this] at q3; cases q3; rfl
              have h4 : sw = (zs, [(n2, zs)]) := by
                have : src1 k2 (.ref n2) = some (zs, [(n2, zs)]) := by simp only [src1, e2]
                rw [this] at q4; cases q4; rfl
              subst h3 h4
              obtain ⟨p1, rfl, t1⟩ := rv2
              obtain ⟨p2, rfl, t2⟩ := rw'
              obtain ⟨b1, g1, xs, s1, r1⟩ := rl2.ob n1 _ f1
              obtain ⟨b2, g2, ys, s2, r2⟩ := rl2.ob n2 _ f2
              rw [t1] at g1; cases g1
              rw [t2] at g2; cases g2
              refine ⟨p1, p2, xs, ys, rfl, .inl ⟨SqL.of s1, SqL.of s2, hK ▸ drop_go rl af rl2 g fun gs θ3 p c m => ?_⟩⟩
              have seat1 := seat_of rl2.nd p t1 (m (n1, us) (by simp))
              have seat2 := seat_of rl2.nd p t2 (m (n2, zs) (by simp))
              rcases c with c | c
              · exact wk_zip s1 s2 (RVs.flat _ _ (flats_append c).1 r1) (RVs.flat _ _ (flats_append c).2 r2) seat1 seat2
              · subst c; exact wk_zip s1 s2 r1 r2 seat1 seat2
      · exact g.elim
end
end PM

set_option Elab.async false
set_option linter.all false
set_option maxRecDepth 100000
set_option maxHeartbeats 1000000
/-! PMstm: targets, comprehensions, statements. -/
namespace PM
open PySem PySem.Spec PyProof.Rows L2

/-- nothing but the slots in S is another -/
def Off (S : List Nat) (σ σ' : L2.St) : Prop := σ'.length = σ.length ∧ ∀ i, i ∉ S → σ'[i]? = σ[i]?
theorem Off.refl (S : List Nat) (σ : L2.St) : Off S σ σ := ⟨rfl, fun _ _ => rfl⟩
theorem Off.trans {S : List Nat} {σ σ1 σ2 : L2.St} (a : Off S σ σ1) (b : Off S σ1 σ2) : Off S σ σ2 := ⟨b.1.trans a.1, fun i h => (b.2 i h).trans (a.2 i h)⟩
theorem Off.mono {S S' : List Nat} {σ σ' : L2.St} (a : Off S σ σ') (h : ∀ i ∈ S, i ∈ S') : Off S' σ σ' := ⟨a.1, fun i n => a.2 i fun m => n (h i m)⟩
theorem Off.set {S : List Nat} {σ : L2.St} {i : Nat} {w : Option V} (h : i ∈ S) : Off S σ (σ.set i w) := ⟨by simp, fun j n => by rw [List.getElem?_set_ne]; rintro rfl; exact n h⟩
theorem wipe_get (σ : L2.St) : ∀ (S : List Nat) (i : Nat), (L2.wipe σ S)[i]? = if i ∈ S then (if i < σ.length then some none else none) else σ[i]?
  | [], i => by simp [L2.wipe]
  | v :: S, i => by
    unfold L2.wipe
    by_cases e : v = i
    · subst e
      by_cases hl : v < σ.length
      · rw [List.getElem?_set_self (by rw [wipe_length]; exact hl)]; simp [hl]
      · rw [List.getElem?_eq_none (by rw [List.length_set, wipe_length]; omega)]; simp [hl]
    · rw [List.getElem?_set_ne e, wipe_get σ S i]
      simp [show ¬ i = v from fun q => e q.symm]
theorem wipe_wipe (S : List Nat) (σ : L2.St) : L2.wipe (L2.wipe σ S) S = L2.wipe σ S := by
  apply List.ext_getElem?
  intro i
  rw [wipe_get, wipe_get, wipe_length]
  by_cases h : i ∈ S <;> simp [h]
theorem Off.wipe {S : List Nat} {σ σ' : L2.St} (a : Off S σ σ') : L2.wipe σ' S = L2.wipe σ S := by
  apply List.ext_getElem?
  intro i
  rw [wipe_get, wipe_get, a.1]
  by_cases h : i ∈ S
  · simp [h]
  · simp [h, a.2 i h]

section
variable {C : Cfg} {X : Cx} {cg : Caught} {W : WX}
/-- the reading of a target; nothing is raised in one -/
def LG (C : Cfg) (cg : Caught) (S : List Nat) (f : Val → PM.Env → Heap → Out PM.Env) : TG := fun w σ H Q => ∃ θ ρ h v, RV C.K H θ v w ∧ RE C cg H θ ρ σ ∧ Rel C H θ h ∧
  GO C H θ (f v ρ h) (fun ρ' _ H' θ' => ∀ σ', RE C cg H' θ' ρ' σ' → Off S σ σ' → Q σ' H') (fun _ _ _ => False)
def LGs (C : Cfg) (cg : Caught) (S : List Nat) (f : List Val → PM.Env → Heap → Out PM.Env) : TGs := fun ws σ H Q => ∃ θ ρ h vs, RVs C.K H θ vs ws ∧ RE C cg H θ ρ σ ∧ Rel C H θ h ∧
  GO C H θ (f vs ρ h) (fun ρ' _ H' θ' => ∀ σ', RE C cg H' θ' ρ' σ' → Off S σ σ' → Q σ' H') (fun _ _ _ => False)
theorem _root_.L2.PG.weak {e : Expr} {t t' : TG} (h : PG X e t) (w : ∀ v σ H Q, t' v σ H Q → t v σ H Q) : PG X e t' := ⟨fun pins s σ H v u Q I r q => h.run pins s σ H v u Q I r (w v σ H Q q)⟩
theorem _root_.L2.PGs.weak {e : List Expr} {t t' : TGs} (h : PGs X e t) (w : ∀ v σ H Q, t' v σ H Q → t v σ H Q) : PGs X e t' := ⟨fun pins s σ H v u Q I r q => h.run pins s σ H v u Q I r (w v σ H Q q)⟩
noncomputable def nameT (i : Nat) : Val → PM.Env → Heap → Out PM.Env := fun v ρ h => if i < ρ.length then .ok (ρ.set i (.v v)) h else .bad
theorem jg_name {S : List Nat} {i : Nat} {x : Str} {pos : Pos} (hN : X.N.Nodup) (hi : X.N[i]? = some x) (hx : Loc X.env.scope x) (hf : X.fn x = true ∨ X.env.scope.names.lookup x = some .local) (hS : i ∈ S) : PG X (.Name x pos) (LG C cg S (nameT i)) :=
  (pg_name hN hi hx hf).weak fun w σ H Q ⟨θ, ρ, h, v, rv, re, rl, g⟩ => by
    unfold nameT at g
    split at g
    · exact GO.ok rl g _ (re.set rv i) (Off.set hS)
    · exact g.elim
theorem jgs_nil {S : List Nat} : PGs X [] (LGs C cg S (fun vs ρ h => match vs with | [] => .ok ρ h | _ => .bad)) :=
  pgs_nil.weak fun ws σ H Q ⟨θ, ρ, h, vs, rv, re, rl, g⟩ => by
    cases vs with
    | nil => cases rv; exact ⟨rfl, GO.ok rl g _ re (Off.refl _ _)⟩
    | cons _ _ => exact g.elim
noncomputable def consT (f : Val → PM.Env → Heap → Out PM.Env) (r : List Val → PM.Env → Heap → Out PM.Env) : List Val → PM.Env → Heap → Out PM.Env := fun vs ρ h => match vs with
  | v :: vs => (f v ρ h).bind fun ρ1 h1 => r vs ρ1 h1
  | _ => .bad
theorem jgs_cons {S : List Nat} {e : Expr} {es : List Expr} {f : Val → PM.Env → Heap → Out PM.Env} {r : List Val → PM.Env → Heap → Out PM.Env} (h1 : PG X e (LG C cg S f)) (h2 : PGs X es (LGs C cg S r)) (hs : (assignEach (e :: es) X.env).map (·.2) = assign e X.env :: (assignEach es X.env).map (·.2)) :
    PGs X (e :: es) (LGs C cg S (consT f r)) :=
  (pgs_cons h1 h2 hs).weak fun ws σ H Q ⟨θ, ρ, h, vs, rv, re, rl, g⟩ => by
    cases vs with
    | nil => exact g.elim
    | cons v vs =>
      obtain ⟨w, r', e, a, b⟩ := rv
      refine ⟨w, r', e, θ, ρ, h, v, a, re, rl, (GO.bind (show GO C H θ ((f v ρ h).bind fun ρ1 h1 => r vs ρ1 h1) _ _ from g)).imp fun ρ1 h1 H1 θ1 af rl1 g1 σ1 re1 o1 => ?_⟩
      exact ⟨θ1, ρ1, h1, vs, RVs.after af.ext _ _ b, re1, rl1, g1.imp fun ρ2 h2 H2 θ2 af2 rl2 g2 σ2 re2 o2 => g2 σ2 re2 (o1.trans o2)⟩
theorem jg_tup {S : List Nat} {es : List Expr} {k n : Nat} {pos : Pos} {f : List Val → PM.Env → Heap → Out PM.Env} (hK : X.K = C.K) (hc : X.calm = true) (h : PGs X es (LGs C cg S f)) (hn : (assignEach es X.env).length = n) (hst : (assignEach es X.env).findIdx? (·.1) = none)
    (hl : ∀ vs ρ h ρ1 h1, f vs ρ h = .ok ρ1 h1 → vs.length = n) (hx : ∀ vs ρ h x h1, f vs ρ h ≠ .exc x h1) : PG X (.Tuple es k pos) (LG C cg S (fun v ρ h => match v with | .tup vs => f vs ρ h | _ => .bad)) :=
  (pg_tup hc h hn hst).weak fun w σ H Q ⟨θ, ρ, h, v, rv, re, rl, g⟩ => by
    cases v with
    | tup vs =>
      obtain ⟨a, ws, rfl, sq, r⟩ := rv
      have g : GO C H θ (f vs ρ h) _ _ := g
      refine ⟨a, ws, rfl, hK ▸ sq, ?_, θ, ρ, h, vs, r, re, rl, g⟩
      rw [RVs.length r]
      cases q : f vs ρ h with
      | ok ρ1 h1 => exact hl _ _ _ _ _ q
      | exc x k => exact absurd q (hx _ _ _ _ _)
      | bad => rw [q] at g; exact g.elim
    | _ => exact g.elim
theorem GO.noX {α : Type} {H : Hp} {θ : List Addr} {o : Out α} {R : α → Heap → Hp → List Addr → Prop} {E E' : Value → Option Addr → Hp → Prop} (g : GO C H θ (PM.noX o) R E) : GO C H θ o R E' := by
  cases o with
  | ok a h => exact g
  | exc x k => exact g.elim
  | bad => exact g
theorem jg_sub {S : List Nat} {o i : Expr} {fo fi : PM.Env → Heap → Out Val} {pos : Pos} (ho : PE X o (LE C cg W fo)) (hi : PE X i (LE C cg W fi))
    (ha : ∀ v, assign (.Subscript o i pos) X.env v = (do
      let ov ← holding [v] (eval o X.env)
      let iv ← holding [v, ov] (eval i X.env)
      standAt pos
      holding [v, ov, iv] (setItem ov iv v)
      release [v, ov, iv] [])) : PG X (.Subscript o i pos) (LG C cg S (fun v ρ h => (PM.noX (fo ρ h)).bind fun x h1 => (PM.noX (fi ρ h1)).bind fun y h2 => (setIx x y v h2).bind fun _ h3 => .ok ρ h3)) :=
  (pg_sub ho hi (set_ok (C := C)) ha).weak fun w σ H Q ⟨θ, ρ, h, v, rv, re, rl, g⟩ =>
    ⟨θ, ρ, h, re, rl, (GO.noX (GO.bind g)).imp fun x h1 H1 θ1 af rl1 g1 ox rx => ⟨θ1, ρ, h1, re.after af, rl1, (GO.noX (GO.bind g1)).imp fun y h2 H2 θ2 af2 rl2 g2 ix ry =>
      ⟨θ2, h2, x, y, v, _, rl2, RV.after af2.ext _ _ rx, ry, RV.after (af.trans af2).ext _ _ rv, (GO.bind g2).imp fun u h3 H3 θ3 af3 rl3 g3 => GO.ok rl3 g3 σ (re.after ((af.trans af2).trans af3)) (Off.refl _ _)⟩⟩⟩

/-! ### comprehensions -/
theorem GO.bindAt {α β : Type} {H H1 : Hp} {θ θ1 : List Addr} {o : Out α} {f : α → Heap → Out β} {R : β → Heap → Hp → List Addr → Prop} {E : Value → Option Addr → Hp → Prop} (af : After H θ H1 θ1) (g : GO C H θ (o.bind f) R E) :
    GO C H1 θ1 o (fun a h1 _ _ => GO C H θ (f a h1) R E) E := by
  cases o with
  | ok a h' => exact fun H' θ' af' rl => g
  | exc x h' => exact fun H' θ' cls d af' rl rx => g H' θ' cls d (af.trans af') rl rx
  | bad => exact g
/-- what a turn of a comprehension does -/
noncomputable def stepC (own : List Nat) (ft : Val → PM.Env → Heap → Out PM.Env) (fc fe : PM.Env → Heap → Out Val) (ρ : PM.Env) : Val → Heap → Out (Option Val) := fun v k => (ft v (PM.wipe ρ own) k).bind fun ρ1 k1 => (toB (fc ρ1 k1)).bind fun b k2 =>
  if b then (trim k2 (fe ρ1 k2)).bind fun w k3 => .ok (some w) k3 else .ok none k2
def endC (vs : List Val) (h2 : Heap) : Out Val := if vs.length ≤ 16777216 then .ok (.ref h2.length) (h2 ++ [.lst vs]) else .bad
def addC (o : Option Val) (r : List Val) : List Val := match o with | some w => w :: r | none => r
/-- the state of a comprehension ahead of turn i: done, what it has; D, its list -/
def InvC (C : Cfg) (H1 : Hp) (θ1 : List Addr) (step : Val → Heap → Out (Option Val)) (s : Src) (D : Addr) (Q : VK) (E : Value → Option Addr → Hp → Prop) (i : Nat) (Hc : Hp) : Prop :=
  ∃ θc hc acc done, After H1 θ1 Hc θc ∧ Rel C Hc θc hc ∧ D ∉ θc ∧ Hc D = some (.lst acc) ∧ RVs C.K Hc θc done acc ∧ GO C H1 θ1 ((compL step s.2 (s.1.drop i) hc).bind fun rest h2 => endC (done ++ rest) h2) (VR C Q) E
theorem out_of {H H' : Hp} {θ θ' : List Addr} (af : After H θ H' θ') {D : Addr} {o : HO} (e : H D = some o) (n : D ∉ θ) : D ∉ θ' := fun m => by
  have := af.new D m n
  rw [e] at this; cases this
theorem drop_some {α : Type} {l : List α} {i : Nat} {v : α} (e : l[i]? = some v) : l.drop i = v :: l.drop (i + 1) := by
  obtain ⟨h, e⟩ := List.getElem?_eq_some_iff.mp e
  rw [List.drop_eq_getElem_cons h, e]
theorem compL_cons {step : Val → Heap → Out (Option Val)} {gs : List (Nat × List Val)} {v : Val} {vs : List Val} {h : Heap} {k : List Val → Heap → Out Val} (hd : holds h gs) : (compL step gs (v :: vs) h).bind k = match step v h with
    | .ok o h1 => (compL step gs vs h1).bind fun r h2 => k (addC o r) h2
    | _ => .bad := by
  rw [compL, if_pos hd]
  cases step v h with
  | ok o h1 =>
    dsimp only
    cases q : compL step gs vs h1 with
    | ok r h2 => simp only [Out.bind_ok]; cases o <;> rfl
    | exc x k => rfl
    | bad => rfl
  | _ => rfl
theorem compL_noexc {step : Val → Heap → Out (Option Val)} {gs : List (Nat × List Val)} : ∀ (vs : List Val) (h : Heap) (x : Exn) (k : Heap), compL step gs vs h ≠ .exc x k
  | [], h, x, k => by
    rw [compL]
    split <;> intro z <;> cases z
  | v :: vs, h, x, k => by
    rw [compL]
    split
    · split
      · rename_i o h1 _
        intro z
        cases q : compL step gs vs h1 with
        | ok r h2 => rw [q] at z; cases z
        | exc y k2 => exact compL_noexc vs h1 y k2 q
        | bad => rw [q] at z; cases z
      · intro z; cases z
    · intro z; cases z
theorem compL_holds {step : Val → Heap → Out (Option Val)} {gs : List (Nat × List Val)} {vs : List Val} {h : Heap} {k : List Val → Heap → Out Val} {H : Hp} {θ : List Addr} {R : Val → Heap → Hp → List Addr → Prop} {E : Value → Option Addr → Hp → Prop}
    (g : GO C H θ ((compL step gs vs h).bind k) R E) : holds h gs := by
  by_cases hd : holds h gs
  · exact hd
  · cases vs with
    | nil => rw [compL, if_neg hd] at g; exact g.elim
    | cons v vs => rw [compL, if_neg hd] at g; exact g.elim
/-- the list of a comprehension is written; it stands aside -/
theorem side_ext {H : Hp} {θ : List Addr} {D : Addr} {acc us : List V} (e : H D = some (.lst acc)) : Ext H θ (upd H D (.lst us)) θ :=
  ⟨List.prefix_refl _, fun b o q im => by
    rw [upd_ne]
    · exact q
    · intro z; rw [z, e] at q; cases q; exact im⟩
theorem side_rel {H : Hp} {θ : List Addr} {h : Heap} {D : Addr} {acc us : List V} (rl : Rel C H θ h) (e : H D = some (.lst acc)) (n : D ∉ θ) (iv : C.Iv (upd H D (.lst us)) θ) : Rel C (upd H D (.lst us)) θ h :=
  ⟨rl.len, rl.nd, fun i o q => let ⟨a, ea, r⟩ := rl.ob i o q; ⟨a, ea, r.after (side_ext e) fun u z => by
    rw [upd_ne]
    · exact z
    · intro q; rw [q] at ea; exact n (List.mem_of_getElem? ea)⟩, tabs_write e True.intro rl.tab, iv⟩
theorem side_after {H1 H : Hp} {θ1 θ : List Addr} {D : Addr} {us : List V} (af : After H1 θ1 H θ) (e1 : H1 D = none) : After H1 θ1 (upd H D (.lst us)) θ := by
  have nb : ∀ b o, H1 b = some o → b ≠ D := fun b o q => ne_of_none q e1
  exact ⟨af.pre, fun b o q im => by rw [upd_ne (nb b o q)]; exact af.imm b o q im, fun b o q n t => by rw [upd_ne (nb b o q)]; exact af.frm b o q n t, fun b ps q => by rw [upd_ne (nb b _ q)]; exact af.tbl b ps q, af.new⟩
/-- at the end it is ours -/
theorem side_own {H1 H : Hp} {θ1 θ : List Addr} {h : Heap} {D : Addr} {acc : List V} {done : List Val} (af : After H1 θ1 H θ) (rl : Rel C H θ h) (e1 : H1 D = none) (n1 : D ∉ θ1) (e : H D = some (.lst acc)) (n : D ∉ θ) (r : RVs C.K H θ done acc) (iv1 : C.Iv H1 θ1) :
    After H1 θ1 H (θ ++ [D]) ∧ Rel C H (θ ++ [D]) (h ++ [.lst done]) := by
  have af2 : After H1 θ1 H (θ ++ [D]) := ⟨af.pre.trans (List.prefix_append _ _), af.imm, af.frm, af.tbl, fun x hx nx => by
    rcases List.mem_append.mp hx with q | q
    · exact af.new x q nx
    · have : x = D := by simpa using q
      rw [this]; exact e1⟩
  refine ⟨af2, ⟨by simp [rl.len], ?_, fun i o q => ?_, rl.tab, C.stab af2 iv1⟩⟩
  · rw [List.nodup_append]
    refine ⟨rl.nd, by simp, fun x hx y hy => ?_⟩
    have : y = D := by simpa using hy
    subst this
    exact fun q => n (q ▸ hx)
  · by_cases hi : i < h.length
    · rw [List.getElem?_append_left hi] at q
      obtain ⟨a, ea, r⟩ := rl.ob i o q
      exact ⟨a, pre_get (List.prefix_append _ _) ea, r.after (.grow (List.prefix_append _ _)) fun _ z => z⟩
    · rw [List.getElem?_append_right (by omega)] at q
      have hi0 : i - h.length = 0 := by
        have := (List.getElem?_eq_some_iff.mp q).1
        simp only [List.length_singleton] at this; omega
      rw [hi0] at q
      cases q
      refine ⟨D, ?_, acc, e, RVs.after (.grow (List.prefix_append _ _)) _ _ r⟩
      rw [List.getElem?_append_right (by rw [rl.len]; omega), rl.len, hi0]
      rfl
noncomputable def compF (own : List Nat) (fi : PM.Env → Heap → Out Src) (ft : Val → PM.Env → Heap → Out PM.Env) (fc fe : PM.Env → Heap → Out Val) : PM.Env → Heap → Out Val := fun ρ h => (fi ρ h).bind fun s h1 => (compL (stepC own ft fc fe ρ) s.2 s.1 h1).bind endC
theorem comp_go {own : List (Str × Nat)} {fi : PM.Env → Heap → Out Src} {ft : Val → PM.Env → Heap → Out PM.Env} {fc fe : PM.Env → Heap → Out Val} {σ : L2.St} {H : Hp} {Q : VK} (hh : LE C cg W (compF (own.map (·.2)) fi ft fc fe) σ H Q) :
    tLc (LI C cg W fi) (LG C cg (own.map (·.2)) ft) (LT C cg (fun _ _ _ _ => False) fc) (LE C cg (fun _ _ _ _ => False) fe) (own.map (·.2)) σ H Q := by
  obtain ⟨θ, ρ, h, re, rl, g⟩ := hh
  have g : GO C H θ ((fi ρ h).bind fun s h1 => (compL (stepC (own.map (·.2)) ft fc fe ρ) s.2 s.1 h1).bind endC) _ _ := g
  refine ⟨θ, ρ, h, re, rl, (GO.bind g).imp fun s h1 H1 θ1 af1 rl1 g1 J wk D nD => ?_⟩
  have re1 := re.after af1
  refine ⟨fun i m Hc => m = s.1.length - i ∧ i ≤ s.1.length ∧ InvC C H1 θ1 (stepC (own.map (·.2)) ft fc fe ρ) s D Q (fun cls d H' => W cls d σ H') i Hc, ⟨s.1.length, by simp, Nat.zero_le _, θ1, h1, [], [], After.side nD, rl1.side nD, rl1.fresh nD, upd_same, rfl, g1⟩, ?_⟩
  rintro i m Hc ⟨rfl, hi, θc, hc', acc, done, af, rlc, nDc, hD, rd, gg⟩
  have hd := compL_holds gg
  by_cases hlt : i < s.1.length
  · obtain ⟨v, ev⟩ : ∃ v, s.1[i]? = some v := ⟨s.1[i], by simp [hlt]⟩
    refine .inr ⟨wk.go i Hc θc hc' hlt af rlc hd, fun Hn => i + 1 ≤ s.1.length ∧ InvC C H1 θ1 (stepC (own.map (·.2)) ft fc fe ρ) s D Q (fun cls d H' => W cls d σ H') (i + 1) Hn, fun H' q => ⟨s.1.length - (i + 1), by omega, rfl, q⟩, fun x Hn y => ?_⟩
    obtain ⟨afn, rln, rvx⟩ := wk.yld i Hc θc hc' x Hn v ev af rlc hd y
    rw [drop_some ev, compL_cons hd] at gg
    have ren : RE C cg Hn θc (PM.wipe ρ (own.map (·.2))) (L2.wipe σ (own.map (·.2))) := RE.wipe _ ((re1.after af).after afn)
    cases q : stepC (own.map (·.2)) ft fc fe ρ v hc' with
    | exc x k => rw [q] at gg; exact gg.elim
    | bad => rw [q] at gg; exact gg.elim
    | ok o h2 =>
      rw [q] at gg
      have gg : GO C H1 θ1 ((compL (stepC (own.map (·.2)) ft fc fe ρ) s.2 (s.1.drop (i + 1)) h2).bind fun r h3 => endC (done ++ addC o r) h3) (VR C Q) (fun cls d H' => W cls d σ H') := gg
      have afHn := af.trans afn
      have hDn : Hn D = some (.lst acc) := afn.frm D _ hD nDc (by intro ps q; cases q)
      unfold stepC at q
      refine ⟨θc, PM.wipe ρ (own.map (·.2)), hc', v, rvx, ren, rln, ?_⟩
      cases q1 : ft v (PM.wipe ρ (own.map (·.2))) hc' with
      | exc x k => rw [q1] at q; cases q
      | bad => rw [q1] at q; cases q
      | ok ρ1 k1 =>
        rw [q1, Out.bind_ok] at q
        intro H2 θ2 af2 rl2 σ2 re2 o2
        refine ⟨(Off.wipe o2).trans (wipe_wipe _ _), θ2, ρ1, k1, re2, rl2, ?_⟩
        have afH2 := afHn.trans af2
        have hD2 : H2 D = some (.lst acc) := af2.frm D _ hDn nDc (by intro ps q; cases q)
        have nD2 := out_of af2 hDn nDc
        have rd2 : RVs C.K H2 θ2 done acc := RVs.after (afn.trans af2).ext _ _ rd
        cases q2 : toB (fc ρ1 k1) with
        | exc x k => rw [q2] at q; cases q
        | bad => rw [q2] at q; cases q
        | ok b k2 =>
          rw [q2, Out.bind_ok] at q
          intro H3 θ3 af3 rl3
          have afH3 := afH2.trans af3
          have hD3 : H3 D = some (.lst acc) := af3.frm D _ hD2 nD2 (by intro ps q; cases q)
          have nD3 := out_of af3 hD2 nD2
          have rd3 : RVs C.K H3 θ3 done acc := RVs.after af3.ext _ _ rd2
          cases b with
          | false =>
            rw [if_neg Bool.false_ne_true] at q
            cases q
            refine L2.iteF ?_
            exact ⟨hlt, θ3, h2, acc, done, afH3, rl3, nD3, hD3, rd3, gg⟩
          | true =>
            rw [if_pos rfl] at q
            refine L2.iteT ?_
            show LE C cg (fun _ _ _ _ => False) fe σ2 H3 fun y H4 => ∃ acc, H4 D = some (.lst acc) ∧ acc.length < sizeLine ∧ (i + 1 ≤ s.1.length ∧ InvC C H1 θ1 (stepC (own.map (·.2)) ft fc fe ρ) s D Q (fun cls d H' => W cls d σ H') (i + 1) (upd H4 D (.lst (acc ++ [y]))))
            refine ⟨θ3, ρ1, k2, re2.after af3, rl3, GO.trim rl3 ?_⟩
            cases q3 : trim k2 (fe ρ1 k2) with
            | exc x k => rw [q3] at q; cases q
            | bad => rw [q3] at q; cases q
            | ok w h2' =>
              rw [q3, Out.bind_ok] at q
              cases q
              intro H4 θ4 af4 rl4 y ry
              have afH4 := afH3.trans af4
              have hD4 : H4 D = some (.lst acc) := af4.frm D _ hD3 nD3 (by intro ps q; cases q)
              have nD4 := out_of af4 hD3 nD3
              have rd4 : RVs C.K H4 θ4 done acc := RVs.after af4.ext _ _ rd3
              have room : acc.length < sizeLine := by
                rw [line_eq, RVs.length rd4]
                cases q4 : compL (stepC (own.map (·.2)) ft fc fe ρ) s.2 (s.1.drop (i + 1)) h2 with
                | exc x k => exact absurd q4 (compL_noexc _ _ _ _)
                | bad => rw [q4] at gg; exact gg.elim
                | ok rest h5 =>
                  rw [q4, Out.bind_ok] at gg
                  unfold endC at gg
                  split at gg
                  · rename_i c
                    simp only [addC, List.length_append, List.length_cons] at c
                    omega
                  · exact gg.elim
              refine ⟨acc, hD4, room, hlt, θ4, h2, acc ++ [y], done ++ [w], side_after afH4 nD, side_rel rl4 hD4 nD4 (C.stab (side_after afH4 nD) rl1.iv), nD4, upd_same, RVs.after (side_ext hD4) _ _ (rd4.append ⟨y, [], rfl, ry, rfl⟩), ?_⟩
              have e1 : ∀ r, done ++ addC (some w) r = done ++ [w] ++ r := fun r => by simp [addC]
              simpa only [e1] using gg
  · have e : i = s.1.length := by omega
    subst e
    refine .inl ⟨wk.stop Hc θc hc' af rlc hd, ?_⟩
    rw [List.drop_length, compL, if_pos hd, Out.bind_ok, List.append_nil] at gg
    unfold endC at gg
    split at gg
    · obtain ⟨o1, o2⟩ := side_own af rlc nD (rl1.fresh nD) hD nDc rd rl1.iv
      refine gg Hc (θc ++ [D]) o1 o2 _ ⟨D, rfl, ?_⟩
      rw [← rlc.len]; simp
    · exact gg.elim

theorem je_comp {elt tg iter : Expr} {ifs : List Expr} {scope : Scope} {own : List (Str × Nat)} {pos : Pos} {fi : PM.Env → Heap → Out Src} {ft : Val → PM.Env → Heap → Out PM.Env} {fc fe : PM.Env → Heap → Out Val} (hK : X.K = C.K) (hc : X.calm = true) (hN : X.N.Nodup) (hi : PI X tg iter (LI C cg W fi)) (ok : BlkOk X.N X.env.scope scope own)
    (hg : ∀ (s : Shared) (H : Hp) (Cd : Addr) (cl : List (Str × Addr)) (fp : List Addr), PG (X.blk s H scope (compEnvC scope cl Cd X.env) fp) tg (LG C cg (own.map (·.2)) ft))
    (ht : ∀ (s : Shared) (H : Hp) (Cd : Addr) (cl : List (Str × Addr)) (fp : List Addr), PTs (X.blk s H scope (compEnvC scope cl Cd X.env) fp) ifs (LT C cg (fun _ _ _ _ => False) fc))
    (he : ∀ (s : Shared) (H : Hp) (Cd : Addr) (cl : List (Str × Addr)) (fp : List Addr), PE (X.blk s H scope (compEnvC scope cl Cd X.env) fp) elt (LE C cg (fun _ _ _ _ => False) fe)) (hs : ∀ x, foldedSetIterable iter X.env x = pure x) :
    PE X (.ListComp elt [⟨tg, iter, ifs, 0⟩] scope pos) (LE C cg W (compF (own.map (·.2)) fi ft fc fe)) :=
  (pe_lc hc hN hi ok hg ht he hs).weak fun σ H Q => comp_go

/-! ### statements -/
theorem keep_ok {ρ : PM.Env} {o : Out PM.Env} {D : Ends} {H : Hp} {θ : List Addr} {W : WX} (g : GS C cg W H θ (keep ρ o) D) (hx : ∀ x h, o ≠ .exc x h) : GO C H θ o (fun ρ' _ H' θ' => ∀ σ', RE C cg H' θ' ρ' σ' → D.nx σ' H') (fun _ _ _ => False) := by
  cases o with
  | ok ρ1 h => exact fun H' θ' af rl σ' re => g H' θ' σ' af rl re
  | exc x h => exact absurd rfl (hx x h)
  | bad => exact g
/-- an expression, then what a statement makes of its value -/
theorem then_go {f : PM.Env → Heap → Out Val} {k : Val → Heap → SOut} {σ : L2.St} {H : Hp} {θ : List Addr} {ρ : PM.Env} {h : Heap} {D : Ends} {P : V → Hp → Prop} (re : RE C cg H θ ρ σ) (rl : Rel C H θ h) (g : GS C cg W H θ (thenS ρ (trim h (f ρ h)) k) D)
    (n : ∀ v h1 H1 θ1 w, After H θ H1 θ1 → RE C cg H1 θ1 ρ σ → Rel C H1 θ1 h1 → RV C.K H1 θ1 v w → GS C cg W H1 θ1 (k v h1) D → P w H1) : LE C cg W f σ H P := by
  refine ⟨θ, ρ, h, re, rl, GO.trim rl ?_⟩
  cases q : trim h (f ρ h) with
  | ok v h1 =>
    rw [q] at g
    exact fun H1 θ1 af rl1 w rv => n v h1 H1 θ1 w af (re.after af) rl1 rv (GS.mono af g)
  | exc x h1 =>
    rw [q] at g
    exact fun H1 θ1 cls d af rl1 rx => g H1 θ1 σ cls d af rl1 (re.after af) rx
  | bad => rw [q] at g; exact g.elim
theorem js_asg {tg e : Expr} {f : PM.Env → Heap → Out Val} {t : Val → PM.Env → Heap → Out PM.Env} {S : List Nat} {pos : Pos} (he : PE X e (LE C cg W f)) (hg : PG X tg (LG C cg S t)) (hs : swapsWithSole [tg] e pos.line X.env = pure false) (hw : swappedStores [tg] e X.env = pure none)
    (h1 : (assignEach [tg] X.env).map (·.2) = [assign tg X.env]) (hx : ∀ v ρ h x k, t v ρ h ≠ .exc x k) : PS X (.Assign [tg] e pos) (LS C cg W (fun ρ h => thenS ρ (trim h (f ρ h)) fun v h1 => keep ρ (t v ρ h1))) :=
  (ps_asg he hg hs hw h1).weak fun D σ H ⟨θ, ρ, h, re, rl, g⟩ => then_go re rl g fun v h1 H1 θ1 w af re1 rl1 rv g1 =>
    ⟨θ1, ρ, h1, v, rv, re1, rl1, (keep_ok g1 fun x k => hx _ _ _ _ _).imp fun ρ' h2 H2 θ2 _ _ q σ' re' _ => q σ' re'⟩
/-- an attribute stored -/
theorem js_fld {o e : Expr} {f : Str} {fo fe : PM.Env → Heap → Out Val} {pos pos' : Pos} (hK : X.K = C.K) (ho : PE X o (LE C cg W fo)) (he : PE X e (LE C cg W fe)) (hs : swapsWith e (some (.Attribute o f pos')) pos.line X.env = pure false) (c_cls : ∀ c, (Cls C.K (C.ca c) ∧ NoAttr C.K (C.ca c) f)) :
    PS X (.Assign [.Attribute o f pos'] e pos) (LS C cg W (fun ρ h => thenS ρ (trim h (fe ρ h)) fun v h1 => keep ρ ((PM.noX (fo ρ h1)).bind fun x h2 => match x with
      | .ref n => match h2[n]? with
        | some (.ins c fs) => if fs.length < 100 ∧ fs.lookup f = none then .ok ρ (h2.set n (.ins c (fs ++ [(f, v)]))) else .bad
        | _ => .bad
      | _ => .bad))) := by
  refine (ps_fld ho he hs).weak fun D σ H ⟨θ, ρ, h, re, rl, g⟩ => then_go re rl g fun v h1 H1 θ1 w af re1 rl1 rv g1 => ?_
  refine ⟨θ1, ρ, h1, re1, rl1, ?_⟩
  cases q : fo ρ h1 with
  | exc x k => rw [q] at g1; exact g1.elim
  | bad => rw [q] at g1; exact g1.elim
  | ok x h2 =>
    rw [q, noX_ok, Out.bind_ok] at g1
    intro H2 θ2 af2 rl2 xw rx
    cases x with
    | ref n =>
      dsimp only at g1
      cases q2 : h2[n]? with
      | none => rw [q2] at g1; exact g1.elim
      | some ob =>
        rw [q2] at g1
        cases ob with
        | ins c fs =>
          dsimp only at g1
          split at g1
          · rename_i cc
            obtain ⟨a, rfl, ta⟩ := rx
            obtain ⟨b, eb, dx, gs, hb, hn, r⟩ := rl2.ob n _ q2
            rw [ta] at eb; cases eb
            have hlen : gs.length = fs.length := by have := congrArg List.length hn; simpa using this
            have hput : ∀ (gs : List (Str × V)) (fs : List (Str × Val)), gs.map (·.1) = fs.map (·.1) → fs.lookup f = none → putF f w gs = gs ++ [(f, w)] := by
              intro gs
              induction gs with
              | nil => intro fs _ _; rfl
              | cons p gs ih =>
                intro fs e1 e2
                cases fs with
                | nil => cases e1
                | cons q fs =>
                  simp only [List.map_cons, List.cons.injEq] at e1
                  rw [List.lookup_cons] at e2
                  split at e2
                  · cases e2
                  · rename_i hne
                    have hne' : ¬ p.1 = f := by
                      rw [e1.1]; intro z; rw [z] at hne; simp at hne
                    obtain ⟨k, y⟩ := p
                    show (if k = f then (k, w) :: gs else (k, y) :: putF f w gs) = _
                    rw [if_neg hne', ih fs e1.2 e2]; rfl
            have m : a ∈ θ2 := List.mem_of_getElem? ta
            have afw := After.write (u := .ins (C.ca c) dx (putF f w gs)) rl2 m
            refine ⟨a, C.ca c, dx, gs, rfl, hb, hK ▸ (c_cls c).1, hK ▸ (c_cls c).2, by omega, ?_⟩
            have g2 : GS C cg W H1 θ1 (.nx ρ (h2.set n (.ins c (fs ++ [(f, v)])))) D := g1
            refine g2 _ θ2 σ (af2.trans afw) (rl2.write ta ⟨dx, putF f w gs, upd_same, ?_, ?_⟩) ((re1.after af2).after afw)
            · rw [hput gs fs hn cc.2]; simp [hn]
            · have rr : RVs C.K (upd H2 a (HO.ins (C.ca c) dx (putF f w gs))) θ2 (fs.map (·.2) ++ [v]) (gs.map (·.2) ++ [w]) := by
                refine (RVs.after afw.ext _ _ r).append (?_ : RVs C.K _ _ [v] [w])
                exact ⟨w, [], rfl, RV.after (af2.trans afw).ext _ _ rv, rfl⟩
              have e1 : (fs ++ [(f, v)]).map (·.2) = fs.map (·.2) ++ [v] := by simp
              have e2 : (putF f w gs).map (·.2) = gs.map (·.2) ++ [w] := by rw [hput gs fs hn cc.2]; simp
              rw [e1, e2]; exact rr
          · exact g1.elim
        | _ => exact g1.elim
    | _ => exact g1.elim
theorem js_ex {e : Expr} {f : PM.Env → Heap → Out Val} {pos : Pos} (he : PE X e (LE C cg W f)) (hs : swapsWith e none pos.line X.env = pure false) : PS X (.Expr e pos) (LS C cg W (fun ρ h => thenS ρ (trim h (f ρ h)) fun _ h1 => .nx ρ h1)) :=
  (ps_expr he hs).weak fun D σ H ⟨θ, ρ, h, re, rl, g⟩ => then_go re rl g fun v h1 H1 θ1 w af re1 rl1 rv g1 => g1 H1 θ1 σ (After.refl _ _) rl1 re1
theorem js_ret {e : Expr} {f : PM.Env → Heap → Out Val} {pos : Pos} (he : PE X e (LE C cg W f)) : PS X (.Return (some e) pos) (LS C cg W (fun ρ h => thenS ρ (trim h (f ρ h)) fun v h1 => .rt v h1)) :=
  (ps_ret he).weak fun D σ H ⟨θ, ρ, h, re, rl, g⟩ => then_go re rl g fun v h1 H1 θ1 w af re1 rl1 rv g1 => g1 H1 θ1 w (After.refl _ _) rl1 rv
theorem js_retn {pos : Pos} : PS X (.Return none pos) (LS C cg W (fun ρ h => .rt .non h)) :=
  ps_retN.weak fun D σ H ⟨θ, ρ, h, re, rl, g⟩ => g H θ .non (After.refl _ _) rl rfl
theorem js_pass {pos : Pos} : PS X (.Pass pos) (LS C cg W (fun ρ h => .nx ρ h)) := ps_pass.weak fun D σ H ⟨θ, ρ, h, re, rl, g⟩ => g H θ σ (After.refl _ _) rl re
theorem js_brk {pos : Pos} : PS X (.Break pos) (LS C cg W (fun ρ h => .bk ρ h)) := ps_break.weak fun D σ H ⟨θ, ρ, h, re, rl, g⟩ => g H θ σ (After.refl _ _) rl re
theorem js_cont {pos : Pos} : PS X (.Continue pos) (LS C cg W (fun ρ h => .ct ρ h)) := ps_continue.weak fun D σ H ⟨θ, ρ, h, re, rl, g⟩ => g H θ σ (After.refl _ _) rl re
theorem jss_nil : PSs X [] (LS C cg W (fun ρ h => .nx ρ h)) := pss_nil.weak fun D σ H ⟨θ, ρ, h, re, rl, g⟩ => g H θ σ (After.refl _ _) rl re
noncomputable def seqS (f g : PM.Env → Heap → SOut) : PM.Env → Heap → SOut := fun ρ h => match f ρ h with
  | .nx ρ1 h1 => g ρ1 h1
  | r => r
theorem jss_cons {st : Stmt} {rest : List Stmt} {f g : PM.Env → Heap → SOut} (h1 : PS X st (LS C cg W f)) (h2 : PSs X rest (LS C cg W g)) : PSs X (st :: rest) (LS C cg W (seqS f g)) :=
  (pss_cons h1 h2).weak fun D σ H ⟨θ, ρ, h, re, rl, go⟩ => by
    refine ⟨θ, ρ, h, re, rl, ?_⟩
    unfold seqS at go
    cases q : f ρ h with
    | nx ρ1 h1 => rw [q] at go; exact fun H1 θ1 σ1 af rl1 re1 => ⟨θ1, ρ1, h1, re1, rl1, GS.mono af go⟩
    | rt v h1 => rw [q] at go; exact go
    | bk ρ1 h1 => rw [q] at go; exact go
    | ct ρ1 h1 => rw [q] at go; exact go
    | exc x ρ1 h1 => rw [q] at go; exact go
    | bad => rw [q] at go; exact go.elim
noncomputable def ifS (fc : PM.Env → Heap → Out Val) (f g : PM.Env → Heap → SOut) : PM.Env → Heap → SOut := fun ρ h => thenS ρ (trim h (fc ρ h)) fun v h1 => match v with
    | .bl t => if t then f ρ h1 else g ρ h1
    | _ => .bad
theorem toB_trim_bad {h k : Heap} {v : Val} (n : ∀ b, v ≠ .bl b) : toB (trim h (.ok v k)) = .bad := by
  cases v with
  | bl b => exact absurd rfl (n b)
  | ref r =>
    unfold trim
    dsimp only
    split
    · rfl
    · split <;> rfl
  | _ =>
    unfold trim
    dsimp only
    split <;> rfl
theorem toB_trim {h : Heap} {o : Out Val} {H : Hp} {θ : List Addr} {R : Bool → Hp → Prop} {E : Value → Option Addr → Hp → Prop} (rl : Rel C H θ h) (g : GO C H θ (toB (trim h o)) (fun b _ H' _ => R b H') E) : GO C H θ (toB o) (fun b _ H' _ => R b H') E := by
  cases o with
  | ok v k =>
    by_cases z : ∃ b, v = .bl b
    · obtain ⟨b, rfl⟩ := z
      have g1 : GO C H θ (trim h (.ok (.bl b) k)) (VR C fun x H1 => ∃ b, x = .bl b ∧ R b H1) E := by
        unfold trim at g ⊢
        dsimp only at g ⊢
        split
        · rename_i c
          rw [if_pos c] at g
          exact fun H' θ' af rl' w rv => ⟨b, rv, g H' θ' af rl'⟩
        · rename_i c
          rw [if_neg c] at g
          exact fun H' θ' af rl' w rv => ⟨b, rv, g H' θ' af rl'⟩
      have g2 := GO.trim rl g1
      intro H' θ' af rl'
      obtain ⟨c, e, r⟩ := g2 H' θ' af rl' (.bl b) rfl
      cases e; exact r
    · rw [toB_trim_bad fun b e => z ⟨b, e⟩] at g
      exact g.elim
  | exc x k =>
    have g1 : GO C H θ (trim h (.exc x k)) (VR C fun _ _ => False) E := by
      unfold trim at g ⊢
      dsimp only at g ⊢
      split
      · rename_i c
        rw [if_pos c] at g; exact g
      · rename_i c
        rw [if_neg c] at g; exact g
    exact GO.trim (Q := fun _ _ => False) rl g1
  | bad => exact g
end
end PM

set_option Elab.async false
set_option linter.all false
set_option maxRecDepth 100000
set_option maxHeartbeats 1000000
/-! PMst2: if, while, for, op=, several names on one line. -/
namespace PM
open PySem PySem.Spec PyProof.Rows L2
section
variable {C : Cfg} {X : Cx} {cg : Caught} {W : WX}
theorem js_if {c : Expr} {a b : List Stmt} {fc : PM.Env → Heap → Out Val} {f g : PM.Env → Heap → SOut} {pos : Pos} (hc : PT X c (LT C cg W fc)) (ha : PSs X a (LS C cg W f)) (hb : PSs X b (LS C cg W g)) : PS X (.If c a b pos) (LS C cg W (ifS fc f g)) := by
  refine (ps_if hc ha hb).weak fun D σ H ⟨θ, ρ, h, re, rl, go⟩ => ?_
  refine ⟨θ, ρ, h, re, rl, toB_trim (R := fun b H1 => if b = true then LS C cg W f D σ H1 else LS C cg W g D σ H1) rl ?_⟩
  unfold ifS at go
  cases q : trim h (fc ρ h) with
  | ok v k =>
    rw [q] at go
    cases v with
    | bl t =>
      intro H' θ' af rl'
      have go : GS C cg W H θ (if t then f ρ k else g ρ k) D := go
      cases t with
      | true => exact L2.iteT ⟨θ', ρ, k, re.after af, rl', GS.mono af go⟩
      | false => exact L2.iteF ⟨θ', ρ, k, re.after af, rl', GS.mono af go⟩
    | _ => exact go.elim
  | exc x k =>
    rw [q] at go
    exact fun H1 θ1 cls d af rl1 rx => go H1 θ1 σ cls d af rl1 (re.after af) rx
  | bad => rw [q] at go; exact go.elim
theorem js_while {c : Expr} {body : List Stmt} {fc : PM.Env → Heap → Out Val} {f : PM.Env → Heap → SOut} {pos : Pos} (hp : PassesOwn (model X.prog X.w) X.A X.env X.xe) (hc : PT X c (LT C cg W fc)) (hb : PSs X body (LS C cg W f)) :
    PS X (.While c body [] pos) (LS C cg W (fun ρ h => whL (fun ρ h => toB (trim h (fc ρ h))) f ρ h)) := by
  refine (ps_while hp hc hb).weak fun D σ H ⟨θ, ρ, h, re, rl, go⟩ => ?_
  have go : GS C cg W H θ (whL (fun ρ h => toB (trim h (fc ρ h))) f ρ h) D := go
  have z : ∃ r n, whN (fun ρ h => toB (trim h (fc ρ h))) f n ρ h = some r := by
    by_cases z : ∃ r n, whN (fun ρ h => toB (trim h (fc ρ h))) f n ρ h = some r
    · exact z
    · rw [whL_none z] at go; exact go.elim
  obtain ⟨r0, n0, e0⟩ := z
  rw [whL_of e0] at go
  refine ⟨fun m σ' H' => ∃ θ' ρ' h' r, RE C cg H' θ' ρ' σ' ∧ Rel C H' θ' h' ∧ whN (fun ρ h => toB (trim h (fc ρ h))) f m ρ' h' = some r ∧ GS C cg W H' θ' r D, ⟨n0, θ, ρ, h, r0, re, rl, e0, go⟩, ?_⟩
  rintro m σ1 H1 ⟨θ1, ρ1, h1, r, re1, rl1, e1, g1⟩
  cases m with
  | zero => simp [whN] at e1
  | succ n =>
    refine ⟨θ1, ρ1, h1, re1, rl1, toB_trim (R := fun b H2 => if b = true then _ else D.nx σ1 H2) rl1 ?_⟩
    unfold whN at e1
    cases q : toB (trim h1 (fc ρ1 h1)) with
    | ok b h2 =>
      rw [q] at e1
      intro H2 θ2 af rl2
      cases b with
      | false =>
        cases e1
        exact L2.iteF (g1 H2 θ2 σ1 af rl2 (re1.after af))
      | true =>
        dsimp only at e1
        refine L2.iteT ⟨fun σ' H' => ∃ θ' ρ' h' r, RE C cg H' θ' ρ' σ' ∧ Rel C H' θ' h' ∧ whN (fun ρ h => toB (trim h (fc ρ h))) f n ρ' h' = some r ∧ GS C cg W H' θ' r D, fun σ' H' y => ⟨n, Nat.lt_succ_self n, y⟩, θ2, ρ1, h2, re1.after af, rl2, ?_⟩
        have g2 := GS.mono af g1
        cases y : f ρ1 h2 with
        | nx ρ3 h3 => rw [y] at e1; exact fun H3 θ3 σ3 af3 rl3 re3 => ⟨θ3, ρ3, h3, r, re3, rl3, e1, GS.mono af3 g2⟩
        | ct ρ3 h3 => rw [y] at e1; exact fun H3 θ3 σ3 af3 rl3 re3 => ⟨θ3, ρ3, h3, r, re3, rl3, e1, GS.mono af3 g2⟩
        | bk ρ3 h3 => rw [y] at e1; cases e1; exact g2
        | rt v h3 => rw [y] at e1; cases e1; exact g2
        | exc x ρ3 h3 => rw [y] at e1; cases e1; exact g2
        | bad => rw [y] at e1; cases e1; exact g2.elim
    | exc x k =>
      rw [q] at e1
      cases e1
      exact fun H2 θ2 cls d af rl2 rx => g1 H2 θ2 σ1 cls d af rl2 (re1.after af) rx
    | bad => rw [q] at e1; cases e1; exact g1.elim
/-- a for -/
noncomputable def forS (fi : PM.Env → Heap → Out Src) (t : Val → PM.Env → Heap → Out PM.Env) (f : PM.Env → Heap → SOut) : PM.Env → Heap → SOut := fun ρ h => match fi ρ h with
    | .ok s h1 => forL t f s.2 s.1 ρ h1
    | .exc x k => .exc x ρ k
    | .bad => .bad
theorem js_for {tg iter : Expr} {body : List Stmt} {fi : PM.Env → Heap → Out Src} {t : Val → PM.Env → Heap → Out PM.Env} {f : PM.Env → Heap → SOut} {S : List Nat} {pos : Pos} (hp : PassesOwn (model X.prog X.w) X.A X.env X.xe) (hc : X.calm = true) (hi : PI X tg iter (LI C cg W fi)) (hg : PG X tg (LG C cg S t)) (hb : PSs X body (LS C cg W f))
    (hs : ∀ x, foldedSetIterable iter X.env x = pure x) (hx : ∀ v ρ h x k, t v ρ h ≠ .exc x k) : PS X (.For tg iter body [] pos) (LS C cg W (forS fi t f)) := by
  refine (ps_for hp hc hi hg hb hs).weak fun D σ H ⟨θ, ρ, h, re, rl, go⟩ => ?_
  refine ⟨θ, ρ, h, re, rl, ?_⟩
  unfold forS at go
  cases q : fi ρ h with
  | exc x k =>
    rw [q] at go
    exact fun H1 θ1 cls d af rl1 rx => go H1 θ1 σ cls d af rl1 (re.after af) rx
  | bad => rw [q] at go; exact go.elim
  | ok s h1 =>
    rw [q] at go
    intro H1 θ1 af1 rl1 J wk
    refine ⟨fun i m σc Hc => m = s.1.length - i ∧ i ≤ s.1.length ∧ ∃ θc ρc hc, After H1 θ1 Hc θc ∧ Rel C Hc θc hc ∧ RE C cg Hc θc ρc σc ∧ GS C cg W Hc θc (forL t f s.2 (s.1.drop i) ρc hc) D, ⟨s.1.length, by simp, Nat.zero_le _, θ1, ρ, h1, After.refl _ _, rl1, re.after af1, GS.mono af1 go⟩, ?_⟩
    rintro i m σc Hc ⟨rfl, hi, θc, ρc, hc', af, rlc, rec, g⟩
    have hd : holds hc' s.2 := by
      by_cases z : holds hc' s.2
      · exact z
      · cases y : s.1.drop i with
        | nil => rw [y, forL, if_neg z] at g; exact g.elim
        | cons v vs => rw [y, forL, if_neg z] at g; exact g.elim
    by_cases hlt : i < s.1.length
    · obtain ⟨v, ev⟩ : ∃ v, s.1[i]? = some v := ⟨s.1[i], by simp [hlt]⟩
      rw [drop_some ev, forL, if_pos hd] at g
      refine .inr ⟨wk.go i Hc θc hc' hlt af rlc hd, fun σn Hn => i + 1 ≤ s.1.length ∧ ∃ θn ρn hn, After H1 θ1 Hn θn ∧ Rel C Hn θn hn ∧ RE C cg Hn θn ρn σn ∧ GS C cg W Hn θn (forL t f s.2 (s.1.drop (i + 1)) ρn hn) D, fun σ' H' y => ⟨s.1.length - (i + 1), by omega, rfl, y⟩, fun x Hn y => ?_⟩
      obtain ⟨afn, rln, rvx⟩ := wk.yld i Hc θc hc' x Hn v ev af rlc hd y
      refine ⟨θc, ρc, hc', v, rvx, rec.after afn, rln, ?_⟩
      have g := GS.mono afn g
      cases z : t v ρc hc' with
      | exc x k => exact absurd z (hx _ _ _ _ _)
      | bad => rw [z] at g; exact g.elim
      | ok ρ2 h2 =>
        rw [z] at g
        dsimp only at g
        intro H2 θ2 af2 rl2 σ2 re2 _
        have g := GS.mono af2 g
        refine ⟨θ2, ρ2, h2, re2, rl2, ?_⟩
        have go2 : ∀ {H3 θ3}, After H2 θ2 H3 θ3 → After H1 θ1 H3 θ3 := fun a => (af.trans afn).trans (af2.trans a)
        cases y : f ρ2 h2 with
        | nx ρ3 h3 => rw [y] at g; exact fun H3 θ3 σ3 af3 rl3 re3 => ⟨hlt, θ3, ρ3, h3, go2 af3, rl3, re3, GS.mono af3 g⟩
        | ct ρ3 h3 => rw [y] at g; exact fun H3 θ3 σ3 af3 rl3 re3 => ⟨hlt, θ3, ρ3, h3, go2 af3, rl3, re3, GS.mono af3 g⟩
        | bk ρ3 h3 => rw [y] at g; exact g
        | rt v h3 => rw [y] at g; exact g
        | exc x ρ3 h3 => rw [y] at g; exact g
        | bad => rw [y] at g; exact g.elim
    · have e : i = s.1.length := by omega
      subst e
      refine .inl ⟨wk.stop Hc θc hc' af rlc hd, ?_⟩
      rw [List.drop_length, forL, if_pos hd] at g
      exact g Hc θc σc (After.refl _ _) rlc rec
/-- [..] bound on one line -/
theorem js_setLc {i : Nat} {y : Str} {py : Pos} {elt tg iter : Expr} {ifs : List Expr} {scope : Scope} {own : List (Str × Nat)} {pos spos : Pos} {fi : PM.Env → Heap → Out Src} {ft : Val → PM.Env → Heap → Out PM.Env} {fc fe : PM.Env → Heap → Out Val} (hc : X.calm = true) (hN : X.N.Nodup) (hy : X.N[i]? = some y) (hyl : X.env.scope.names.lookup y = some .local)
    (hsw : swapsWith (.ListComp elt [⟨tg, iter, ifs, 0⟩] scope pos) (some (.Name y py)) spos.line X.env = pure true) (hi : PI X tg iter (LI C cg W fi)) (ok : BlkOk X.N X.env.scope scope own)
    (hg : ∀ (s : Shared) (H : Hp) (Cd : Addr) (cl : List (Str × Addr)) (fp : List Addr), PG (X.blk s H scope (compEnvC scope cl Cd X.env) fp) tg (LG C cg (own.map (·.2)) ft))
    (ht : ∀ (s : Shared) (H : Hp) (Cd : Addr) (cl : List (Str × Addr)) (fp : List Addr), PTs (X.blk s H scope (compEnvC scope cl Cd X.env) fp) ifs (LT C cg (fun _ _ _ _ => False) fc))
    (he : ∀ (s : Shared) (H : Hp) (Cd : Addr) (cl : List (Str × Addr)) (fp : List Addr), PE (X.blk s H scope (compEnvC scope cl Cd X.env) fp) elt (LE C cg (fun _ _ _ _ => False) fe)) (hs : ∀ x, foldedSetIterable iter X.env x = pure x) :
    PS X (.Assign [.Name y py] (.ListComp elt [⟨tg, iter, ifs, 0⟩] scope pos) spos) (LS C cg W (fun ρ h => thenS ρ (trim h (compF (own.map (·.2)) fi ft fc fe ρ h)) fun v h1 => keep ρ (nameT i v ρ h1))) :=
  (ps_setLc hc hN hy hyl hsw hi ok hg ht he hs).weak fun D σ H ⟨θ, ρ, h, re, rl, g⟩ => comp_go (then_go re rl g fun v h1 H1 θ1 w af re1 rl1 rv g1 => by
    unfold nameT at g1
    split at g1
    · exact g1 H1 θ1 _ (After.refl _ _) rl1 (re1.set rv i)
    · exact g1.elim)
/-- a tuple's items, the tuple not kept -/
theorem GO.trimTup {H : Hp} {θ : List Addr} {h : Heap} {o : Out (List Val)} {Q : List V → Hp → Prop} {E : Value → Option Addr → Hp → Prop} (rl : Rel C H θ h) (g : GO C H θ (PM.trim h (o.bind fun vs k => .ok (.tup vs) k)) (fun v _ H' θ' => ∃ vs, v = .tup vs ∧ ∀ ws, RVs C.K H' θ' vs ws → Q ws H') E) :
    GO C H θ o (fun vs _ H' θ' => ∀ ws, RVs C.K H' θ' vs ws → Q ws H') E := by
  cases o with
  | bad => exact g
  | ok vs k =>
    rw [Out.bind_ok] at g
    unfold PM.trim at g
    dsimp only at g
    intro H' θ' af rl' ws rv
    split at g
    · rename_i c
      obtain ⟨vs', e, q⟩ := g H' θ af.drop (rl.drop af rl' c.2)
      cases e
      exact q ws (RVs.flat _ _ (by simpa [Val.flat] using c.1) rv)
    · obtain ⟨vs', e, q⟩ := g H' θ' af rl'
      cases e
      exact q ws rv
  | exc x k => exact GO.trim (Q := fun _ _ => False) rl (by
      rw [Out.bind_exc] at g
      cases q : PM.trim h (.exc x k) with
      | ok v k2 =>
        unfold PM.trim at q
        dsimp only at q
        split at q <;> cases q
      | exc x k2 => rw [q] at g; exact g
      | bad => rw [q] at g; exact g)
noncomputable def tupF (fs : PM.Env → Heap → Out (List Val)) : PM.Env → Heap → Out Val := fun ρ h => (fs ρ h).bind fun vs h1 => .ok (.tup vs) h1
/-- a tuple's own statement -/
theorem then_tup {fs : PM.Env → Heap → Out (List Val)} {k : List Val → Heap → SOut} {σ : L2.St} {H : Hp} {θ : List Addr} {ρ : PM.Env} {h : Heap} {D : Ends} {P : List V → Hp → Prop} (re : RE C cg H θ ρ σ) (rl : Rel C H θ h)
    (g : GS C cg W H θ (thenS ρ (trim h (tupF fs ρ h)) fun v h1 => match v with | .tup vs => k vs h1 | _ => .bad) D)
    (n : ∀ vs h1 H1 θ1 ws, After H θ H1 θ1 → RE C cg H1 θ1 ρ σ → Rel C H1 θ1 h1 → RVs C.K H1 θ1 vs ws → GS C cg W H1 θ1 (k vs h1) D → P ws H1) : LA C cg W fs σ H P := by
  refine ⟨θ, ρ, h, re, rl, GO.trimTup rl ?_⟩
  show GO C H θ (trim h (tupF fs ρ h)) _ _
  cases q : trim h (tupF fs ρ h) with
  | ok v h1 =>
    rw [q] at g
    cases v with
    | tup vs => exact fun H1 θ1 af rl1 => ⟨vs, rfl, fun ws rv => n vs h1 H1 θ1 ws af (re.after af) rl1 rv (GS.mono af g)⟩
    | _ => exact g.elim
  | exc x h1 =>
    rw [q] at g
    exact fun H1 θ1 cls d af rl1 rx => g H1 θ1 σ cls d af rl1 (re.after af) rx
  | bad => rw [q] at g; exact g.elim
theorem RE.len {H : Hp} {θ : List Addr} {ρ : PM.Env} {σ : L2.St} (r : RE C cg H θ ρ σ) : ρ.length = σ.length := r.1
theorem js_par {i j : Nat} {x y : Str} {a b : Expr} {fs : PM.Env → Heap → Out (List Val)} {px py pt pos : Pos} {kt k2 pt2} (hc : X.calm = true) (hN : X.N.Nodup) (hi : X.N[i]? = some x) (hj : X.N[j]? = some y) (hij : i ≠ j)
    (hx : X.env.scope.names.lookup x = some .local) (hy : X.env.scope.names.lookup y = some .local) (ha : PA X [a, b] (LA C cg W fs))
    (hw : swappedStores [.Tuple [.Name x px, .Name y py] kt pt] (.Tuple [a, b] k2 pt2) X.env = pure (some [x, y]))
    (hs : swapsWithSole [.Tuple [.Name x px, .Name y py] kt pt] (.Tuple [a, b] k2 pt2) pos.line X.env = pure false) :
    PS X (.Assign [.Tuple [.Name x px, .Name y py] kt pt] (.Tuple [a, b] k2 pt2) pos) (LS C cg W (fun ρ h => thenS ρ (trim h (tupF fs ρ h)) fun v h1 => match v with | .tup vs => keep ρ (consT (nameT i) (consT (nameT j) (fun vs ρ h => match vs with | [] => .ok ρ h | _ => .bad)) vs ρ h1) | _ => .bad)) :=
  (ps_par hc hN hi hj hij hx hy ha hw hs).weak fun D σ H ⟨θ, ρ, h, re, rl, g⟩ => then_tup re rl g fun vs h1 H1 θ1 ws af re1 rl1 rv g1 => by
    match vs, ws, rv, g1 with
    | [v, w], _, ⟨v', _, rfl, rv, w', _, rfl, rw', rfl⟩, g1 =>
      refine ⟨v', w', rfl, ?_⟩
      simp only [consT, nameT] at g1
      split at g1
      · rw [Out.bind_ok] at g1
        split at g1
        · exact g1 H1 θ1 _ (After.refl _ _) rl1 ((re1.set rv i).set rw' j)
        · exact g1.elim
      · exact g1.elim
    | [], _, _, g1 => exact g1.elim
    | [v], _, _, g1 =>
      simp only [consT, nameT] at g1
      split at g1 <;> exact g1.elim
    | v :: w :: u :: r, _, _, g1 =>
      simp only [consT, nameT] at g1
      split at g1
      · rw [Out.bind_ok] at g1
        split at g1 <;> exact g1.elim
      · exact g1.elim
theorem js_par3 {i j l : Nat} {x y z : Str} {a b c : Expr} {fs : PM.Env → Heap → Out (List Val)} {px py pz pt pos : Pos} {kt k2 pt2} (hc : X.calm = true) (hN : X.N.Nodup) (hi : X.N[i]? = some x) (hj : X.N[j]? = some y) (hl : X.N[l]? = some z) (hij : i ≠ j) (hil : i ≠ l) (hjl : j ≠ l)
    (hx : X.env.scope.names.lookup x = some .local) (hy : X.env.scope.names.lookup y = some .local) (hz : X.env.scope.names.lookup z = some .local) (ha : PA X [a, b, c] (LA C cg W fs))
    (hw : swappedStores [.Tuple [.Name x px, .Name y py, .Name z pz] kt pt] (.Tuple [a, b, c] k2 pt2) X.env = pure (some [x, y, z]))
    (hs : swapsWithSole [.Tuple [.Name x px, .Name y py, .Name z pz] kt pt] (.Tuple [a, b, c] k2 pt2) pos.line X.env = pure false) :
    PS X (.Assign [.Tuple [.Name x px, .Name y py, .Name z pz] kt pt] (.Tuple [a, b, c] k2 pt2) pos) (LS C cg W (fun ρ h => thenS ρ (trim h (tupF fs ρ h)) fun v h1 => match v with | .tup vs => keep ρ (consT (nameT i) (consT (nameT j) (consT (nameT l) (fun vs ρ h => match vs with | [] => .ok ρ h | _ => .bad))) vs ρ h1) | _ => .bad)) :=
  (ps_par3 hc hN hi hj hl hij hil hjl hx hy hz ha hw hs).weak fun D σ H ⟨θ, ρ, h, re, rl, g⟩ => then_tup re rl g fun vs h1 H1 θ1 ws af re1 rl1 rv g1 => by
    match vs, ws, rv, g1 with
    | [u, v, w], _, ⟨u', _, rfl, ru, v', _, rfl, rv, w', _, rfl, rw', rfl⟩, g1 =>
      refine ⟨u', v', w', rfl, ?_⟩
      simp only [consT, nameT] at g1
      split at g1
      · rw [Out.bind_ok] at g1
        split at g1
        · rw [Out.bind_ok] at g1
          split at g1
          · exact g1 H1 θ1 _ (After.refl _ _) rl1 (((re1.set ru i).set rv j).set rw' l)
          · exact g1.elim
        · exact g1.elim
      · exact g1.elim
    | [], _, _, g1 => exact g1.elim
    | [v], _, _, g1 =>
      simp only [consT, nameT] at g1
      split at g1 <;> exact g1.elim
    | [v, w], _, _, g1 =>
      simp only [consT, nameT] at g1
      split at g1
      · rw [Out.bind_ok] at g1
        split at g1 <;> exact g1.elim
      · exact g1.elim
    | v :: w :: u :: r :: _, _, _, g1 =>
      simp only [consT, nameT] at g1
      split at g1
      · rw [Out.bind_ok] at g1
        split at g1
        · rw [Out.bind_ok] at g1
          split at g1 <;> exact g1.elim
        · exact g1.elim
      · exact g1.elim
end
end PM

set_option Elab.async false
set_option linter.all false
set_option maxRecDepth 100000
set_option maxHeartbeats 1000000
/-! PMst3: op=, raise, try. -/
namespace PM
open PySem PySem.Spec PyProof.Rows L2
section
variable {C : Cfg} {X : Cx} {cg : Caught} {W : WX}
noncomputable def augS (i : Nat) (o : BOp) (fe : PM.Env → Heap → Out Val) : PM.Env → Heap → SOut := fun ρ h => match ρ[i]? with
    | some (.v x) => thenS ρ (trim h (fe ρ h)) fun y h1 => match augV o x y with
      | some v => .nx (ρ.set i (.v v)) h1
      | none => .bad
    | _ => .bad
def ipA (o : BOp) : TIp := fun x y H Q => ∃ i j, x = .int i ∧ y = .int j ∧ ((o = .add ∧ Q (.int (i + j)) H) ∨ (o = .sub ∧ Q (.int (i - j)) H))
theorem ip_aug (o : BOp) : PIp X (opOf o) (ipA o) := by
  intro pins s σ H x y v u Q I r1 r2 ⟨i, j, e1, e2, h⟩
  rcases h with ⟨rfl, q⟩ | ⟨rfl, q⟩
  · exact ip_add pins s σ H x y v u Q I r1 r2 ⟨i, j, e1, e2, q⟩
  · exact ip_sub pins s σ H x y v u Q I r1 r2 ⟨i, j, e1, e2, q⟩
theorem js_aug {i : Nat} {x : Str} {e : Expr} {fe : PM.Env → Heap → Out Val} {o : BOp} {pos pos' : Pos} (hN : X.N.Nodup) (hi : X.N[i]? = some x) (hx : Loc X.env.scope x) (he : PE X e (LE C cg W fe)) (hf : X.fn x = true ∨ X.env.scope.names.lookup x = some .local) :
    PS X (.AugAssign (.Name x pos') (opOf o) e pos) (LS C cg W (augS i o fe)) :=
  (ps_aug hN hi hx he (ip_aug o) hf).weak fun D σ H ⟨θ, ρ, h, re, rl, g⟩ => by
    unfold augS at g
    split at g
    · rename_i v ev
      obtain ⟨w, ew, rv⟩ := re.get ev
      refine ⟨w, ew, then_go re rl g fun y h1 H1 θ1 wy af re1 rl1 ry g1 => ?_⟩
      unfold augV at g1
      split at g1
      · rename_i z q
        split at q
        · cases q; cases rv; cases ry
          exact ⟨_, _, rfl, rfl, .inl ⟨rfl, g1 H1 θ1 _ (After.refl _ _) rl1 (re1.set (v := .int _) (show RV C.K H1 θ1 (.int _) (.int _) from rfl) i)⟩⟩
        · cases q; cases rv; cases ry
          exact ⟨_, _, rfl, rfl, .inr ⟨rfl, g1 H1 θ1 _ (After.refl _ _) rl1 (re1.set (v := .int _) (show RV C.K H1 θ1 (.int _) (.int _) from rfl) i)⟩⟩
        · cases q
      · exact g1.elim
    · exact g.elim
/-- an error's making -/
def MkX (C : Cfg) (X : Cx) (e : Expr) (c : Nat) (f : Str) (te : TE) : Prop := PMk X e (fun σ H Q => te σ H fun w H1 => ∀ d, H1 d = none → Q (.ref (C.xa c)) (some d) (upd H1 d (.xd [(f, w)])))
theorem js_raise {e : Expr} {c : Nat} {f : Str} {fe : PM.Env → Heap → Out Val} {pos : Pos} (hc : X.calm = true) (hcn : c < C.nx) (tk : Takes X W) (m : MkX C X e c f (LE C cg W fe)) :
    PS X (.Raise (some e) none pos) (LS C cg W (fun ρ h => thenS ρ (trim h (fe ρ h)) fun v h1 => .exc ⟨c, f, v⟩ ρ h1)) :=
  (ps_raise hc tk m).weak fun D σ H ⟨θ, ρ, h, re, rl, g⟩ => then_go re rl g fun v h1 H1 θ1 w af re1 rl1 rv g1 d nd => by
    have a := After.side (θ := θ1) (u := .xd [(f, w)]) nd
    exact g1 _ θ1 σ _ _ a (rl1.side nd) (re1.after a) ⟨⟨rfl, hcn⟩, d, w, rfl, upd_same, RV.after a.ext _ _ rv⟩
end

/-! ### try: several clauses, each with a name or without -/
/-- what a clause of slot sl wishes behind its suite -/
def endsAs (sl : Option Nat) (D : Ends) : Ends := match sl with
  | none => D
  | some i => { nx := fun σ' H' => D.nx (σ'.set i none) H', rt := D.rt, bk := fun σ' H' => D.bk (σ'.set i none) H', ct := fun σ' H' => D.ct (σ'.set i none) H' }
def slotAs (sl : Option Nat) (a : Addr) (σ : L2.St) : L2.St := match sl with
  | none => σ
  | some i => σ.set i (some (.ref a))
abbrev Clause := Value × Option Nat × (Addr → Value → Option Addr → TS)
def wMix (K : PySem.W.Frag) (Wout : WX) (D : Ends) : List Clause → WX
  | [] => Wout
  | (c, sl, ts) :: r => fun cls d σ H => ∃ b, PySem.W.exmOne K cls c = some b ∧ (b = true → ∀ a, H a = none → ts a cls d (endsAs sl D) (slotAs sl a σ) H) ∧ (b = false → wMix K Wout D r cls d σ H)
inductive HdsMix (X : Cx) : List ExceptHandler → List Clause → Prop
  | nil : HdsMix X [] []
  | cons {x : Str} {c : Value} {ts : Addr → Value → Option Addr → TS} {b₀ : Stmt} {suite : List Stmt} {np pos' : Pos} {hds : List ExceptHandler} {l : List Clause} (hc : Names X x c)
      (hsu : ∀ (a : Addr) (oe : Obj) (cls : Value) (d : Option Addr) (pn : List (Addr × Obj)), Zc cls d oe → (∃ vs, oe.data = .fields vs) → PSs (X.suite a ((a, oe) :: pn)) (b₀ :: suite) (ts a cls d)) (r : HdsMix X hds l) :
      HdsMix X (.ExceptHandler (some (.Name x np)) none (b₀ :: suite) pos' :: hds) ((c, none, ts) :: l)
  | as {x n : Str} {c : Value} {i : Nat} {ts : Addr → Value → Option Addr → TS} {b₀ : Stmt} {suite : List Stmt} {np pos' : Pos} {hds : List ExceptHandler} {l : List Clause} (hc : Names X x c) (hi : X.N[i]? = some n) (hln : X.env.kindOf n = some .local)
      (hsu : ∀ (a : Addr) (oe : Obj) (cls : Value) (d : Option Addr) (pn : List (Addr × Obj)), Zc cls d oe → (∃ vs, oe.data = .fields vs) → PSs (X.suite a ((a, oe) :: pn)) (b₀ :: suite) (ts a cls d)) (r : HdsMix X hds l) :
      HdsMix X (.ExceptHandler (some (.Name x np)) (some n) (b₀ :: suite) pos' :: hds) ((c, some i, ts) :: l)
section
variable {X : Cx} {body : List Stmt} {h₀ : ExceptHandler} {hds : List ExceptHandler} {l : List Clause} {pos : Pos} {tb : WX → TS} {Wout : WX}
theorem ps_try_mix (hs : X.stack = X.env :: X.outer) (hf : X.env.frame = some X.env.locals) (hN : X.N.Nodup) (tk : Takes X Wout)
    (hb : ∀ (W : WX) (pn : List (Addr × Obj)) (xe : Value → Shared → Prop), Takes (X.tr pn xe) W → PassesOwn (model X.prog X.w) X.A X.env xe → PSs (X.tr pn xe) body (tb W))
    (hh : HdsMix X (h₀ :: hds) l) : PS X (.Try body (h₀ :: hds) [] [] pos) (fun D σ H => tb (wMix X.K Wout D l) D σ H) := by
  refine ⟨fun pins s σ H D I h => ?_⟩
  have ok := I.ok
  have hfr : X.A.frames = some (X.env :: X.outer) := by rw [ok.frames, hs]
  refine wpAny_Try_except ?_
  refine wpAny_mono ((hb (wMix X.K Wout D l) (X.pn ++ pins) (fun e s₁ => wpAny (model X.prog X.w) X.A (noteFrame e X.env) (fun _ s₂ => wpAny (model X.prog X.w) X.A (setFlight e none) (fun _ s₃ =>
    wpAny (model X.prog X.w) X.A (handleBy e X.env (h₀ :: hds)) (SP X pins D) X.xe s₃) X.xe s₂) X.xe s₁) (fun u s' xx => ?_) PassesOwn.looking).run [] s σ H D (I.toTry _) h) (fun f s1 hsp => ?_) (fun e s1 he => he)
  · -- the catch
    obtain ⟨a, B, sI, pins', σ', H', cls, d, rfl, J', nb, up, sky, na, os, ag, w⟩ := xx
    have J : L2.Inv X pins σ' H' sI := J'.ofTry ok
    have sky' : Sky B (X.env :: X.outer) a (Zc cls d) X.env.locals s'.heap := by rw [← hs]; exact sky
    show wpAny (model X.prog X.w) X.A (noteFrame (.ref a) X.env) _ _ _
    refine Sky.land Zc.steady hfr hf sky' fun h3 fl3 up3 => ?_
    have J3 : L2.Inv X pins σ' H' { s' with heap := h3 } := J.landed nb fl3.1 (up.trans up3) os ag
    obtain ⟨oe3, vs3, he3, hz3, hd3⟩ := fl3.there
    have notFr : ∀ {h : PySem.Heap} {o : Obj} {vs : Array Value}, h.FunFrames B (X.env :: X.outer) → h.get? a = some o → o.data = .fields vs → a ∉ frs (X.env :: X.outer) := fun {h o vs} ff e dd hm => by
      obtain ⟨_, o', e', hnf⟩ := ff.mem hm
      rw [e] at e'; cases e'
      exact hnf _ dd
    have nfr := notFr fl3.2.2.1 he3 hd3
    have nL : a ≠ X.env.locals := fun z => nfr (List.mem_filterMap.mpr ⟨X.env, List.mem_cons_self, by rw [hf, z]⟩)
    have nF : a ∉ X.fs := fun hm => by
      obtain ⟨e, he, q⟩ := List.mem_filterMap.mp hm
      exact nfr (List.mem_filterMap.mpr ⟨e, List.mem_cons_of_mem _ he, q⟩)
    have S3 := J3.suite he3 hd3 na nL nF
    have LT : PySem.W.Looks (model X.prog X.w) h3 (typeOf (.ref a)) cls := fun A Q E s k q => wpAny_typeOf_ref (k _ _ he3) (by rw [hz3.1]; exact q)
    have test : ∀ {x : Str} {c : Value} {np : Pos} {Q : Value → Shared → Prop} {E : Value → Shared → Prop}, Names X x c → Q c { s' with heap := h3 } → wpAny (model X.prog X.w) (X.A.mark (some (.ref a))) (eval (.Name x np) X.env) Q E { s' with heap := h3 } := fun {x c np Q E} hc q => by
      obtain ⟨hg, hdbg, hm | ⟨hm, hv, hnn⟩⟩ := hc
      · exact ld_glob (X := X.suite a ((a, oe3) :: (X.pn ++ pins))) S3 hg hm q hdbg
      · exact ld_blt (X := X.suite a ((a, oe3) :: (X.pn ++ pins))) S3 hg hm hv q hnn hdbg
    have go : ∀ {hds' : List ExceptHandler} {l' : List Clause}, HdsMix X hds' l' → wMix X.K Wout D l' cls d σ' H' →
        wpAny (model X.prog X.w) X.A (handleBy (.ref a) X.env hds') (SP X pins D) X.xe { s' with heap := h3 } := by
      intro hds' l' hk
      induction hk with
      | nil =>
        intro w
        refine wpAny_handleBy_nil ?_
        obtain ⟨k1, k2, k3, oe, vs, T, oT, ts', he, hz, hd, h1, hr⟩ := id fl3
        unfold PySem.passOn
        refine wpAny_bind (wpAny_field he hd h1 ?_)
        rw [if_neg (show ¬ ((Value.ref T == Value.none) = true) from by simp)]
        have fin : wpAny (model X.prog X.w) X.A (setFlight (.ref a) X.env.frame) (fun _ s4 => wpAny (model X.prog X.w) X.A (throw (.ref a) : Sem Flow) (SP X pins D) X.xe s4) X.xe { s' with heap := h3 } := by
          rw [hf]
          refine HandSPX.setFlight_upZ fl3 fun h4 hh4 up4 => wpAny_throw (tk _ _ ?_)
          exact ⟨a, B, sI, pins, σ', H', cls, d, rfl, J, nb, (up.trans up3).trans up4, .inr (.inr (by rw [hs]; exact hh4)), na, os, ag, w⟩
        first
          | exact wpAny_bind (wpAny_pure (wpAny_bind fin))
          | exact wpAny_bind fin
      | @cons x c ts b₀ suite np pos' hds2 l2 hc hsu r ih =>
        intro w
        obtain ⟨b, hb1, hyes, hno⟩ := w
        refine wpAny_handleBy_cons (codeAny_handlers_test ?_) (by intro q; cases q)
        have LM := PySem.W.exm_one (M := model X.prog X.w) (J3.kIn) LT hb1
        refine test hc (LM.here ?_)
        cases b with
        | true =>
          refine codeAny_handlers_suite ?_
          refine HandSPX.lands_againZ fl3 fun h4 fl4 up4 => ?_
          have J4 : L2.Inv X pins σ' H' { s' with heap := h4 } := J.landed nb fl4.1 ((up.trans up3).trans up4) os ag
          obtain ⟨oe4, vs4, he4, hz4, hd4⟩ := fl4.there
          have S4 := J4.suite he4 hd4 na nL nF
          refine wpAny_mono ((hsu a oe4 cls d (X.pn ++ pins) hz4 ⟨_, hd4⟩).run [] _ _ H' _ S4 (hyes rfl a na)) (fun f s6 hsp => ?_) (fun _ _ z => False.elim z)
          cases f with
          | next =>
            obtain ⟨σ6, H6, S6, q6⟩ := hsp
            exact ⟨_, _, S6.unsuite ok, q6⟩
          | brk =>
            obtain ⟨σ6, H6, S6, q6⟩ := hsp
            exact ⟨_, _, S6.unsuite ok, q6⟩
          | cont =>
            obtain ⟨σ6, H6, S6, q6⟩ := hsp
            exact ⟨_, _, S6.unsuite ok, q6⟩
          | ret u =>
            obtain ⟨v6, σ6, H6, S6, r6, q6⟩ := hsp
            exact ⟨_, _, _, S6.unsuite ok, r6, q6⟩
        | false =>
          show wpAny _ X.A (handleBy (.ref a) X.env hds2) _ _ _
          exact ih (hno rfl)
      | @as x n c i ts b₀ suite np pos' hds2 l2 hc hi hln hsu r ih =>
        intro w
        obtain ⟨b, hb1, hyes, hno⟩ := w
        refine wpAny_handleBy_cons (codeAny_handlers_test ?_) (by intro q; cases q)
        have LM := PySem.W.exm_one (M := model X.prog X.w) (J3.kIn) LT hb1
        refine test hc (LM.here ?_)
        cases b with
        | true =>
          refine codeAny_handlers_suite_as ?_
          refine HandSPX.lands_againZ fl3 fun h4 fl4 up4 => ?_
          have J4 : L2.Inv X pins σ' H' { s' with heap := h4 } := J.landed nb fl4.1 ((up.trans up3).trans up4) os ag
          obtain ⟨oe4, vs4, he4, hz4, hd4⟩ := fl4.there
          have S4 := J4.suite he4 hd4 na nL nF
          refine store_ok (X := X.suite a ((a, oe4) :: (X.pn ++ pins))) (v := .ref a) S4 hN hi (.inl hln) rfl (fun s5 S5 => ?_) (.inr hln)
          refine wpAny_mono ((hsu a oe4 cls d (X.pn ++ pins) hz4 ⟨_, hd4⟩).run [] s5 _ H' _ S5 (hyes rfl a na)) (fun f s6 hsp => ?_) (fun _ _ z => False.elim z)
          have end_ : ∀ {σ6 : L2.St} {H6 : Hp} {Q : Shared → Prop}, L2.Inv (X.suite a ((a, oe4) :: (X.pn ++ pins))) [] σ6 H6 s6 → (∀ s7, L2.Inv X pins (σ6.set i none) H6 s7 → Q s7) →
              wpAny (model X.prog X.w) X.A (do bindName X.env n .none; unbindBehindTheSuite X.env n pos') (fun _ s7 => Q s7) X.xe s6 := fun {σ6 H6 Q} S6 hq => gone_ok (S6.unsuite ok) hN hi hln hq
          cases f with
          | next =>
            obtain ⟨σ6, H6, S6, q6⟩ := hsp
            exact end_ S6 fun s7 J7 => ⟨_, _, J7, q6⟩
          | brk =>
            obtain ⟨σ6, H6, S6, q6⟩ := hsp
            exact end_ S6 fun s7 J7 => ⟨_, _, J7, q6⟩
          | cont =>
            obtain ⟨σ6, H6, S6, q6⟩ := hsp
            exact end_ S6 fun s7 J7 => ⟨_, _, J7, q6⟩
          | ret u =>
            obtain ⟨v6, σ6, H6, S6, r6, q6⟩ := hsp
            exact end_ S6 fun s7 J7 => ⟨_, _, _, J7, r6, q6⟩
        | false =>
          show wpAny _ X.A (handleBy (.ref a) X.env hds2) _ _ _
          exact ih (hno rfl)
    exact go hh w
  · cases f with
    | next =>
      obtain ⟨σ', H', J', q⟩ := hsp
      exact wpAny_execs_nil ⟨σ', H', J'.ofTry ok, q⟩
    | brk =>
      obtain ⟨σ', H', J', q⟩ := hsp
      exact ⟨σ', H', J'.ofTry ok, q⟩
    | cont =>
      obtain ⟨σ', H', J', q⟩ := hsp
      exact ⟨σ', H', J'.ofTry ok, q⟩
    | ret u =>
      obtain ⟨v, σ', H', J', r, q⟩ := hsp
      exact ⟨v, σ', H', J'.ofTry ok, r, q⟩
end
/-- a clause: its class, the errors' numbers that it takes, the slot of its name, its suite -/
structure Cl where
  v : Value
  cs : List Nat
  sl : Option Nat
  f : PM.Env → Heap → SOut
def hdF : List Cl → Exn → PM.Env → Heap → SOut
  | [], x, ρ, h => .exc x ρ h
  | k :: r, x, ρ, h => if x.c ∈ k.cs then unAs k.sl (k.f (slotX k.sl x ρ) h) else hdF r x ρ h
def Cl.clause (C : Cfg) (k : Cl) : Clause := (k.v, k.sl, fun a cls d => LS C (some (a, cls, d)) (fun _ _ _ _ => False) k.f)
theorem RE.cg {C : Cfg} {cg : Caught} {H : Hp} {θ : List Addr} {ρ : PM.Env} {σ : L2.St} (r : RE C none H θ ρ σ) : RE C cg H θ ρ σ :=
  ⟨r.1, fun i s e => let ⟨w, e', q⟩ := r.2 i s e; ⟨w, e', match s, q with
    | .no, _ => True.intro
    | .v _, q => q
    | .x _, ⟨_, _, _, z, _⟩ => by cases z
    | .f, q => q⟩⟩
theorem RE.clean {C : Cfg} {cg : Caught} {H : Hp} {θ : List Addr} {ρ : PM.Env} {σ : L2.St} (r : RE C cg H θ ρ σ) (sl : Option Nat) : RE C none H θ (clean sl ρ) (match sl with | none => σ | some i => σ.set i none) := by
  have one : ∀ (ρ : PM.Env) (σ : L2.St), RE C cg H θ ρ σ → RE C none H θ (ρ.map Sl.noErr) σ := fun ρ σ r => ⟨by simp [r.1], fun i s e => by
    rw [List.getElem?_map] at e
    cases q : ρ[i]? with
    | none => rw [q] at e; cases e
    | some t =>
      rw [q] at e
      obtain ⟨w, e', z⟩ := r.2 i t q
      cases e
      refine ⟨w, e', ?_⟩
      cases t with
      | no => exact True.intro
      | v v => exact z
      | x x => exact True.intro
      | f => exact z⟩
  cases sl with
  | none => exact one _ _ r
  | some i =>
    refine one _ _ ⟨by simp [r.1], fun j s e => ?_⟩
    by_cases hij : i = j
    · subst hij
      have hl : i < ρ.length := by
        have := (List.getElem?_eq_some_iff.mp e).1
        simpa using this
      rw [List.getElem?_set_self hl] at e
      cases e
      exact ⟨none, by rw [List.getElem?_set_self (by rw [← r.1]; exact hl)], True.intro⟩
    · rw [List.getElem?_set_ne hij] at e
      rw [List.getElem?_set_ne hij]
      exact r.2 j s e
theorem RE.slotX {C : Cfg} {a : Addr} {cls : Value} {d : Option Addr} {H : Hp} {θ : List Addr} {ρ : PM.Env} {σ : L2.St} {x : Exn} (r : RE C none H θ ρ σ) (rx : RX C H θ x cls d) (sl : Option Nat) : RE C (some (a, cls, d)) H θ (slotX sl x ρ) (slotAs sl a σ) := by
  have r := r.cg (cg := some (a, cls, d))
  cases sl with
  | none => exact r
  | some i =>
    refine ⟨by simp [PM.slotX, slotAs, r.1], fun j s e => ?_⟩
    have e : (ρ.set i (.x x))[j]? = some s := e
    show ∃ w, (σ.set i (some (.ref a)))[j]? = some w ∧ _
    by_cases hij : i = j
    · subst hij
      have hl : i < ρ.length := by
        have := (List.getElem?_eq_some_iff.mp e).1
        simpa using this
      rw [List.getElem?_set_self hl] at e
      cases e
      exact ⟨_, by rw [List.getElem?_set_self (by rw [← r.1]; exact hl)], a, cls, d, rfl, rfl, rx⟩
    · rw [List.getElem?_set_ne hij] at e
      rw [List.getElem?_set_ne hij]
      exact r.2 j s e
theorem hd_go {C : Cfg} {X : Cx} {W : WX} (hK : X.K = C.K) {D : Ends} {x : Exn} {cls : Value} {d : Option Addr} : ∀ (l : List Cl), (∀ k ∈ l, ∀ c, c < C.nx → PySem.W.exmOne C.K (.ref (C.xa c)) k.v = some (decide (c ∈ k.cs))) → ∀ {H : Hp} {θ : List Addr} {ρ : PM.Env} {h : Heap} {σ : L2.St}, Rel C H θ h → RE C none H θ ρ σ → RX C H θ x cls d →
    GS C none W H θ (hdF l x ρ h) D → wMix X.K W D (l.map (Cl.clause C)) cls d σ H
  | [], _, H, θ, ρ, h, σ, rl, re, rx, g => g H θ σ cls d (After.refl _ _) rl re rx
  | k :: r, hk, H, θ, ρ, h, σ, rl, re, rx, g => by
    refine ⟨decide (x.c ∈ k.cs), ?_, fun yes a na => ?_, fun no => ?_⟩
    · rw [hK, rx.1.1]; exact hk k List.mem_cons_self _ rx.1.2
    · have yes := of_decide_eq_true yes
      unfold hdF at g
      rw [if_pos yes] at g
      refine ⟨θ, slotX k.sl x ρ, h, re.slotX rx k.sl, rl, ?_⟩
      have un : ∀ {H2 : Hp} {θ2 : List Addr} {ρ2 : PM.Env} {σ2 : L2.St} {P : L2.St → Hp → Prop}, RE C (some (a, cls, d)) H2 θ2 ρ2 σ2 → (∀ σ3, RE C none H2 θ2 (clean k.sl ρ2) σ3 → P σ3 H2) → P (match k.sl with | none => σ2 | some i => σ2.set i none) H2 := fun r q => q _ (r.clean k.sl)
      cases q : k.f (slotX k.sl x ρ) h with
      | nx ρ2 h2 =>
        rw [q] at g
        intro H2 θ2 σ2 af rl2 re2
        have z := un (P := D.nx) re2 fun σ3 r3 => g H2 θ2 σ3 af rl2 r3
        cases e : k.sl with
        | none => rw [e] at z; exact z
        | some i => rw [e] at z; exact z
      | rt v h2 =>
        rw [q] at g
        intro H2 θ2 w af rl2 rv
        have z := g H2 θ2 w af rl2 rv
        cases e : k.sl with
        | none => exact z
        | some i => exact z
      | bk ρ2 h2 =>
        rw [q] at g
        intro H2 θ2 σ2 af rl2 re2
        have z := un (P := D.bk) re2 fun σ3 r3 => g H2 θ2 σ3 af rl2 r3
        cases e : k.sl with
        | none => rw [e] at z; exact z
        | some i => rw [e] at z; exact z
      | ct ρ2 h2 =>
        rw [q] at g
        intro H2 θ2 σ2 af rl2 re2
        have z := un (P := D.ct) re2 fun σ3 r3 => g H2 θ2 σ3 af rl2 r3
        cases e : k.sl with
        | none => rw [e] at z; exact z
        | some i => rw [e] at z; exact z
      | exc x2 ρ2 h2 => rw [q] at g; exact g.elim
      | bad => rw [q] at g; exact g.elim
    · have no := of_decide_eq_false no
      unfold hdF at g
      rw [if_neg no] at g
      exact hd_go hK r (fun k' m => hk k' (List.mem_cons_of_mem _ m)) rl re rx g
noncomputable def tryS (f : PM.Env → Heap → SOut) (hs : Exn → PM.Env → Heap → SOut) : PM.Env → Heap → SOut := fun ρ h => match f ρ h with
    | .exc x ρ1 h1 => hs x ρ1 h1
    | r => r
theorem js_try {C : Cfg} {X : Cx} {W : WX} {body : List Stmt} {h₀ : ExceptHandler} {hds : List ExceptHandler} {l : List Cl} {f : PM.Env → Heap → SOut} {pos : Pos} (hK : X.K = C.K) (hs : X.stack = X.env :: X.outer) (hf : X.env.frame = some X.env.locals) (hN : X.N.Nodup) (tk : Takes X W)
    (hb : ∀ (W : WX) (pn : List (Addr × Obj)) (xe : Value → Shared → Prop), Takes (X.tr pn xe) W → PassesOwn (model X.prog X.w) X.A X.env xe → PSs (X.tr pn xe) body (LS C none W f))
    (hk : ∀ k ∈ l, ∀ c, c < C.nx → PySem.W.exmOne C.K (.ref (C.xa c)) k.v = some (decide (c ∈ k.cs)))
    (hh : HdsMix X (h₀ :: hds) (l.map (Cl.clause C))) : PS X (.Try body (h₀ :: hds) [] [] pos) (LS C none W (tryS f (hdF l))) :=
  (ps_try_mix hs hf hN tk hb hh).weak fun D σ H ⟨θ, ρ, h, re, rl, g⟩ => by
    refine ⟨θ, ρ, h, re, rl, ?_⟩
    unfold tryS at g
    cases q : f ρ h with
    | exc x ρ1 h1 =>
      rw [q] at g
      exact fun H' θ' σ' cls d af rl' re' rx => hd_go hK l hk rl' re' rx (GS.mono af g)
    | nx ρ1 h1 => rw [q] at g; exact g
    | rt v h1 => rw [q] at g; exact g
    | bk ρ1 h1 => rw [q] at g; exact g
    | ct ρ1 h1 => rw [q] at g; exact g
    | bad => rw [q] at g; exact g
/-- the field of the caught error -/
noncomputable def xfldF (i : Nat) (f : Str) : PM.Env → Heap → Out Val := fun ρ h => match ρ[i]? with
    | some (.x x) => if x.f = f then .ok x.v h else .bad
    | _ => .bad
theorem je_xfld {C : Cfg} {X : Cx} {W : WX} {a : Addr} {oe : Obj} {cls : Value} {d : Option Addr} {pn : List (Addr × Obj)} {n f : Str} {i : Nat} {pos np : Pos} (hK : X.K = C.K) (T : ∀ c, c < C.nx → XfC C.K (C.xa c) ∧ PySem.W.findIn C.K (.ref (C.xa c)) f = some none)
    (hz : Zc cls d oe) (hfs : ∃ vs, oe.data = .fields vs) (hN : X.N[i]? = some n) (hv : Vis X.env.scope n) (hd : (n == ("__debug__" : Str)) = false) (hcd : (n == ("__classdict__" : Str)) = false) (hb : attributeBase (.Name n np) f X.env (eval (.Name n np) X.env) = eval (.Name n np) X.env) :
    PE (X.suite a ((a, oe) :: pn)) (.Attribute (.Name n np) f pos) (LE C (some (a, cls, d)) W (xfldF i f)) := by
  by_cases z : ∃ c, c < C.nx ∧ cls = .ref (C.xa c)
  · obtain ⟨c, hc, e⟩ := z
    have T1 := T c hc
    rw [← hK] at T1
    refine (pe_xf T1.1 T1.2 hz hfs (pe_var (X := X.suite a ((a, oe) :: pn)) hN hv hd hcd) hb).weak fun σ H Q ⟨θ, ρ, h, re, rl, g⟩ => ?_
    unfold xfldF at g
    split at g
    · rename_i x ex
      split at g
      · rename_i ef
        obtain ⟨w, ew, a', cls', d', e1, e2, rx⟩ := re.2 i _ ex
        cases e1
        obtain ⟨_, dd, wv, e3, e4, rv⟩ := rx
        refine ⟨.ref a, by rw [ew, e2], rfl, e, dd, [(x.f, wv)], wv, e3, e4, ?_, GO.val rl g rv⟩
        rw [ef]; simp
      · exact g.elim
    · exact g.elim
  · refine ⟨fun pins s σ H Q I ⟨θ, ρ, h, re, rl, g⟩ => ?_⟩
    unfold xfldF at g
    split at g
    · rename_i x ex
      obtain ⟨w, ew, a', cls', d', e1, e2, rx⟩ := re.2 i _ ex
      cases e1
      exact absurd ⟨x.c, rx.1.2, rx.1.1⟩ z
    · exact g.elim
end PM

set_option Elab.async false
set_option linter.all false
set_option maxRecDepth 100000
set_option maxHeartbeats 4000000
/-! PMexc: own errors over ValueError whose __init__ is «super().__init__(text); self.f = f». -/
namespace PySem
namespace OwnX
open PySem.W PySem.Calls PyProof.Rows PySem.HandSPX
def eA (fld : Str) (p1 p2 : Pos) : Arguments := { posonlyargs := [], args := [{ arg := "self", annotation := none, pos := p1 }, { arg := fld, annotation := none, pos := p2 }], vararg := none, kwonlyargs := [], kw_defaults := [], kwarg := none, defaults := [] }
def eB (fld text : Str) (k : Nat) (q0 q1 q2 q3 q4 q5 q6 q7 q8 q9 : Pos) : List Stmt :=
  [.Expr (.Call (.Attribute (.Call (.Name "super" q0) [] [] q1) "__init__" q2) [.Constant (.str text) k q3] [] q4) q5, .Assign [.Attribute (.Name "self" q6) fld q7] (.Name fld q8) q9]
def eS (fld : Str) : Scope := { kind := .function, names := [("self", .local), (fld, .local), ("__class__", .free), ("super", .globalImplicit)], isGenerator := false, isCoroutine := false, more := [] }
abbrev eFn (qual fld text : Str) (k : Nat) (p1 p2 q0 q1 q2 q3 q4 q5 q6 q7 q8 q9 : Pos) (doc pm : Value) (an : Option Addr) (cda : Addr) (ct : Value) (cc : Addr) : FuncData :=
  ksFn "__init__" qual (eA fld p1 p2) (eB fld text k q0 q1 q2 q3 q4 q5 q6 q7 q8 q9) (eS fld) .none .none doc pm an (.ref cda) ct cc
/-- what the written part says of an error class, at C, and of its __init__, at fI -/
structure ErrTxt (prog : Program) (K : Frag) (C fI : Addr) (fld : Str) : Prop where
  fl : fld = "word" ∨ fld = "at"
  ini : excInitIn K C He.veBase "ValueError.__new__" = true
  mro : ∃ cd, clsIn K C = some cd ∧ refsVE cd.mro = true ∧ cd.hasDict = true
  sa : findIn K (.ref C) "__setattr__" = some (some (.builtin "object.__setattr__"))
  ga : findIn K (.ref C) "__getattribute__" = some (some (.builtin "BaseException.__getattribute__"))
  gg : findIn K (.ref C) "__getattr__" = some none
  noN : findIn K (.ref C) fld = some none
  iC : findIn K (.ref C) "__init__" = some (some (.ref fI))
  tC : typeIn K (.ref fI) = some (.type "function")
  kC : keepIn K (.ref C) = true
  exC : subIn K (.ref C) (.type "BaseException") = some true
  tyC : typeIn K (.ref C) = some (.type "type")
  hdC : hasDictIn K C = true
  ve : subIn K (.ref C) (.type "ValueError") = some true
  slf : mroIn K C (.ref C) = some true
  sup : ks_superIn K C C "__init__" = some (some (.builtin "ValueError.__init__"))
  op : nsIn K cStatics "thirdparty.any" = some none
  topn : (prog.main.scope.names.lookup ("super" : Str)).isSome = false
  fn : ∃ (oc : Value) (od : Option Addr) (osl : Array (Option Value)) (qual text : Str) (k : Nat) (p1 p2 q0 q1 q2 q3 q4 q5 q6 q7 q8 q9 : Pos) (doc pm : Value) (an : Option Addr) (cda : Addr) (ct : Value) (cc : Addr),
    (q2.endLine == q4.line) = true ∧ K.lookup fI = some ⟨oc, od, .func (eFn qual fld text k p1 p2 q0 q1 q2 q3 q4 q5 q6 q7 q8 q9 doc pm an cda ct cc), osl⟩ ∧ codeIn K (.ref cda) qual = true ∧
    (∃ (ccl : Value) (cdd : Option Addr) (vs : Array Value) (ccs : Array (Option Value)) (file : Str) (tf : Tok), K.lookup cda = some ⟨ccl, cdd, .fields vs, ccs⟩ ∧ vs[2]? = some (.str file tf) ∧ ((prog.main.file : Str) == file) = true) ∧
    (∃ (cl : Value) (cld : Option Addr) (csl : Array (Option Value)), K.lookup cc = some ⟨cl, cld, .cell (some (.ref C)), csl⟩)

/-! ValueError.__init__ bound to e, called -/
section
variable {prog : Program} {w : World} {A : Around} {E : Value → Shared → Prop} {h : Heap} {g : Array GenState} {d : Drawn} {t : Nat} {os : OsState}
variable {nm q : Str} {C N : Addr} {bs bm bmB : List Value} {hdct : Bool} {sn : List Str} {sub : List Value} {ab : Bool} {col : Option Bool} {dd : Option Addr} {k0 k1 k2 k3 k5 : Option Value} {B newId initId : String}
theorem call_mw (FB : ExcBaseFacts B newId initId bmB) {u e t0 : Addr} {rest : List Value} {Q : Value → Shared → Prop}
    (hC : h.get? C = some (excClassObj nm q C N bs bm hdct sn sub ab col dd k0 k1 k2 k3 k5 newId)) (he : h.get? e = some (excO C t0)) (hu : h.get? u = some (kxs_mw initId e)) (hrest : rest.length ≤ sizeLine)
    (hq : ∀ h' t1, (∀ b o, b ≠ e → h.get? b = some o → h'.get? b = some o) → h'.get? e = some (excO C t1) → Q .none ⟨h', g, d, t, os⟩) :
    wpAny (model prog w) A (call (.ref u) rest) Q E ⟨h, g, d, t, os⟩ := by
  refine wpAny_call (codeAny_of_tree ?_)
  show wpAny _ A.in1 (callAny (.ref u) ⟨rest, []⟩) _ _ _
  simp only [callAny]
  refine wpAny_bind (wpAny_load hu ?_)
  simp only [kxs_mw, show (Value.type "method-wrapper" == Value.type "method" || Value.type "method-wrapper" == Value.type "builtin_function_or_method" || Value.type "method-wrapper" == Value.type "method-wrapper") = true by decide, if_true]
  refine W.KFB.if_so (by decide) ?_
  refine wpAny_bind (check_bound_init FB.toExcCallFacts hC he rfl ?_)
  refine wpAny_bind (wpAny_pure (wpAny_pure ?_))
  refine ⟨plainId_quiet FB.init.plain _, codeAny_builtin FB.initEntry ?_⟩
  rw [Around.under_plainId FB.init.plain _]
  wp_walk
  refine hq _ h.objs.size (fun b o hb ho => ?_) ?_
  · rw [Heap.get?_update_other _ _ (Ne.symm hb)]
    exact Heap.get?_push_of_some _ ho
  · rw [Heap.get?_update_self _ (Heap.get?_push_of_some _ he) rfl]
    rfl
end
theorem one_size (v : Value) : [v].length ≤ sizeLine := by
  rw [sizeLine_eq]
  exact (by decide : 1 ≤ 16777216)
/-- what __init__ leaves of a fresh exception at x -/
structure InitEnd (h h' : Heap) (x C dx t1 : Addr) (fld : Str) (v : Value) : Prop where
  keep : ∀ b o, b ≠ x → h.get? b = some o → h'.get? b = some o
  obj : h'.get? x = some { cls := .ref C, dict := some dx, data := .fields #[.ref t1, .none, .none, .none, .bool false, .none] }
  dbig : h.objs.size ≤ dx
  dne : dx ≠ x
  ns : h'.Ns1 dx (fun y => if y = fld then some v else none)
theorem ldC {M : Model} {s : Shared} {env : Env} {m : Str → Option Value} {x : Str} {pos : Pos} {v : Value} {Q : Value → Shared → Prop} {A : Around} {E : Value → Shared → Prop} (hn : s.heap.Ns env.locals m) (hv : m x = some v) (h : Q v s)
    (hk : env.scope.kind = .function) (hl : env.kindOf x = some .local) (hd : (x == ("__debug__" : Str)) = false) :
    wpAny M A (eval (.Name x pos) env) Q E s := wpAny_Name (wpAny_loadName_local hk hl hn hv h) hd
section
variable {prog : Program} {w : World} {A : Around} {E : Value → Shared → Prop} {R : Result → Shared → Prop} {s : Shared} {K : Frag} {mg mb : Str → Option Value} {C fI : Addr} {fld : Str}
theorem err_init (T : ErrTxt prog K C fI fld) {x t0 : Addr} {v : Value} (X : K.In s.heap) (hlim : s.heap.NoLimit) (hx : s.heap.get? x = some (excO C t0)) (hnx : K.lookup x = none) (hroom : A.depth < recursionLimit)
    (G : s.heap.Ns mainGlobals mg) (hgs : mg "super" = none) (Bn : s.heap.Ns builtinsNs mb) (hbs : mb "super" = some (.type "super"))
    (hq : ∀ h' tk dx t1, InitEnd s.heap h' x C dx t1 fld v → R (.ok (.ret .none)) { s with heap := h', toks := tk }) :
    codeAny (model prog w) A (.call (.ref fI) ⟨[.ref x, v], []⟩) R s := by
  obtain ⟨oc, od, osl, qual, text, k, p1, p2, q0, q1, q2, q3, q4, q5, q6, q7, q8, q9, doc, pm, an, cda, ct, cc, hline, ho, hcd, ⟨ccl, cdd, vs, ccs, file, tf, hcode, hvs, hfile⟩, ⟨cl, cld, csl, hcell⟩⟩ := T.fn
  obtain ⟨cd, hcl, hmr, hdc⟩ := T.mro
  obtain ⟨nm, N, qn, bs, bm, hdct, sn, sub, ab, col, dd, k0, k1, k2, k3, k5, hC, hT⟩ := excInit_of X T.ini
  have fl := T.fl
  have lkS : (eS fld).names.lookup ("self" : Str) = some .local := by rcases fl with rfl | rfl <;> rfl
  have lkF : (eS fld).names.lookup fld = some .local := by rcases fl with rfl | rfl <;> rfl
  have lkC : (eS fld).names.lookup ("__class__" : Str) = some .free := by rcases fl with rfl | rfl <;> rfl
  have lkU : (eS fld).names.lookup ("super" : Str) = some .globalImplicit := by rcases fl with rfl | rfl <;> rfl
  have bS : List.lookup ("self" : Str) (([(("self" : Str), Value.ref x), (fld, v)] : List (Str × Value)).reverse) = some (.ref x) := by rcases fl with rfl | rfl <;> rfl
  have bF : List.lookup fld (([(("self" : Str), Value.ref x), (fld, v)] : List (Str × Value)).reverse) = some v := by rcases fl with rfl | rfl <;> rfl
  have dbg : (fld == ("__debug__" : Str)) = false := by rcases fl with rfl | rfl <;> decide
  have cell0 : ∀ x ∈ (eS fld).names, x.2 ≠ .cell := by
    rcases fl with rfl | rfl
    · exact (by decide : ∀ x ∈ (eS ("word" : Str)).names, x.2 ≠ .cell)
    · exact (by decide : ∀ x ∈ (eS ("at" : Str)).names, x.2 ≠ .cell)
  have loc0 : ∀ y ∈ ([(("self" : Str), Value.ref x), (fld, v)] : List (Str × Value)), (eS fld).names.lookup y.1 = some .local := fun y hy => by
    rcases List.mem_cons.mp hy with rfl | hy
    · exact lkS
    · rcases List.mem_cons.mp hy with rfl | hy
      · exact lkF
      · cases hy
  have bnd : BindsTo s (eFn qual fld text k p1 p2 q0 q1 q2 q3 q4 q5 q6 q7 q8 q9 doc pm an cda ct cc) ⟨[.ref x, v], []⟩ [(("self" : Str), Value.ref x), (fld, v)] := by
    rcases fl with rfl | rfl <;> exact BindsTo.of_eq (by first | rfl | with_unfolding_all rfl)
  refine ks_codeAny_call_defAt hroom (X _ _ ho) rfl hlim (codeRec_of X hcd) rfl bnd cell0 loc0 (fun h₁ hns hk₁ => ?_) rfl rfl rfl
  have X₁ : K.In h₁ := X.keeps hk₁
  have hx₁ := hk₁ _ _ hx
  have hC₁ := hk₁ _ _ hC
  have G₁ := G.keeps hk₁
  have B₁ := Bn.keeps hk₁
  have hcl₁ : ∃ oC, h₁.get? C = some oC ∧ oC.data = .cls cd := by
    unfold clsIn at hcl
    split at hcl
    · rename_i c d cd' sl hoC
      cases hcl
      exact ⟨_, X₁ _ _ hoC, rfl⟩
    · cases hcl
  obtain ⟨oC, hoC, hoCd⟩ := hcl₁
  have xC : x ≠ C := fun z => by
    rw [z] at hnx
    have := T.ini
    unfold excInitIn at this
    rw [hnx] at this
    cases this
  show wpAt _ _ _ (execs (eB fld text k q0 q1 q2 q3 q4 q5 q6 q7 q8 q9) _) _ _ _
  unfold eB
  refine ks_wpAt_execs_cons ?_
  refine ks_wpAt_Expr_any ?_
  have heq : ∀ env : Env, eval (.Call (.Attribute (.Call (.Name ("super" : Str) q0) [] [] q1) ("__init__" : Str) q2) [.Constant (.str text) k q3] [] q4) env = (do
      let ov ← attributeBase (.Call (.Name ("super" : Str) q0) [] [] q1) ("__init__" : Str) env (eval (.Call (.Name ("super" : Str) q0) [] [] q1) env)
      standAt q2.atName
      let (f, first) ← holding [ov] (getMethod ov ("__init__" : Str) (do return (← importBound (.Call (.Name ("super" : Str) q0) [] [] q1) env).getD true))
      callWith q4 f first (backTo q4 (starEach [.Constant (.str text) k q3] env)) []) := fun env => by
    rw [arm_eval_Call]
    have hform : methodCallForm (([.Constant (.str text) k q3] : List Expr).length + ([] : List Keyword).length) (backTo q4 (starEach [.Constant (.str text) k q3] env)) (backToKw q4 (keywordEach [] env)) = true := rfl
    have hpos : methodCallPos true (.Call (.Name ("super" : Str) q0) [] [] q1) env q2 q4 = pure q4 := by unfold methodCallPos; simp [hline]
    unfold methodCall
    rw [hform, hpos]
    rfl
  refine ks_wpAt_MethodCall ?_ (heq _)
  refine ks_wpAt_super_base (fd := eFn qual fld text k p1 p2 q0 q1 q2 q3 q4 q5 q6 q7 q8 q9 doc pm an cda ct cc) lkU lkC (by decide) rfl (X₁ _ _ ho) rfl rfl rfl (X₁ _ _ hcode) rfl hvs hfile T.topn ?_
  refine ks_loadName_global rfl lkU (loadGlobal_builtin G₁ hgs B₁ hbs ⟨rfl, ?_⟩)
  refine wpAny_loadName_free rfl lkC rfl ⟨_, X₁ _ _ hcell, rfl⟩ ?_
  refine wpAny_loadName_local rfl lkS hns bS ?_
  refine ks_wpAny_isType_cls hoC hoCd ⟨rfl, ?_⟩
  refine ks_wpAny_call_super hoC hoCd hx₁ rfl (fun c e => by cases e) (looks_mroIn X₁ T.slf) (fun h₂ e₂ k₂ => ?_)
  have X₂ : K.In h₂ := X₁.keeps k₂
  have hx₂ := k₂ _ _ hx₁
  have hC₂ := k₂ _ _ hC₁
  refine kxs_getMethod kxs_ValueError e₂ (looks_opaque X₂ T.op) (l₀ := cd.mro) (fun A Q E s k q => wpAny_bind ((looks_clsIn X₂ hcl) A _ E s k (wpAny_pure q))) rfl X₂ (by have := T.sup; unfold ks_superIn at this; rw [hcl] at this; exact this)
    ((InstAt.type (C := C) (ox := excO C t0) (od := none) ⟨hx₂, rfl, rfl, trivial⟩).andThen (looks_subIn X₂ T.ve)) xC (by decide) ?_
  have k₃ : ∀ b o, h₂.get? b = some o → (h₂.push (kxs_mw "ValueError.__init__" x)).get? b = some o := fun b o e => Heap.get?_push_of_some _ e
  have hu : (h₂.push (kxs_mw "ValueError.__init__" x)).get? h₂.objs.size = some (kxs_mw "ValueError.__init__" x) := Heap.get?_push_at rfl rfl
  refine kxs_callWith (i := "ValueError.__init__") (x := x) (by rfl) (evalArgs_plain ?_)
  refine spliced_more (wpAny_Constant_str (spliced_none ⟨hu, ?_⟩))
  refine call_mw PySem.F.excBase_ValueError (k₃ _ _ hC₂) (k₃ _ _ hx₂) hu (one_size _) fun h₄ t1 k₄ e₄ => ?_
  have k₅ : ∀ b o, b ≠ x → h₁.get? b = some o → h₄.get? b = some o := fun b o hb e => k₄ b o hb (k₃ _ _ (k₂ _ _ e))
  have X₄ : K.In h₄ := fun a o e => k₅ a o (fun z => by rw [z, hnx] at e; cases e) (X₁ _ _ e)
  have hxL : s.heap.objs.size ≠ x := Nat.ne_of_gt (Heap.lt_size hx)
  have n₄ : h₄.Ns s.heap.objs.size fun y => List.lookup y (([(("self" : Str), Value.ref x), (fld, v)] : List (Str × Value)).reverse) := hns.at (fun o q => k₅ _ o hxL q)
  -- self.f = f
  show wpAt _ _ _ (execs _ _) _ _ _
  refine ks_wpAt_execs_cons (ks_wpAt_Assign_Attr (wpAt_of_wpAny ?_))
  refine ldC n₄ bF (ldC n₄ bS ?_ rfl lkS (by decide)) rfl lkF dbg
  refine set_plain X₄ (ox := excO C t1) (od := none) ⟨e₄, rfl, rfl, trivial⟩ T.sa ?_
  refine HandSPX.exc_osa X₄ e₄ hcl hmr hdc T.noN (fun h₆ tk₆ dx k₆ dn dne hx₆ hn₆ => ?_)
  show wpAt _ _ _ (execs _ _) _ _ _
  have z : s.heap.objs.size < h₁.objs.size := hns.lt
  have z1 : h₁.objs.size ≤ h₂.objs.size := Nat.le_of_lt (Heap.lt_size e₂)
  have z2 : h₂.objs.size < h₄.objs.size := Heap.lt_size (k₄ _ _ (fun z => by
    have := Heap.lt_size hx₂
    rw [← z] at this; exact absurd this (Nat.lt_irrefl _)) hu)
  have hb : s.heap.objs.size ≤ dx := Nat.le_of_lt (Nat.lt_of_lt_of_le z (Nat.le_trans z1 (Nat.le_trans (Nat.le_of_lt z2) dn)))
  exact wpAt_of_wpAny (wpAny_execs_nil (hq h₆ tk₆ dx t1 ⟨fun b o hb e => k₆ b o hb (k₅ b o hb (hk₁ b o e)), hx₆, hb, dne, hn₆⟩))
/-- a made error -/
structure OwnMade (h h' : Heap) (e C d : Addr) (fld : Str) (v : Value) : Prop where
  keep : ∀ b o, h.get? b = some o → h'.get? b = some o
  new : h.objs.size ≤ e
  obj : ∃ oe vs, h'.get? e = some oe ∧ oe.cls = .ref C ∧ oe.dict = some d ∧ oe.data = .fields vs ∧ vs[1]? = some .none
  dbig : h.objs.size ≤ d
  dne : d ≠ e
  ns : h'.Ns1 d (fun y => if y = fld then some v else none)
theorem err_made (T : ErrTxt prog K C fI fld) {v : Value} (X : K.In s.heap) (hlim : s.heap.NoLimit) (hroom : A.depth + 1 < recursionLimit)
    (G : s.heap.Ns mainGlobals mg) (hgs : mg "super" = none) (Bn : s.heap.Ns builtinsNs mb) (hbs : mb "super" = some (.type "super"))
    (hq : ∀ h' tk e d, OwnMade s.heap h' e C d fld v → R (.ok (.ret (.ref e))) { s with heap := h', toks := tk }) :
    codeAny (model prog w) A (.call (.ref C) ⟨[v], []⟩) R s := by
  obtain ⟨nm, N, qn, bs, bm, hdct, sn, sub, ab, col, dd, k0, k1, k2, k3, k5, hC, hT⟩ := excInit_of X T.ini
  obtain ⟨hp, g, dr, tk, os⟩ := s
  have k : ∀ b o, hp.get? b = some o → ((hp.push (kdv_tup [v])).push (excO C hp.objs.size)).get? b = some o := fun b o e => Heap.get?_push_of_some _ (Heap.get?_push_of_some _ e)
  have hget : ((hp.push (kdv_tup [v])).push (excO C hp.objs.size)).get? (hp.objs.size + 1) = some (excO C hp.objs.size) := by heap_get
  have hnx : K.lookup (hp.objs.size + 1) = none := by
    cases e : K.lookup (hp.objs.size + 1) with
    | none => rfl
    | some o =>
      have z : hp.get? (hp.objs.size + 1) = some o := X _ _ e
      exact absurd (Nat.lt_of_succ_lt (Heap.lt_size z)) (Nat.lt_irrefl _)
  refine call_own F.excBase_ValueError hT hC (looks_findIn X T.iC) (fun self => bind_fn X self T.tC) (one_size v) ?_
  refine err_init (s := ⟨(hp.push (kdv_tup [v])).push (excO C hp.objs.size), g, dr, tk, os⟩) T (X.keeps k) (hlim.keeps k) hget hnx ?_ (G.keeps k) hgs (Bn.keeps k) hbs fun h' tk' dx t1 ⟨k', hx, dn, dne, hns⟩ => ?_
  · show A.depth + 1 < recursionLimit
    exact hroom
  · have old : ∀ b o, hp.get? b = some o → h'.get? b = some o := fun b o e => k' b o (Nat.ne_of_lt (Nat.lt_succ_of_lt (Heap.lt_size e))) (k b o e)
    have z : hp.objs.size + 1 + 1 ≤ dx := by
      have q := dn; rw [Heap.size_push, Heap.size_push] at q; exact q
    exact ⟨rfl, hq h' tk' (hp.objs.size + 1) dx ⟨old, Nat.le_succ _, ⟨_, _, hx, rfl, rfl, rfl, rfl⟩, Nat.le_trans (Nat.le_trans (Nat.le_succ _) (Nat.le_succ _)) z, dne, hns⟩⟩
end
end OwnX
end PySem
namespace PM
open PySem PySem.Spec PyProof.Rows L2
theorem relO_put1 {v : V} {v' : Value} (r : RelV v v') (fld f : Str) : RelO (List.lookup f [(fld, v)]) (if f = fld then some v' else none) := by
  by_cases hw : f = fld
  · subst hw
    rw [if_pos rfl]
    have q : List.lookup f [(f, v)] = some v := by simp [List.lookup]
    rw [q]
    exact r
  · rw [if_neg hw]
    have qw : (f == fld) = false := by simpa using hw
    have q2 : List.lookup f [(fld, v)] = none := by simp [List.lookup, qw]
    rw [q2]
    trivial
/-- Name(e), of an error class -/
theorem mkx_own {C : Cfg} {X : Cx} {cg : Caught} {W : WX} {c : Nat} {fI : Addr} {fld x : Str} {a : Expr} {te : TE} {p pos : Pos} {k : Nat} (T : PySem.OwnX.ErrTxt X.prog X.K (C.xa c) fI fld) (hm : X.mg x = some (.ref (C.xa c))) (hs : X.mg "super" = none) (hr : Room k X.A) (ha : PE X a te) (hg : Gl X x)
    (hd : (x == ("__debug__" : Str)) = false) (he : starEach (a :: []) X.env = (false, eval a X.env) :: starEach [] X.env) (hpl : (backTo pos (starEach [] X.env)).any (·.1) = false) :
    MkX C X (.Call (.Name x p) [a] [] pos) c fld te := by
  intro pins s σ H Q I h
  refine wpAny_Call_Name_kw (ld_glob I hg hm ?_ hd)
  have hp := (pa_cons ha pa_nil he).run pos pins s σ H (fun vs H1 => match vs with
    | [w] => ∀ d, H1 d = none → Q (.ref (C.xa c)) (some d) (upd H1 d (.xd [(fld, w)]))
    | _ => False) I h
  refine PySem.W.callWith_K (h₀ := X.base) I.ok.mod.kin T.kC (thn hp fun us s1 hh => ?_) he hpl
  obtain ⟨vs, H1, I1, r1, q1⟩ := hh
  refine ⟨I1.kIn, ?_⟩
  match vs, us, r1, q1 with
  | [v], _, .cons (b := v') rv .nil, q1 =>
    show wpAny _ _ (PySem.call (.ref (C.xa c)) [v']) _ _ _
    have hlim := I1.nolimit
    obtain ⟨mb, b1, b2⟩ := I1.mod.blt
    have hbs : mb "super" = some (.type "super") := (b2 "super" (by decide)).trans (by first | rfl | kernel_rfl)
    have bk := I1.bk
    have G := I1.mod.glob.keeps bk
    have B := b1.keeps bk
    obtain ⟨hp, g, dr, tk, os⟩ := s1
    refine wpAny_call (PySem.OwnX.err_made T I1.kIn hlim (by have := hr.dp; omega) G hs B hbs fun h' tk' e d M => ?_)
    show MkP X pins σ Q (.ref e) ⟨h', g, dr, tk', os⟩
    obtain ⟨oe, fv, hoe, hc, hd, hdat, h1⟩ := M.obj
    have hns := M.ns
    obtain ⟨G', g1, g2⟩ := restrict h' fun b => decide (b ≠ e)
    have gk : ∀ b, b ≠ e → G'.get? b = h'.get? b := fun b hb => g1 b (decide_eq_true hb)
    have ge : G'.get? e = none := g2 e (by simp)
    have old : ∀ b o, hp.get? b = some o → G'.get? b = some o := fun b o q => (gk b (Nat.ne_of_lt (Nat.lt_of_lt_of_le (Heap.lt_size q) M.new))).trans (M.keep b o q)
    have ob : ObjOk X.prog X.w (upd H1 d (.xd [(fld, v)])) G' d (.xd [(fld, v)]) :=
      ⟨_, hns.at (fun o q => (gk d M.dne).trans q), fun f => relO_put1 rv fld f⟩
    have J : L2.Inv X pins σ (upd H1 d (.xd [(fld, v)])) ⟨G', g, dr, tk', os⟩ := I1.laid (t' := tk') old M.dbig ob
    refine ⟨e, oe, fv, ⟨G', g, dr, tk', os⟩, _, .ref (C.xa c), some d, rfl, J, fun b o q => ?_, ge, hoe, ⟨hc, hd⟩, hdat, h1, ?_, rfl, I1.bare, raises_own T.exC T.tyC, q1 d (I1.hok.fresh M.dbig)⟩
    · by_cases hb : b = e
      · have q' : G'.get? b = some o := q
        rw [hb, ge] at q'; cases q'
      · exact (gk b hb).symm.trans q
    · rw [upd_ne (Ne.symm M.dne)]
      exact I1.hok.fresh M.new
end PM

set_option Elab.async false
set_option linter.all false
set_option maxRecDepth 100000
set_option maxHeartbeats 2000000
/-! PMcmp: from the program's form to the evaluator's text: expressions. -/
namespace PM
open PySem PySem.Spec PyProof.Rows L2

/-- a def: its name, its parameters -/
structure FnE where
  name : Str
  ps : List Str
/-- what is known of the module's names -/
structure Gb where
  fns : List FnE
  pats : List (Nat × Nat × List Str × List Nat)
  frees : List Str
  cons : List (Str × Val)
  exs : List (Str × Str)
  cat : List (Str × List Nat)
  lams : List Nat
  ex : Program → World → PySem.W.Frag → (Str → Option Value) → PySem.Heap → Prop
/-- where a text stands -/
structure Ctx where
  g : Gb
  N : List Str
  sc : Scope
  fnB : Str → Bool
  calm : Bool
  top : Bool
  lam : Bool
  actN : Option Str

structure Glob (C : Cfg) (k : Nat) (cl : Nat → List Val → Heap → Out Val) (g : Gb) (P : Program) (w : World) (K : PySem.W.Frag) (mg : Str → Option Value) (base : PySem.Heap) : Prop where
  fns : ∀ (i : Nat) (d : FnE), g.fns[i]? = some d → ∃ (fa : Addr) (fd : FuncData), mg d.name = some (.ref fa) ∧ PySem.W.keepIn K (.ref fa) = true ∧ FnOk P w K mg base (L2.CX P w) k fa fd d.ps (spF C (cl i) d.ps.length) ∧ ∀ m ks pm, (i, m, ks, pm) ∈ g.pats → KB K fd d.ps m ks pm
  free : ∀ x ∈ g.frees, mg x = none
  cons : ∀ x v, g.cons.lookup x = some v → ∃ (u : Value) (w : V), mg x = some u ∧ RelV w u ∧ ∀ H θ, RV C.K H θ v w
  exs : ∀ (i : Nat) (p : Str × Str), g.exs[i]? = some p → i < C.nx ∧ mg p.1 = some (.ref (C.xa i)) ∧ ∃ fI, PySem.OwnX.ErrTxt P K (C.xa i) fI p.2
  cat : ∀ x cs, g.cat.lookup x = some cs → ∃ v, mg x = some v ∧ ∀ i, i < C.nx → PySem.W.exmOne C.K (.ref (C.xa i)) v = some (decide (i ∈ cs))
  xf : ∀ i, i < C.nx → XfC C.K (C.xa i) ∧ ∀ p ∈ g.exs, PySem.W.findIn C.K (.ref (C.xa i)) p.2 = some none
  ex : g.ex P w K mg base

noncomputable def actF (act : Heap → Out Val) : PM.Env → Heap → Out Val := fun ρ h => match ρ[0]? with
    | some Sl.f => act h
    | _ => .bad
structure Okc (C : Cfg) (k : Nat) (cl : Nat → List Val → Heap → Out Val) (L : Prop) (g : Gb) (act : Heap → Out Val) (c : Ctx) (X : Cx) (cg : Caught) (W : WX) : Prop where
  gl : Glob C k cl c.g X.prog X.w X.K X.mg X.base
  hK : X.K = C.K
  N : X.N = c.N
  sc : X.env.scope = c.sc
  kind : c.sc.kind = .function
  fn : X.fn = c.fnB
  nd : X.N.Nodup
  calm : c.calm = true → X.calm = true ∧ Room k X.A
  top : c.top = true → X.stack = X.env :: X.outer ∧ X.env.frame = some X.env.locals ∧ cg = none
  hp : PassesOwn (model X.prog X.w) X.A X.env X.xe
  tk : Takes X W
  xf : c.calm = false → ∀ (i : Nat) (n f : Str) (np pos : Pos), X.N[i]? = some n → Vis X.env.scope n → (n == ("__debug__" : Str)) = false → (n == ("__classdict__" : Str)) = false → (∃ p ∈ c.g.exs, p.2 = f) → PE X (.Attribute (.Name n np) f pos) (LE C cg W (xfldF i f))
  gg : c.g = g
  lamL : c.lam = true → L
  lm : c.lam = true → Room (k + 2) X.A ∧ ∃ cd Pt, X.env.code = .ref cd ∧ LamX.TabB X.base X.mg cd Pt ∧ (Pt, X.env.qual ++ "<lambda>") ∈ C.T ∧ ∀ p ∈ C.T, p.1 = Pt → p.2 = X.env.qual ++ "<lambda>"
  ac : ∀ a, c.actN = some a → ∀ (pn : List (Addr × Obj)) (xe : Value → Shared → Prop) (W' : WX), Takes (X.tr pn xe) W' → ∀ p1 p2, PE (X.tr pn xe) (.Call (.Name a p1) [] [] p2) (LE C cg W' (actF act))

theorem ob {α β : Type} {o : Option α} {f : α → Option β} {b : β} (h : o.bind f = some b) : ∃ a, o = some a ∧ f a = some b := by
  cases o with
  | none => cases h
  | some a => exact ⟨a, rfl, h⟩
theorem om {α β : Type} {o : Option α} {f : α → β} {b : β} (h : o.map f = some b) : ∃ a, o = some a ∧ f a = b := by
  cases o with
  | none => cases h
  | some a => exact ⟨a, rfl, Option.some.inj h⟩
theorem og {α : Type} {p : Prop} [Decidable p] {o : Option α} {b : α} (h : (if p then o else none) = some b) : p ∧ o = some b := by
  split at h
  · exact ⟨by assumption, h⟩
  · cases h

/-! ### names -/
def Ctx.kd (c : Ctx) (x : Str) : Option NameKind := c.sc.names.lookup x
def visB : Option NameKind → Bool
  | some .local => true
  | some .cell => true
  | some .free => true
  | _ => false
def glB : Option NameKind → Bool
  | some .globalImplicit => true
  | _ => false
def ix (x : Str) : List Str → Nat → Option Nat
  | [], _ => none
  | y :: r, i => if y = x then some i else ix x r (i + 1)
theorem ix_ok {x : Str} : ∀ {l : List Str} {i j : Nat}, ix x l i = some j → i ≤ j ∧ l[j - i]? = some x
  | [], i, j, h => by cases h
  | y :: r, i, j, h => by
    unfold ix at h
    split at h
    · rename_i e
      cases h
      exact ⟨Nat.le_refl _, by simp [e]⟩
    · obtain ⟨h1, h2⟩ := ix_ok h
      refine ⟨by omega, ?_⟩
      rw [show j - i = (j - (i + 1)) + 1 by omega, List.getElem?_cons_succ]
      exact h2
def Ctx.slot (c : Ctx) (x : Str) : Option Nat := ix x c.N 0
def okN (x : Str) : Bool := !(x == ("__debug__" : Str)) && !(x == ("__classdict__" : Str)) && !(x == ("__name__" : Str))
theorem okN_ok {x : Str} (h : okN x = true) : (x == ("__debug__" : Str)) = false ∧ (x == ("__classdict__" : Str)) = false ∧ x ≠ "__name__" := by
  unfold okN at h
  simp only [Bool.and_eq_true, Bool.not_eq_true'] at h
  refine ⟨h.1.1, h.1.2, fun e => ?_⟩
  have := h.2
  rw [e] at this
  simp at this
section
variable {C : Cfg} {k : Nat} {cl : Nat → List Val → Heap → Out Val} {clL : Nat → (Heap → Out Val) → Heap → Out Val} {L : Prop} {g : Gb} {act : Heap → Out Val} {c : Ctx} {X : Cx} {cg : Caught} {W : WX}
theorem Okc.slot (o : Okc C k cl L g act c X cg W) {x : Str} {i : Nat} (h : c.slot x = some i) : X.N[i]? = some x := by
  rw [o.N]
  have := (ix_ok h).2
  simpa using this
theorem Okc.vis (o : Okc C k cl L g act c X cg W) {x : Str} (h : visB (c.kd x) = true) : Vis X.env.scope x := by
  unfold Vis
  rw [o.sc]
  unfold Ctx.kd at h
  cases q : c.sc.names.lookup x with
  | none => rw [q] at h; cases h
  | some kd => rw [q] at h; cases kd <;> first | exact .inl rfl | exact .inr (.inl rfl) | exact .inr (.inr rfl) | cases h
theorem Okc.glob (o : Okc C k cl L g act c X cg W) {x : Str} (h : glB (c.kd x) = true) : Gl X x := by
  show X.env.scope.names.lookup x = _
  rw [o.sc]
  unfold Ctx.kd at h
  cases q : c.sc.names.lookup x with
  | none => rw [q] at h; cases h
  | some kd => rw [q] at h; cases kd <;> first | rfl | cases h

/-! ### expressions: the judgement -/
structure J (C : Cfg) (cl : Nat → List Val → Heap → Out Val) (clL : Nat → (Heap → Out Val) → Heap → Out Val) (act : Heap → Out Val) (X : Cx) (cg : Caught) (W : WX) (e : Expr) (x : Ex) : Prop where
  pe : PE X e (LE C cg W (evE cl clL act x))
  pt : PT X e (LT C cg W (evE cl clL act x))
  st : ∀ r, starEach (e :: r) X.env = (false, eval e X.env) :: starEach r X.env
  fs : ∀ v, foldedSetIterable e X.env v = pure v
  px : PlainIx e
  ns : ∀ v ov iv : Value, (match e with | .Slice _ _ none _ => [iv, v, ov] | _ => [v, ov, iv]) = [v, ov, iv]
def cName (c : Ctx) (x : Str) : Option Ex :=
  if okN x = true then (match visB (c.kd x) with
    | true => (c.slot x).map .var
    | false => if glB (c.kd x) = true then (c.g.cons.lookup x).map (.glob x) else none) else none
theorem j_name (o : Okc C k cl L g act c X cg W) {x : Str} {p : Pos} {y : Ex} (h : cName c x = some y) : J C cl clL act X cg W (.Name x p) y := by
  obtain ⟨h0, h⟩ := og h
  obtain ⟨d1, d2, d3⟩ := okN_ok h0
  have pe : PE X (.Name x p) (LE C cg W (evE cl clL act y)) := by
    cases q : visB (c.kd x) with
    | true =>
      rw [q] at h
      obtain ⟨i, hi, rfl⟩ := om h
      exact je_var (o.slot hi) (o.vis q) d1 d2
    | false =>
      rw [q] at h
      obtain ⟨g, h⟩ := og h
      obtain ⟨v, hv, rfl⟩ := om h
      obtain ⟨u, w, e1, e2, e3⟩ := o.gl.cons _ _ hv
      exact je_cst (pe_glob (o.glob g) e1 e2 d1) e3
  exact ⟨pe, jt_val pe fun _ => rfl, fun _ => rfl, fun _ => rfl, fun _ _ => rfl, fun _ _ _ => rfl⟩
def cCst : Const → Option Val
  | .none => some .non
  | .bool b => some (.bl b)
  | .int i => some (.int i)
  | .str s => some (.str s)
  | _ => none
theorem j_cst {q : Const} {kk : Nat} {p : Pos} {v : Val} (h : cCst q = some v) : J C cl clL act X cg W (.Constant q kk p) (.cst v) := by
  have pe : PE X (.Constant q kk p) (LE C cg W (evE cl clL act (.cst v))) := by
    cases q with
    | none => cases h; exact je_cst pe_non fun _ _ => rfl
    | bool b => cases h; exact je_cst pe_bl fun _ _ => rfl
    | int i => cases h; exact je_cst pe_int fun _ _ => rfl
    | str s => cases h; exact je_cst pe_str fun _ _ => rfl
    | _ => cases h
  exact ⟨pe, jt_val pe fun _ => rfl, fun _ => rfl, fun _ => rfl, fun _ _ => rfl, fun _ _ _ => rfl⟩
def bop : Operator → Option BOp
  | .Add => some .add
  | .Sub => some .sub
  | .Mult => some .mul
  | .FloorDiv => some .fdiv
  | .Mod => some .mod
  | .Pow => some .pow
  | _ => none
theorem bop_ok {o : Operator} {b : BOp} (h : bop o = some b) : opOf b = o := by
  cases o <;> first | (cases h; rfl) | cases h
def cop : CmpOp → COp
  | .Eq => .eq
  | .NotEq => .ne
  | .Lt => .lt
  | .LtE => .le
  | .Gt => .gt
  | .GtE => .ge
  | .Is => .is_
  | .IsNot => .isnot
  | .In => .in_
  | .NotIn => .notin
theorem cop_ok (o : CmpOp) : cmpOf (cop o) = o := by cases o <;> rfl
theorem j_bin (o : Okc C k cl L g act c X cg W) {a b : Expr} {x y : Ex} {op : Operator} {bo : BOp} {p : Pos} (h : bop op = some bo) (ja : J C cl clL act X cg W a x) (jb : J C cl clL act X cg W b y) : J C cl clL act X cg W (.BinOp a op b p) (.bin bo x y) := by
  have pe : PE X (.BinOp a op b p) (LE C cg W (evE cl clL act (.bin bo x y))) := by
    rw [← bop_ok h]
    exact je_bin o.hK bo ja.pe jb.pe
  exact ⟨pe, jt_val pe fun _ => rfl, fun _ => rfl, fun _ => rfl, fun _ _ => rfl, fun _ _ _ => rfl⟩
theorem j_neg {a : Expr} {x : Ex} {p : Pos} (ja : J C cl clL act X cg W a x) : J C cl clL act X cg W (.UnaryOp .USub a p) (.neg x) := by
  have pe : PE X (.UnaryOp .USub a p) (LE C cg W (evE cl clL act (.neg x))) := je_neg ja.pe
  exact ⟨pe, jt_val pe fun _ => rfl, fun _ => rfl, fun _ => rfl, fun _ _ => rfl, fun _ _ _ => rfl⟩
theorem j_not {a : Expr} {x : Ex} {p : Pos} (ja : J C cl clL act X cg W a x) : J C cl clL act X cg W (.UnaryOp .Not a p) (.not x) :=
  ⟨je_not ja.pe, jt_not ja.pt, fun _ => rfl, fun _ => rfl, fun _ _ => rfl, fun _ _ _ => rfl⟩
theorem j_ite {t a b : Expr} {z x y : Ex} {p : Pos} (jt : J C cl clL act X cg W t z) (ja : J C cl clL act X cg W a x) (jb : J C cl clL act X cg W b y) : J C cl clL act X cg W (.IfExp t a b p) (.ite z x y) :=
  ⟨je_ite jt.pt ja.pe jb.pe, jt_ite jt.pt ja.pt jb.pt, fun _ => rfl, fun _ => rfl, fun _ _ => rfl, fun _ _ _ => rfl⟩

/-- and, or -/
def cBool (f : Expr → Option Ex) (mk : Ex → Ex → Ex) : List Expr → Option Ex
  | [] => none
  | a :: r => match r with
    | [] => f a
    | _ :: _ => (f a).bind fun x => (cBool f mk r).bind fun y => some (mk x y)
theorem pe_one {op : PySem.BoolOp} {a : Expr} {t : TE} {p : Pos} (h : PE X a t) : PE X (.BoolOp op [a] p) t := ⟨fun pins s σ H Q I q => by
  show wpAny _ _ (boolOp p op [eval a X.env]) _ _ _
  exact h.run pins s σ H Q I q⟩
theorem j_and {f : Expr → Option Ex} (hf : ∀ e x, f e = some x → J C cl clL act X cg W e x) {p : Pos} : ∀ {es : List Expr} {y : Ex}, cBool f .and es = some y → PE X (.BoolOp .And es p) (LE C cg W (evE cl clL act y)) ∧ PW X (.BoolOp .And es p) (LT C cg W (evE cl clL act y))
  | [], _, h => by cases h
  | [a], y, h => ⟨pe_one (hf _ _ h).pe, pw_and1 (hf _ _ h).pt⟩
  | a :: b :: r, y, h => by
    obtain ⟨x, h1, h⟩ := ob h
    obtain ⟨z, h2, h⟩ := ob h
    cases h
    obtain ⟨r1, r2⟩ := j_and hf (p := p) h2
    exact ⟨je_and (hf _ _ h1).pe r1, jw_and (hf _ _ h1).pt r2⟩
theorem j_or {f : Expr → Option Ex} (hf : ∀ e x, f e = some x → J C cl clL act X cg W e x) {p : Pos} : ∀ {es : List Expr} {y : Ex}, cBool f .or es = some y → PE X (.BoolOp .Or es p) (LE C cg W (evE cl clL act y)) ∧ PW X (.BoolOp .Or es p) (LT C cg W (evE cl clL act y))
  | [], _, h => by cases h
  | [a], y, h => ⟨pe_one (hf _ _ h).pe, pw_or1 (hf _ _ h).pt⟩
  | a :: b :: r, y, h => by
    obtain ⟨x, h1, h⟩ := ob h
    obtain ⟨z, h2, h⟩ := ob h
    cases h
    obtain ⟨r1, r2⟩ := j_or hf (p := p) h2
    exact ⟨je_or (hf _ _ h1).pe r1, jw_or (hf _ _ h1).pt r2⟩

/-- comparisons -/
def cCmp (c : Ctx) (f : Expr → Option Ex) (a : Expr) (ops : List CmpOp) (bs : List Expr) : Option Ex :=
  if c.calm = true then (match ops, bs with
    | [o], [b] => if behindInMarks o b = false then (f a).bind fun x => (f b).bind fun y => some (.cmp (cop o) x y) else none
    | [o, q], [b, d] => if lastMarks [o, q] [b, d] = false then (f a).bind fun x => (f b).bind fun y => (f d).bind fun z => some (.chain (cop o) (cop q) x y z) else none
    | _, _ => none) else none
theorem room_u {k : Nat} {A : Around} (r : Room k A) : A.units + 65 < cLine := by have := r.un; omega
theorem j_cmp (o : Okc C k cl L g act c X cg W) {f : Expr → Option Ex} (hf : ∀ e x, f e = some x → J C cl clL act X cg W e x) {a : Expr} {ops : List CmpOp} {bs : List Expr} {p : Pos} {y : Ex} (h : cCmp c f a ops bs = some y) : J C cl clL act X cg W (.Compare a ops bs p) y := by
  obtain ⟨h0, h⟩ := og h
  have hu := room_u (o.calm h0).2
  split at h
  · rename_i op b _
    obtain ⟨hm, h⟩ := og h
    obtain ⟨x, h1, h⟩ := ob h
    obtain ⟨z, h2, h⟩ := ob h
    cases h
    have e : [op] = [cmpOf (cop op)] := by rw [cop_ok]
    have hm' : behindInMarks (cmpOf (cop op)) b = false := by rw [cop_ok]; exact hm
    rw [e]
    exact ⟨je_cmp o.hK hu (cop op) (hf _ _ h1).pe (hf _ _ h2).pe hm', jt_cmp o.hK hu (cop op) (hf _ _ h1).pe (hf _ _ h2).pe hm', fun _ => rfl, fun _ => rfl, fun _ _ => rfl, fun _ _ _ => rfl⟩
  · rename_i op q b d _
    obtain ⟨hm, h⟩ := og h
    obtain ⟨x, h1, h⟩ := ob h
    obtain ⟨z, h2, h⟩ := ob h
    obtain ⟨v, h3, h⟩ := ob h
    cases h
    have e : [op, q] = [cmpOf (cop op), cmpOf (cop q)] := by rw [cop_ok, cop_ok]
    have hm' : lastMarks [cmpOf (cop op), cmpOf (cop q)] [b, d] = false := by rw [cop_ok, cop_ok]; exact hm
    rw [e]
    exact ⟨je_chain o.hK hu (cop op) (cop q) (hf _ _ h1).pe (hf _ _ h2).pe (hf _ _ h3).pe hm', jt_chain o.hK hu (cop op) (cop q) (hf _ _ h1).pe (hf _ _ h2).pe (hf _ _ h3).pe hm', fun _ => rfl, fun _ => rfl, fun _ _ => rfl, fun _ _ _ => rfl⟩
  · cases h

/-- items -/
def allE (f : Expr → Option Ex) : List Expr → Option (List Ex)
  | [] => some []
  | a :: r => (f a).bind fun x => (allE f r).bind fun y => some (x :: y)
theorem allE_len {f : Expr → Option Ex} : ∀ {es : List Expr} {xs : List Ex}, allE f es = some xs → xs.length = es.length
  | [], _, h => by cases h; rfl
  | a :: r, _, h => by
    obtain ⟨x, h1, h⟩ := ob h
    obtain ⟨z, h2, h⟩ := ob h
    cases h
    simp [allE_len h2]
theorem evEs_len {ρ : PM.Env} : ∀ {xs : List Ex} {h : Heap} {vs : List Val} {h1 : Heap}, evEs cl clL act xs ρ h = .ok vs h1 → vs.length = xs.length
  | [], _, _, _, e => by cases e; rfl
  | x :: xs, h, vs, h1, e => by
    have e : (evE cl clL act x ρ h).bind (fun v h1 => (evEs cl clL act xs ρ h1).bind fun vs h2 => .ok (v :: vs) h2) = .ok vs h1 := e
    cases q : evE cl clL act x ρ h with
    | ok v h2 =>
      rw [q, Out.bind_ok] at e
      cases q2 : evEs cl clL act xs ρ h2 with
      | ok us h3 =>
        rw [q2, Out.bind_ok] at e
        cases e
        simp [evEs_len q2]
      | exc y h3 => rw [q2] at e; cases e
      | bad => rw [q2] at e; cases e
    | exc y h2 => rw [q] at e; cases e
    | bad => rw [q] at e; cases e
theorem j_all {f : Expr → Option Ex} (hf : ∀ e x, f e = some x → J C cl clL act X cg W e x) : ∀ {es : List Expr} {xs : List Ex}, allE f es = some xs → PA X es (LA C cg W (evEs cl clL act xs)) ∧ starEach es X.env = es.map (fun e => (false, eval e X.env))
  | [], _, h => by cases h; exact ⟨ja_nil, rfl⟩
  | a :: r, _, h => by
    obtain ⟨x, h1, h⟩ := ob h
    obtain ⟨z, h2, h⟩ := ob h
    cases h
    obtain ⟨r1, r2⟩ := j_all hf h2
    have s := (hf _ _ h1).st r
    exact ⟨ja_cons (hf _ _ h1).pe r1 s, by rw [s, r2]; rfl⟩
theorem j_tup {f : Expr → Option Ex} (hf : ∀ e x, f e = some x → J C cl clL act X cg W e x) {es : List Expr} {xs : List Ex} {kk : Nat} {p : Pos} (h : allE f es = some xs) (hl : es.length ≤ 1000) : J C cl clL act X cg W (.Tuple es kk p) (.tup xs) := by
  have pe : PE X (.Tuple es kk p) (LE C cg W (evE cl clL act (.tup xs))) := je_tup (j_all hf h).1 fun ρ h' vs h1 e => by rw [evEs_len e, allE_len h]; omega
  exact ⟨pe, jt_val pe fun _ => rfl, fun _ => rfl, fun _ => rfl, fun _ _ => rfl, fun _ _ _ => rfl⟩
theorem j_lst {f : Expr → Option Ex} (hf : ∀ e x, f e = some x → J C cl clL act X cg W e x) {es : List Expr} {xs : List Ex} {p : Pos} (h : allE f es = some xs) (hl : es.length ≤ 1000) : J C cl clL act X cg W (.List es p) (.lst xs) := by
  have pe : PE X (.List es p) (LE C cg W (evE cl clL act (.lst xs))) := je_lst (j_all hf h).1 fun ρ h' vs h1 e => by rw [evEs_len e, allE_len h]; omega
  exact ⟨pe, jt_val pe fun _ => rfl, fun _ => rfl, fun _ => rfl, fun _ _ => rfl, fun _ _ _ => rfl⟩

/-- o[i], o[i:j], o[::-1] -/
def cOpt (f : Expr → Option Ex) : Option Expr → Option Ex
  | none => some (.cst .non)
  | some e => (f e).bind fun x => if x.absent = false then some x else none
def cSub (f : Expr → Option Ex) (a i : Expr) : Option Ex := match i with
  | .Slice lo hi st _ => (match st with
    | none => (f a).bind fun x => (cOpt f lo).bind fun y => (cOpt f hi).bind fun z => some (.slice x y z)
    | some (.UnaryOp .USub (.Constant (.int 1) _ _) _) => (match lo, hi with
      | none, none => (f a).map .rev
      | _, _ => none)
    | _ => none)
  | i => (f a).bind fun x => (f i).bind fun y => some (.idx x y)
theorem jo {f : Expr → Option Ex} (hf : ∀ e x, f e = some x → J C cl clL act X cg W e x) {o : Option Expr} {y : Ex} (h : cOpt f o = some y) : PO X o (LPt C cg W (fun ρ h => partW y.absent h (evE cl clL act y ρ h))) := by
  cases o with
  | none => cases h; exact jo_none
  | some e =>
    obtain ⟨x, h1, h⟩ := ob h
    obtain ⟨h2, h⟩ := og h
    cases h
    rw [h2]
    exact jo_some (hf _ _ h1).pe
theorem j_sub (o : Okc C k cl L g act c X cg W) {f : Expr → Option Ex} (hf : ∀ e x, f e = some x → J C cl clL act X cg W e x) {a i : Expr} {p : Pos} {y : Ex} (h : cSub f a i = some y) : J C cl clL act X cg W (.Subscript a i p) y := by
  have pe : PE X (.Subscript a i p) (LE C cg W (evE cl clL act y)) := by
    unfold cSub at h
    split at h
    · rename_i lo hi st p2
      split at h
      · obtain ⟨x, h1, h⟩ := ob h
        obtain ⟨z, h2, h⟩ := ob h
        obtain ⟨v, h3, h⟩ := ob h
        cases h
        exact je_slice o.hK (hf _ _ h1).pe (jo hf h2) (jo hf h3)
      · split at h
        · obtain ⟨x, h1, rfl⟩ := om h
          exact je_rev o.hK (hf _ _ h1).pe
        · cases h
      · cases h
    · obtain ⟨x, h1, h⟩ := ob h
      obtain ⟨z, h2, h⟩ := ob h
      cases h
      exact je_idx o.hK (hf _ _ h1).pe (hf _ _ h2).pe (hf _ _ h2).px
  exact ⟨pe, jt_val pe fun _ => rfl, fun _ => rfl, fun _ => rfl, fun _ _ => rfl, fun _ _ _ => rfl⟩

/-- err.f in a suite -/
def cAtt (c : Ctx) (o : Expr) (f : Str) : Option Ex := match o with
  | .Name n _ => if c.calm = false ∧ okN n = true ∧ visB (c.kd n) = true ∧ (∃ p ∈ c.g.exs, p.2 = f) then (c.slot n).map fun i => .xfld i f else none
  | _ => none
theorem j_att (o : Okc C k cl L g act c X cg W) {e : Expr} {f : Str} {p : Pos} {y : Ex} (h : cAtt c e f = some y) : J C cl clL act X cg W (.Attribute e f p) y := by
  have pe : PE X (.Attribute e f p) (LE C cg W (evE cl clL act y)) := by
    unfold cAtt at h
    split at h
    · rename_i n np
      obtain ⟨⟨h1, h2, h3, h4⟩, h⟩ := og h
      obtain ⟨i, hi, rfl⟩ := om h
      exact o.xf h1 i n f np p (o.slot hi) (o.vis h3) (okN_ok h2).1 (okN_ok h2).2.1 h4
    · cases h
  exact ⟨pe, jt_val pe fun _ => rfl, fun _ => rfl, fun _ => rfl, fun _ _ => rfl, fun _ _ _ => rfl⟩
end
end PM

set_option Elab.async false
set_option linter.all false
set_option maxRecDepth 100000
set_option maxHeartbeats 2000000
/-! PMcm2: calls, what loops walk, targets, comprehensions; the whole of expressions. -/
namespace PM
open PySem PySem.Spec PyProof.Rows L2
section
variable {C : Cfg} {k : Nat} {cl : Nat → List Val → Heap → Out Val} {clL : Nat → (Heap → Out Val) → Heap → Out Val} {L : Prop} {g : Gb} {act : Heap → Out Val} {c : Ctx} {X : Cx} {cg : Caught} {W : WX}
/-! ### calls -/
def fnIx (x : Str) : List FnE → Nat → Option Nat
  | [], _ => none
  | d :: r, i => if d.name = x then some i else fnIx x r (i + 1)
theorem fnIx_ok {x : Str} : ∀ {l : List FnE} {i j : Nat}, fnIx x l i = some j → i ≤ j ∧ ∃ d, l[j - i]? = some d ∧ d.name = x
  | [], i, j, h => by cases h
  | y :: r, i, j, h => by
    unfold fnIx at h
    split at h
    · rename_i e
      cases h
      exact ⟨Nat.le_refl _, y, by simp, e⟩
    · obtain ⟨h1, d, h2, h3⟩ := fnIx_ok h
      refine ⟨by omega, d, ?_, h3⟩
      rw [show j - i = (j - (i + 1)) + 1 by omega, List.getElem?_cons_succ]
      exact h2
/-- keywords: names, values -/
def kwE (f : Expr → Option Ex) : List Keyword → Option (List Str × List Ex)
  | [] => some ([], [])
  | q :: r => match q.arg with
    | none => none
    | some n => (f q.value).bind fun x => (kwE f r).bind fun y => some (n :: y.1, x :: y.2)
theorem kwE_ok {f : Expr → Option Ex} (hf : ∀ e x, f e = some x → J C cl clL act X cg W e x) : ∀ {kws : List Keyword} {y : List Str × List Ex}, kwE f kws = some y →
    PK X kws (LA C cg W (evEs cl clL act y.2)) ∧ y.2.length = y.1.length ∧ ∀ pos, (backToKw pos (keywordEach kws X.env)).all (·.1.isSome) = true ∧ (backToKw pos (keywordEach kws X.env)).filterMap (·.1) = y.1 ∧ (backToKw pos (keywordEach kws X.env)).any (·.1.isNone) = false
  | [], y, h => by cases h; exact ⟨jk_nil, rfl, fun _ => ⟨rfl, rfl, rfl⟩⟩
  | ⟨nm, e, kp⟩ :: r, y, h => by
    unfold kwE at h
    cases nm with
    | none => cases h
    | some n =>
      obtain ⟨x, h1, h⟩ := ob h
      obtain ⟨z, h2, h⟩ := ob h
      cases h
      obtain ⟨p1, p2, p3⟩ := kwE_ok hf h2
      refine ⟨jk_cons (hf _ _ h1).pe p1, by simp [p2], fun pos => ?_⟩
      obtain ⟨q1, q2, q3⟩ := p3 pos
      have e0 : backToKw pos (keywordEach (⟨some n, e, kp⟩ :: r) X.env) = (some n, do let v ← eval e X.env; standAt pos; pure v) :: backToKw pos (keywordEach r X.env) := rfl
      rw [e0]
      refine ⟨?_, ?_, ?_⟩
      · rw [List.all_cons, q1]; rfl
      · rw [List.filterMap_cons]
        show n :: (backToKw pos (keywordEach r X.env)).filterMap (·.1) = _
        rw [q2]
      · rw [List.any_cons, q3]; rfl
theorem evEs_app {ρ : PM.Env} {α : Type} {kk : List Val → Heap → Out α} : ∀ {xs ys : List Ex} {h : Heap}, (evEs cl clL act (xs ++ ys) ρ h).bind kk = (evEs cl clL act xs ρ h).bind fun a h1 => (evEs cl clL act ys ρ h1).bind fun b h2 => kk (a ++ b) h2
  | [], ys, h => rfl
  | x :: xs, ys, h => by
    show ((evE cl clL act x ρ h).bind fun v h1 => (evEs cl clL act (xs ++ ys) ρ h1).bind fun vs h2 => .ok (v :: vs) h2).bind kk = ((evE cl clL act x ρ h).bind fun v h1 => (evEs cl clL act xs ρ h1).bind fun vs h2 => .ok (v :: vs) h2).bind _
    cases q : evE cl clL act x ρ h with
    | ok v h1 =>
      rw [Out.bind_ok, Out.bind_ok]
      have e1 : ∀ (o : Out (List Val)) (g : List Val → Heap → Out α), (o.bind fun vs h2 => .ok (v :: vs) h2).bind g = o.bind fun vs h2 => g (v :: vs) h2 := fun o g => by cases o <;> rfl
      rw [e1, e1, evEs_app]
      rfl
    | exc y h1 => rfl
    | bad => rfl
def permOf (ps : List Str) (m : Nat) (ks : List Str) : List Nat := (List.range ps.length).map fun j => if j < m then j else m + ((ix (ps.getD j Str.empty) ks 0).getD 0)
def b1Of (x : Str) : Option B1 :=
  if x = "len" then some .len else if x = "abs" then some .abs else if x = "int" then some .int else if x = "bool" then some .bool else if x = "tuple" then some .tuple else if x = "list" then some .list else
  if x = "all" then some .all else if x = "any" then some .any else if x = "sum" then some .sum else none
def b2Of (x : Str) : Option B2 := if x = "min" then some .min else if x = "max" then some .max else none
def tyOf (x : Str) : Option Ty := if x = "int" then some .int else if x = "bool" then some .bool else if x = "str" then some .str else if x = "tuple" then some .tuple else if x = "list" then some .list else if x = "dict" then some .dict else none
theorem boot1 : bootBuiltins "len" = some (.builtin "len") ∧ bootBuiltins "abs" = some (.builtin "abs") ∧ bootBuiltins "int" = some (.type "int") ∧ bootBuiltins "bool" = some (.type "bool") ∧ bootBuiltins "tuple" = some (.type "tuple") ∧ bootBuiltins "list" = some (.type "list") ∧
    bootBuiltins "all" = some (.builtin "all") ∧ bootBuiltins "any" = some (.builtin "any") ∧ bootBuiltins "sum" = some (.builtin "sum") ∧ bootBuiltins "min" = some (.builtin "min") ∧ bootBuiltins "max" = some (.builtin "max") ∧ bootBuiltins "str" = some (.type "str") ∧ bootBuiltins "dict" = some (.type "dict") := by
  decide +kernel
theorem b1Of_ok {x : Str} {o : B1} (h : b1Of x = some o) : ∃ f, b1Val o = some f ∧ bootBuiltins x = some f := by
  obtain ⟨h1, h2, h3, h4, h5, h6, h7, h8, h9, h10, h11, h12, h13⟩ := boot1
  unfold b1Of at h
  repeat (split at h; · (rename_i e; subst e; cases h; first | exact ⟨_, rfl, h1⟩ | exact ⟨_, rfl, h2⟩ | exact ⟨_, rfl, h3⟩ | exact ⟨_, rfl, h4⟩ | exact ⟨_, rfl, h5⟩ | exact ⟨_, rfl, h6⟩ | exact ⟨_, rfl, h7⟩ | exact ⟨_, rfl, h8⟩ | exact ⟨_, rfl, h9⟩))
  cases h
theorem b2Of_ok {x : Str} {o : B2} (h : b2Of x = some o) : bootBuiltins x = some (b2Val o) := by
  obtain ⟨h1, h2, h3, h4, h5, h6, h7, h8, h9, h10, h11, h12, h13⟩ := boot1
  unfold b2Of at h
  repeat (split at h; · (rename_i e; subst e; cases h; first | exact h10 | exact h11))
  cases h
theorem tyOf_ok {x : Str} {o : Ty} (h : tyOf x = some o) : ∃ n, tyName o = some n ∧ bootBuiltins x = some (.type n) := by
  obtain ⟨h1, h2, h3, h4, h5, h6, h7, h8, h9, h10, h11, h12, h13⟩ := boot1
  unfold tyOf at h
  repeat (split at h; · (rename_i e; subst e; cases h; first | exact ⟨_, rfl, h3⟩ | exact ⟨_, rfl, h4⟩ | exact ⟨_, rfl, h5⟩ | exact ⟨_, rfl, h6⟩ | exact ⟨_, rfl, h12⟩ | exact ⟨_, rfl, h13⟩))
  cases h
def cOwn (c : Ctx) (f : Expr → Option Ex) (i : Nat) (args : List Expr) (kws : List Keyword) : Option Ex := match c.g.fns[i]? with
  | none => none
  | some d => (allE f args).bind fun xs => (kwE f kws).bind fun y =>
    if (i, args.length, y.1, permOf d.ps args.length y.1) ∈ c.g.pats ∧ (permOf d.ps args.length y.1).length = d.ps.length then some (.call i (permOf d.ps args.length y.1) (xs ++ y.2)) else none
def cIsa (c : Ctx) (f : Expr → Option Ex) (a b : Expr) : Option Ex := match b with
  | .Name t _ => if okN t = true ∧ glB (c.kd t) = true ∧ t ∈ c.g.frees then (tyOf t).bind fun ty => (f a).bind fun y => some (.isa y ty) else none
  | _ => none
def cBlt (c : Ctx) (f : Expr → Option Ex) (x : Str) (args : List Expr) : Option Ex := if x ∈ c.g.frees then (match args with
    | [a] => (b1Of x).bind fun o => (f a).bind fun y => some (.b1 o y)
    | [a, b] => if x = "isinstance" then cIsa c f a b else (b2Of x).bind fun o => (f a).bind fun y => (f b).bind fun z => some (.b2 o y z)
    | _ => none) else none
def cCall (c : Ctx) (f : Expr → Option Ex) (fn : Expr) (args : List Expr) (kws : List Keyword) (pos : Pos) : Option Ex := if c.calm = true then (match fn with
  | .Name x _ => if okN x = true ∧ glB (c.kd x) = true then (match fnIx x c.g.fns 0 with
      | some i => cOwn c f i args kws
      | none => match kws with
        | [] => cBlt c f x args
        | _ => none) else none
  | .Attribute o m ap => (match args, kws with
    | [e], [] => if m = "append" ∧ (ap.endLine == pos.line) = true ∧ (match o with | .Name _ _ => true | _ => false) = true then (f o).bind fun x => (f e).bind fun y => some (.meth .append x [y]) else none
    | _, _ => none)
  | _ => none) else none
theorem star_any {es : List Expr} {env : PySem.Env} {pos : Pos} (h : starEach es env = es.map fun e => (false, eval e env)) : (backTo pos (starEach es env)).any (·.1) = false := by
  rw [h]
  unfold backTo
  rw [List.any_eq_false]
  intro p hp
  rw [List.map_map] at hp
  obtain ⟨e, _, rfl⟩ := List.mem_map.mp hp
  simp
theorem evE_append {x y : Ex} : evE cl clL act (.meth .append x [y]) = fun ρ h => trim h ((evE cl clL act x ρ h).bind fun v h1 => if (lst? h1 v).isSome = true then (evE cl clL act y ρ h1).bind fun w h2 => appV v w h2 else .bad) := by
  funext ρ h
  show trim h ((evE cl clL act x ρ h).bind fun v h1 => if recv .append v h1 then ((evE cl clL act y ρ h1).bind fun w h2 => .ok [w] h2).bind fun vs h2 => methV .append v vs h2 else .bad) = _
  congr 1
  cases evE cl clL act x ρ h with
  | ok v h1 =>
    simp only [Out.bind_ok]
    show (if (lst? h1 v).isSome = true then _ else _) = _
    congr 1
    cases evE cl clL act y ρ h1 <;> rfl
  | exc _ _ => rfl
  | bad => rfl
theorem j_isa (o : Okc C k cl L g act c X cg W) {f : Expr → Option Ex} (hf : ∀ e x, f e = some x → J C cl clL act X cg W e x) {a b : Expr} {xp p : Pos} {y : Ex} (hg : Gl X "isinstance") (hm : X.mg "isinstance" = none) (h : cIsa c f a b = some y) : PE X (.Call (.Name "isinstance" xp) [a, b] [] p) (LE C cg W (evE cl clL act y)) := by
  cases b with
  | Name t tp =>
    have h : (if okN t = true ∧ glB (c.kd t) = true ∧ t ∈ c.g.frees then (tyOf t).bind fun ty => (f a).bind fun y => some (.isa y ty) else none) = some y := h
    obtain ⟨⟨g1, g2, g3⟩, h⟩ := og h
    obtain ⟨ty, h4, h⟩ := ob h
    obtain ⟨z, h5, h⟩ := ob h
    cases h
    obtain ⟨n, f1, f2⟩ := tyOf_ok h4
    obtain ⟨w1, w2, w3⟩ := okN_ok g1
    refine je_isa o.hK f1 hg hm (hf _ _ h5).pe (pe_bltn (v := .ty n) (o.glob g2) (o.gl.free _ g3) f2 rfl w3 w1) ?_ rfl
    rw [(hf _ _ h5).st]
    rfl
  | _ => cases h
theorem j_blt (o : Okc C k cl L g act c X cg W) {f : Expr → Option Ex} (hf : ∀ e x, f e = some x → J C cl clL act X cg W e x) {x : Str} {args : List Expr} {xp p : Pos} {y : Ex} (hc : X.calm = true) (hg : Gl X x) (d1 : (x == ("__debug__" : Str)) = false) (d3 : x ≠ "__name__") (h : cBlt c f x args = some y) :
    PE X (.Call (.Name x xp) args [] p) (LE C cg W (evE cl clL act y)) := by
  unfold cBlt at h
  obtain ⟨h3, h⟩ := og h
  have hm := o.gl.free _ h3
  match args, h with
  | [a], h =>
    obtain ⟨q, h4, h⟩ := ob h
    obtain ⟨z, h5, h⟩ := ob h
    cases h
    obtain ⟨fv, f1, f2⟩ := b1Of_ok h4
    exact je_b1 o.hK hc f1 hg hm f2 (hf _ _ h5).pe d3 d1 ((hf _ _ h5).st [])
  | [a, b], h =>
    have h : (if x = "isinstance" then cIsa c f a b else (b2Of x).bind fun o => (f a).bind fun y => (f b).bind fun z => some (.b2 o y z)) = some y := h
    by_cases e : x = "isinstance"
    · rw [if_pos e] at h
      subst e
      exact j_isa o hf hg hm h
    · rw [if_neg e] at h
      obtain ⟨q, h4, h⟩ := ob h
      obtain ⟨z, h5, h⟩ := ob h
      obtain ⟨v, h6, h⟩ := ob h
      cases h
      have s2 := (hf _ _ h6).st []
      refine je_b2 hc hg hm (b2Of_ok h4) (hf _ _ h5).pe (hf _ _ h6).pe d3 d1 ?_ s2
      rw [(hf _ _ h5).st, s2]; rfl
  | [], h => cases h
  | _ :: _ :: _ :: _, h => cases h
theorem j_call (o : Okc C k cl L g act c X cg W) {f : Expr → Option Ex} (hf : ∀ e x, f e = some x → J C cl clL act X cg W e x) {fn : Expr} {args : List Expr} {kws : List Keyword} {p : Pos} {y : Ex} (h : cCall c f fn args kws p = some y) : J C cl clL act X cg W (.Call fn args kws p) y := by
  have pe : PE X (.Call fn args kws p) (LE C cg W (evE cl clL act y)) := by
    obtain ⟨h0, h⟩ := og h
    obtain ⟨hc, hr⟩ := o.calm h0
    split at h
    · rename_i x xp _
      obtain ⟨⟨h1, h2⟩, h⟩ := og h
      obtain ⟨d1, d2, d3⟩ := okN_ok h1
      split at h
      · rename_i i hi
        unfold cOwn at h
        obtain ⟨_, d', hd', hn⟩ := fnIx_ok hi
        rw [Nat.sub_zero] at hd'
        rw [hd'] at h
        obtain ⟨xs, h3, h⟩ := ob h
        obtain ⟨z, h4, h⟩ := ob h
        obtain ⟨⟨h5, h6⟩, h⟩ := og h
        cases h
        obtain ⟨fa, fd, e1, e2, F, kb⟩ := o.gl.fns i d' hd'
        obtain ⟨pa, sa⟩ := j_all hf h3
        obtain ⟨pk, ky, kq⟩ := kwE_ok hf h4
        obtain ⟨q1, q2, q3⟩ := kq p
        have main := je_call (pos := p) (p := xp) F hr o.tk (o.glob h2) (hn ▸ e1) e2 (kb _ _ _ h5) h6 pa pk (fun ρ h' vs h1 e => by rw [evEs_len e, allE_len h3]) (fun ρ h' vs h1 e => by rw [evEs_len e, ky]) q1 q2 d1
          (fun e ρ h' => by
            subst e
            cases h3; rfl) (fun e r er => by
            subst er
            rw [sa]
            obtain ⟨x1, g1, g2⟩ := ob h3
            obtain ⟨x2, g3, g4⟩ := ob g2
            rw [(j_all hf g3).2]; rfl) (by rw [star_any sa, q3]; rfl)
        have e : evE cl clL act (.call i (permOf d'.ps args.length z.1) (xs ++ z.2)) = callF (permOf d'.ps args.length z.1) (cl i) (evEs cl clL act xs) (evEs cl clL act z.2) := by
          funext ρ h'
          show trim h' ((evEs cl clL act (xs ++ z.2) ρ h').bind _) = trim h' _
          rw [evEs_app]
          try rfl
        rw [e]
        exact main
      · split at h
        · exact j_blt o hf hc (o.glob h2) d1 d3 h
        · cases h
    · rename_i ob' m ap _
      split at h
      · rename_i e
        obtain ⟨⟨g1, g2, g3⟩, h⟩ := og h
        obtain ⟨z, h5, h⟩ := ob h
        obtain ⟨v, h6, h⟩ := ob h
        cases h
        subst g1
        rw [evE_append]
        have s1 := (hf _ _ h6).st []
        refine je_append o.hK (hf _ _ h5).pe (hf _ _ h6).pe ?_ ?_ g2 s1
        · cases ob' with
          | Name _ _ => rfl
          | _ => cases g3
        · rw [s1]; rfl
      · cases h
    · cases h
  exact ⟨pe, jt_val pe fun _ => rfl, fun _ => rfl, fun _ => rfl, fun _ _ => rfl, fun _ _ _ => rfl⟩
end
end PM

set_option Elab.async false
set_option linter.all false
set_option maxRecDepth 100000
set_option maxHeartbeats 2000000
/-! PMcm3: what loops walk, targets, comprehensions; the whole of expressions. -/
namespace PM
open PySem PySem.Spec PyProof.Rows L2
section
variable {C : Cfg} {k : Nat} {cl : Nat → List Val → Heap → Out Val} {clL : Nat → (Heap → Out Val) → Heap → Out Val} {L : Prop} {g : Gb} {act : Heap → Out Val} {c : Ctx} {X : Cx} {cg : Caught} {W : WX}
/-! ### what is walked -/
def cRng (f : Expr → Option Ex) : List Expr → Option It
  | [a] => (f a).map .range1
  | [a, b] => (f a).bind fun x => (f b).bind fun y => some (.range2 x y)
  | _ => none
def cZip (f : Expr → Option Ex) (tg : Expr) : List Expr → Option It
  | [a, b] => (match tg with
    | .Tuple _ _ _ => (f a).bind fun x => (f b).bind fun y => some (.zip x y)
    | _ => none)
  | _ => none
def isG (c : Ctx) (x y : Str) : Bool := decide (x = y) && (glB (c.kd x) && decide (x ∈ c.g.frees))
theorem isG_ok (o : Okc C k cl L g act c X cg W) {x y : Str} (h : isG c x y = true) : x = y ∧ Gl X y ∧ X.mg y = none := by
  unfold isG at h
  obtain ⟨h1, h2⟩ := Bool.and_eq_true_iff.mp h
  obtain ⟨h2, h3⟩ := Bool.and_eq_true_iff.mp h2
  have e := of_decide_eq_true h1
  subst e
  exact ⟨rfl, o.glob h2, o.gl.free _ (of_decide_eq_true h3)⟩
def cIt (c : Ctx) (f : Expr → Option Ex) (tg it : Expr) : Option It := match it with
  | .Call (.Name x xp) args [] pos => (match isG c x "range" with
    | true => cRng f args
    | false => match isG c x "zip" with
      | true => cZip f tg args
      | false => (f (.Call (.Name x xp) args [] pos)).map .ex)
  | e => (f e).map .ex
structure JI (C : Cfg) (cl : Nat → List Val → Heap → Out Val) (clL : Nat → (Heap → Out Val) → Heap → Out Val) (act : Heap → Out Val) (X : Cx) (cg : Caught) (W : WX) (tg e : Expr) (x : It) : Prop where
  pi : PI X tg e (LI C cg W (evI cl clL act x))
  fs : ∀ v, foldedSetIterable e X.env v = pure v
theorem j_itE (o : Okc C k cl L g act c X cg W) {f : Expr → Option Ex} (hf : ∀ e x, f e = some x → J C cl clL act X cg W e x) {tg it : Expr} {y : It} (h : (f it).map It.ex = some y) : JI C cl clL act X cg W tg it y := by
  obtain ⟨x, h1, rfl⟩ := om h
  exact ⟨ji_ex o.hK (hf _ _ h1).pe, (hf _ _ h1).fs⟩
theorem j_it (o : Okc C k cl L g act c X cg W) {f : Expr → Option Ex} (hf : ∀ e x, f e = some x → J C cl clL act X cg W e x) {tg it : Expr} {y : It} (h : cIt c f tg it = some y) : JI C cl clL act X cg W tg it y := by
  unfold cIt at h
  split at h
  · rename_i x xp args pos
    split at h
    · rename_i e
      obtain ⟨e, hg, hm⟩ := isG_ok o e
      subst e
      match args, h with
      | [a], h =>
        obtain ⟨z, h1, rfl⟩ := om h
        exact ⟨ji_range1 hg hm (hf _ _ h1).pe ((hf _ _ h1).st []), fun _ => rfl⟩
      | [a, b], h =>
        obtain ⟨z, h1, h⟩ := ob h
        obtain ⟨v, h2, h⟩ := ob h
        cases h
        have s2 := (hf _ _ h2).st []
        exact ⟨ji_range2 hg hm (hf _ _ h1).pe (hf _ _ h2).pe (by rw [(hf _ _ h1).st, s2]; rfl) s2, fun _ => rfl⟩
      | [], h => cases h
      | _ :: _ :: _ :: _, h => cases h
    · split at h
      · rename_i e
        obtain ⟨e, hg, hm⟩ := isG_ok o e
        subst e
        match args, h with
        | [a, b], h =>
          cases tg with
          | Tuple es kk tp =>
            obtain ⟨z, h1, h⟩ := ob h
            obtain ⟨v, h2, h⟩ := ob h
            cases h
            have s2 := (hf _ _ h2).st []
            exact ⟨ji_zip o.hK hg hm (hf _ _ h1).pe (hf _ _ h2).pe (by rw [(hf _ _ h1).st, s2]; rfl) s2, fun _ => rfl⟩
          | _ => cases h
        | [], h => cases h
        | [_], h => cases h
        | _ :: _ :: _ :: _, h => cases h
      · exact j_itE o hf h
  · exact j_itE o hf h

/-! ### targets -/
def locB : Option NameKind → Bool
  | some .local => true
  | some .cell => true
  | _ => false
def ctB : Option NameKind → Bool
  | some .local => true
  | _ => false
def allT (f : Expr → Option Tg) : List Expr → Option (List Tg)
  | [] => some []
  | a :: r => (f a).bind fun x => (allT f r).bind fun y => some (x :: y)
def cTg : Nat → Ctx → (Expr → Option Ex) → List Nat → Expr → Option Tg
  | 0, _, _, _, _ => none
  | n + 1, c, f, S, e => match e with
    | .Name x _ => if locB (c.kd x) = true ∧ (c.fnB x = true ∨ ctB (c.kd x) = true) then (c.slot x).bind fun i => if i ∈ S then some (.name i) else none else none
    | .Tuple es _ _ => if c.calm = true then (allT (cTg n c f S) es).map .tup else none
    | .Subscript o i _ => (f o).bind fun x => (f i).bind fun y => some (.sub x y)
    | _ => none
theorem Okc.loc (o : Okc C k cl L g act c X cg W) {x : Str} (h : locB (c.kd x) = true) : L2.Loc X.env.scope x := by
  unfold L2.Loc
  rw [o.sc]
  unfold Ctx.kd at h
  cases q : c.sc.names.lookup x with
  | none => rw [q] at h; cases h
  | some kd => rw [q] at h; cases kd <;> first | exact .inl rfl | exact .inr rfl | cases h
theorem Okc.ct (o : Okc C k cl L g act c X cg W) {x : Str} (h : ctB (c.kd x) = true) : X.env.scope.names.lookup x = some .local := by
  rw [o.sc]
  unfold Ctx.kd at h
  cases q : c.sc.names.lookup x with
  | none => rw [q] at h; cases h
  | some kd => rw [q] at h; cases kd <;> first | rfl | cases h
theorem Okc.stores (o : Okc C k cl L g act c X cg W) {x : Str} (h : c.fnB x = true ∨ ctB (c.kd x) = true) : X.fn x = true ∨ X.env.scope.names.lookup x = some .local := by
  rcases h with h | h
  · left; rw [o.fn]; exact h
  · exact .inr (o.ct h)
mutual
theorem evT_noexc : ∀ (t : Tg) (v : Val) (ρ : PM.Env) (h : Heap) (x : Exn) (h1 : Heap), evT cl clL act t v ρ h ≠ .exc x h1
  | .name i, v, ρ, h, x, h1 => by
    show (if i < ρ.length then _ else _) ≠ _
    split <;> (intro z; cases z)
  | .tup ts, v, ρ, h, x, h1 => by
    cases v with
    | tup vs => exact evTs_noexc ts vs ρ h x h1
    | _ => intro z; cases z
  | .sub o i, v, ρ, h, x, h1 => by
    show (noX (evE cl clL act o ρ h)).bind _ ≠ _
    cases evE cl clL act o ρ h with
    | ok a h2 =>
      rw [noX_ok, Out.bind_ok]
      cases evE cl clL act i ρ h2 with
      | ok b h3 =>
        rw [noX_ok, Out.bind_ok]
        unfold setIx
        split
        · split
          · split <;> (intro z; cases z)
          · intro z; cases z
        · intro z; cases z
      | exc _ _ => intro z; cases z
      | bad => intro z; cases z
    | exc _ _ => intro z; cases z
    | bad => intro z; cases z
  | .fld o f, v, ρ, h, x, h1 => by
    show (noX (evE cl clL act o ρ h)).bind _ ≠ _
    cases evE cl clL act o ρ h with
    | ok a h2 =>
      rw [noX_ok, Out.bind_ok]
      split
      · split
        · split <;> (intro z; cases z)
        · intro z; cases z
      · intro z; cases z
    | exc _ _ => intro z; cases z
    | bad => intro z; cases z
theorem evTs_noexc : ∀ (ts : List Tg) (vs : List Val) (ρ : PM.Env) (h : Heap) (x : Exn) (h1 : Heap), evTs cl clL act ts vs ρ h ≠ .exc x h1
  | [], [], ρ, h, x, h1 => by intro z; cases z
  | [], _ :: _, ρ, h, x, h1 => by intro z; cases z
  | _ :: _, [], ρ, h, x, h1 => by intro z; cases z
  | t :: ts, v :: vs, ρ, h, x, h1 => by
    show (evT cl clL act t v ρ h).bind _ ≠ _
    cases q : evT cl clL act t v ρ h with
    | ok a h2 => rw [Out.bind_ok]; exact evTs_noexc ts vs a h2 x h1
    | exc y h2 => exact absurd q (evT_noexc t v ρ h y h2)
    | bad => intro z; cases z
end
theorem evTs_len : ∀ {ts : List Tg} {vs : List Val} {ρ : PM.Env} {h : Heap} {ρ1 : PM.Env} {h1 : Heap}, evTs cl clL act ts vs ρ h = .ok ρ1 h1 → vs.length = ts.length
  | [], [], _, _, _, _, _ => rfl
  | [], _ :: _, _, _, _, _, e => by cases e
  | _ :: _, [], _, _, _, _, e => by cases e
  | t :: ts, v :: vs, ρ, h, ρ1, h1, e => by
    have e : (evT cl clL act t v ρ h).bind (fun a h2 => evTs cl clL act ts vs a h2) = .ok ρ1 h1 := e
    cases q : evT cl clL act t v ρ h with
    | ok a h2 =>
      rw [q, Out.bind_ok] at e
      simp [evTs_len e]
    | exc y h2 => rw [q] at e; cases e
    | bad => rw [q] at e; cases e
theorem allT_len {f : Expr → Option Tg} : ∀ {es : List Expr} {xs : List Tg}, allT f es = some xs → xs.length = es.length
  | [], _, h => by cases h; rfl
  | a :: r, _, h => by
    obtain ⟨x, h1, h⟩ := ob h
    obtain ⟨z, h2, h⟩ := ob h
    cases h
    simp [allT_len h2]
structure JT (C : Cfg) (cl : Nat → List Val → Heap → Out Val) (clL : Nat → (Heap → Out Val) → Heap → Out Val) (act : Heap → Out Val) (X : Cx) (cg : Caught) (S : List Nat) (e : Expr) (t : Tg) : Prop where
  pg : PG X e (LG C cg S (evT cl clL act t))
  st : ∀ r, assignEach (e :: r) X.env = (false, assign e X.env) :: assignEach r X.env
theorem evTs_nil : (evTs cl clL act [] : List Val → PM.Env → Heap → Out PM.Env) = fun vs ρ h => match vs with | [] => .ok ρ h | _ => .bad := by
  funext vs ρ h
  cases vs <;> rfl
theorem evTs_cons {t : Tg} {ts : List Tg} : (evTs cl clL act (t :: ts) : List Val → PM.Env → Heap → Out PM.Env) = consT (evT cl clL act t) (evTs cl clL act ts) := by
  funext vs ρ h
  cases vs <;> rfl
theorem j_allT {S : List Nat} {f : Expr → Option Tg} (hf : ∀ e t, f e = some t → JT C cl clL act X cg S e t) : ∀ {es : List Expr} {ts : List Tg}, allT f es = some ts → PGs X es (LGs C cg S (evTs cl clL act ts)) ∧ assignEach es X.env = es.map fun e => (false, assign e X.env)
  | [], _, h => by cases h; rw [evTs_nil]; exact ⟨jgs_nil, rfl⟩
  | a :: r, _, h => by
    obtain ⟨x, h1, h⟩ := ob h
    obtain ⟨z, h2, h⟩ := ob h
    cases h
    obtain ⟨r1, r2⟩ := j_allT hf h2
    have s := (hf _ _ h1).st r
    rw [evTs_cons]
    exact ⟨jgs_cons (hf _ _ h1).pg r1 (by rw [s]; rfl), by rw [s, r2]; rfl⟩
theorem none_find {α : Type} : ∀ (es : List Expr) (f : Expr → α), (es.map fun e => (false, f e)).findIdx? (·.1) = none := by
  intro es f
  rw [List.findIdx?_eq_none_iff]
  intro p hp
  obtain ⟨e, _, rfl⟩ := List.mem_map.mp hp
  rfl
theorem j_tg (o : Okc C k cl L g act c X cg W) {f : Expr → Option Ex} (hf : ∀ e x, f e = some x → J C cl clL act X cg W e x) {S : List Nat} : ∀ (n : Nat) (e : Expr) (t : Tg), cTg n c f S e = some t → JT C cl clL act X cg S e t
  | 0, _, _, h => by cases h
  | n + 1, .Name x p, t, h => by
    obtain ⟨⟨h1, h2⟩, h⟩ := og h
    obtain ⟨i, hi, h⟩ := ob h
    obtain ⟨h3, h⟩ := og h
    cases h
    exact ⟨jg_name o.nd (o.slot hi) (o.loc h1) (o.stores h2) h3, fun _ => rfl⟩
  | n + 1, .Tuple es kk p, t, h => by
    obtain ⟨h0, h⟩ := og h
    obtain ⟨ts, h1, rfl⟩ := om h
    obtain ⟨p1, p2⟩ := j_allT (fun e t => j_tg o hf n e t) h1
    exact ⟨jg_tup (n := ts.length) o.hK (o.calm h0).1 p1 (by rw [p2, List.length_map, allT_len h1]) (by rw [p2]; exact none_find es _) (fun vs ρ h ρ1 h1 e => evTs_len e) fun vs ρ h x h1 => evTs_noexc _ _ _ _ _ _, fun _ => rfl⟩
  | n + 1, .Subscript a i p, t, h => by
    obtain ⟨x, h1, h⟩ := ob h
    obtain ⟨y, h2, h⟩ := ob h
    cases h
    refine ⟨jg_sub (hf _ _ h1).pe (hf _ _ h2).pe fun v => ?_, fun _ => rfl⟩
    have ns := (hf _ _ h2).ns
    cases i with
    | Slice lo hi st sp =>
      cases st with
      | none =>
        have z := ns .none (.bool true) .none
        cases z
      | some _ => rfl
    | _ => rfl

/-! ### comprehensions -/
def relS (scope sc : Scope) : Scope := { scope with names := scope.names.map fun (n, k) => if (k == .free && sc.kind == .function && sc.names.lookup n == some .cell) then (n, .cell) else (n, k) }
def blkCtx (c : Ctx) (scope : Scope) : Ctx := { c with sc := relS scope c.sc, fnB := fun x => scope.names.lookup x == some .cell, top := false, actN := none }
theorem Okc.blk (o : Okc C k cl L g act c X cg W) {scope : Scope} (hk : scope.kind = .function) (hc : c.calm = true) (s : Shared) (H : Hp) (Cd : Addr) (l : List (Str × Addr)) (fp : List Addr) :
    Okc C k cl L g act (blkCtx c scope) (X.blk s H scope (compEnvC scope l Cd X.env) fp) cg (fun _ _ _ _ => False) where
  gl := o.gl
  hK := o.hK
  N := o.N
  sc := by
    show relabel scope X.env = relS scope c.sc
    unfold relabel relS Env.kindOf
    rw [o.sc]
  kind := hk
  fn := rfl
  nd := o.nd
  calm := o.calm
  top := fun h => by cases h
  hp := PassesOwn.never
  tk := LamX.takes0
  xf := fun h => by rw [show (blkCtx c scope).calm = c.calm from rfl, hc] at h; cases h
  gg := o.gg
  lamL := o.lamL
  lm := o.lm
  ac := fun _ h => by cases h
def ownOf (N : List Str) (scope : Scope) : List (Str × Nat) := scope.names.filterMap fun (n, k) => match k with
  | .local => (ix n N 0).map fun i => (n, i)
  | .cell => (ix n N 0).map fun i => (n, i)
  | _ => none
def cIfs (f : Expr → Option Ex) : List Expr → Option Ex
  | [] => some (.cst (.bl true))
  | [i] => f i
  | _ => none
structure Parts where
  it : It
  t : Tg
  cond : Ex
  elt : Ex
def cParts (n : Nat) (c : Ctx) (f : Expr → Option Ex) (f' : Expr → Option Ex) (elt : Expr) (tg iter : Expr) (ifs : List Expr) (scope : Scope) : Option Parts :=
  if c.calm = true ∧ (match scope.kind with | .function => true | _ => false) = true ∧ blkC c.N c.sc scope (ownOf c.N scope) = true then
    (cIt c f tg iter).bind fun it => (cTg n (blkCtx c scope) f' ((ownOf c.N scope).map (·.2)) tg).bind fun t => (cIfs f' ifs).bind fun cond => (f' elt).bind fun e => some ⟨it, t, cond, e⟩
  else none
def cComp (n : Nat) (c : Ctx) (f f' : Expr → Option Ex) (elt : Expr) (gens : List Comprehension) (scope : Scope) : Option Ex := match gens with
  | [⟨tg, iter, ifs, a⟩] => if a = 0 then (cParts n c f f' elt tg iter ifs scope).map fun q => .comp ((ownOf c.N scope).map (·.2)) q.t q.it q.cond q.elt else none
  | _ => none
/-- what the rules of a comprehension ask -/
structure JC (C : Cfg) (cl : Nat → List Val → Heap → Out Val) (clL : Nat → (Heap → Out Val) → Heap → Out Val) (act : Heap → Out Val) (c : Ctx) (X : Cx) (cg : Caught) (W : WX) (elt tg iter : Expr) (ifs : List Expr) (scope : Scope) (q : Parts) : Prop where
  hc : X.calm = true
  hi : JI C cl clL act X cg W tg iter q.it
  ok : BlkOk X.N X.env.scope scope (ownOf c.N scope)
  hg : ∀ (s : Shared) (H : Hp) (Cd : Addr) (l : List (Str × Addr)) (fp : List Addr), PG (X.blk s H scope (compEnvC scope l Cd X.env) fp) tg (LG C cg ((ownOf c.N scope).map (·.2)) (evT cl clL act q.t))
  ht : ∀ (s : Shared) (H : Hp) (Cd : Addr) (l : List (Str × Addr)) (fp : List Addr), PTs (X.blk s H scope (compEnvC scope l Cd X.env) fp) ifs (LT C cg (fun _ _ _ _ => False) (evE cl clL act q.cond))
  he : ∀ (s : Shared) (H : Hp) (Cd : Addr) (l : List (Str × Addr)) (fp : List Addr), PE (X.blk s H scope (compEnvC scope l Cd X.env) fp) elt (LE C cg (fun _ _ _ _ => False) (evE cl clL act q.elt))
theorem _root_.L2.PTs.weak {X : Cx} {e : List Expr} {t t' : TT} (h : PTs X e t) (w : ∀ σ H Q, t' σ H Q → t σ H Q) : PTs X e t' := ⟨fun pins s σ H Q I q => h.run pins s σ H Q I (w σ H Q q)⟩
theorem j_parts (o : Okc C k cl L g act c X cg W) {n : Nat} {f f' : Expr → Option Ex} (hf : ∀ e x, f e = some x → J C cl clL act X cg W e x) {elt tg iter : Expr} {ifs : List Expr} {scope : Scope}
    (hf' : ∀ (X' : Cx), Okc C k cl L g act (blkCtx c scope) X' cg (fun _ _ _ _ => False) → ∀ e x, f' e = some x → J C cl clL act X' cg (fun _ _ _ _ => False) e x) {q : Parts} (h : cParts n c f f' elt tg iter ifs scope = some q) : JC C cl clL act c X cg W elt tg iter ifs scope q := by
  obtain ⟨⟨h0, h1, h2⟩, h⟩ := og h
  obtain ⟨it, h3, h⟩ := ob h
  obtain ⟨t, h4, h⟩ := ob h
  obtain ⟨cd, h5, h⟩ := ob h
  obtain ⟨e, h6, h⟩ := ob h
  cases h
  have hk : scope.kind = .function := by
    split at h1
    · assumption
    · cases h1
  have ob' := fun s H Cd l fp => o.blk (cg := cg) hk h0 s H Cd l fp
  refine ⟨(o.calm h0).1, j_it o hf h3, ?_, fun s H Cd l fp => (j_tg (ob' s H Cd l fp) (hf' _ (ob' s H Cd l fp)) n tg t h4).pg, fun s H Cd l fp => ?_, fun s H Cd l fp => (hf' _ (ob' s H Cd l fp) _ _ h6).pe⟩
  · rw [o.N, o.sc]; exact blkOk_by h2
  · match ifs, h5 with
    | [], h5 =>
      cases h5
      exact pts_nil.weak fun σ H Q ⟨θ, ρ, h, re, rl, g⟩ => GO.ok rl (show GO C H θ (.ok true h) _ _ from g)
    | [i], h5 => exact pts_one (hf' _ (ob' s H Cd l fp) _ _ h5).pt
    | _ :: _ :: _, h5 => cases h5
theorem j_comp (o : Okc C k cl L g act c X cg W) {n : Nat} {f f' : Expr → Option Ex} (hf : ∀ e x, f e = some x → J C cl clL act X cg W e x) {elt : Expr} {gens : List Comprehension} {scope : Scope} {p : Pos}
    (hf' : ∀ (X' : Cx), Okc C k cl L g act (blkCtx c scope) X' cg (fun _ _ _ _ => False) → ∀ e x, f' e = some x → J C cl clL act X' cg (fun _ _ _ _ => False) e x) {y : Ex} (h : cComp n c f f' elt gens scope = some y) : J C cl clL act X cg W (.ListComp elt gens scope p) y := by
  have pe : PE X (.ListComp elt gens scope p) (LE C cg W (evE cl clL act y)) := by
    unfold cComp at h
    split at h
    · obtain ⟨e, h⟩ := og h
      subst e
      obtain ⟨q, h1, rfl⟩ := om h
      have jc := j_parts o hf hf' h1
      exact je_comp o.hK jc.hc o.nd jc.hi.pi jc.ok jc.hg jc.ht jc.he jc.hi.fs
    · cases h
  exact ⟨pe, jt_val pe fun _ => rfl, fun _ => rfl, fun _ => rfl, fun _ _ => rfl, fun _ _ _ => rfl⟩

/-! ### lambdas without parameters, handed to a def -/
def lamCtx (c : Ctx) (scope : Scope) : Ctx := { c with sc := scope, fnB := fun _ => false, top := false, lam := false, actN := none }
theorem Okc.lamc (o : Okc C k cl L g act c X cg W) {scope : Scope} (hk : scope.kind = .function) (hc : c.calm = true) (A : Around) (outer : List PySem.Env) (s : Shared) (H : Hp) (E : XK) (f c' : Addr) (hr : Room k (A.deeper (LamX.lamEnv X scope s.heap.objs.size f c'))) :
    Okc C k cl L g act (lamCtx c scope) (LamX.lamCx X A outer s H E scope f c') cg (fun cls d _ H => E cls d H) where
  gl := o.gl
  hK := o.hK
  N := o.N
  sc := rfl
  kind := hk
  fn := rfl
  nd := o.nd
  calm := fun _ => ⟨rfl, hr⟩
  top := fun h => by cases h
  hp := passes_of rfl
  tk := takes_of rfl rfl rfl rfl
  xf := fun h => by rw [show (lamCtx c scope).calm = c.calm from rfl, hc] at h; cases h
  gg := o.gg
  lamL := fun h => by cases h
  lm := fun h => by cases h
  ac := fun _ h => by cases h
def noPar : Arguments → Bool
  | ⟨[], [], none, [], [], none, []⟩ => true
  | _ => false
def cLam (c : Ctx) (fn : Expr) (kws : List Keyword) (params : Arguments) (scope : Scope) (bx : Option Ex) : Option Ex := match fn, kws with
  | .Name x _, [] => if c.lam = true ∧ c.calm = true ∧ okN x = true ∧ glB (c.kd x) = true ∧ LamX.lamSB c.sc scope = true ∧ noPar params = true then (fnIx x c.g.fns 0).bind fun i => if i ∈ c.g.lams then bx.map (.lam i) else none else none
  | _, _ => none
/-- the rule -/
def LamRule (C : Cfg) (k : Nat) (cl : Nat → List Val → Heap → Out Val) (clL : Nat → (Heap → Out Val) → Heap → Out Val) (L : Prop) (g : Gb) (act : Heap → Out Val) : Prop := ∀ (c : Ctx) (X : Cx) (cg : Caught) (W : WX), Okc C k cl L g act c X cg W → c.lam = true → c.calm = true →
  ∀ (x : Str) (p lpos pos : Pos) (i : Nat) (d : FnE) (params : Arguments) (body : Expr) (scope : Scope) (bx : Ex), c.g.fns[i]? = some d → d.name = x → i ∈ c.g.lams → Gl X x → (x == ("__debug__" : Str)) = false → LamX.LamS X.env.scope scope → noPar params = true →
    (∀ (A : Around) (outer : List PySem.Env) (s : Shared) (H : Hp) (E : XK) (f c' : Addr), Room k (A.deeper (LamX.lamEnv X scope s.heap.objs.size f c')) → PE (LamX.lamCx X A outer s H E scope f c') body (LE C cg (fun cls d _ H => E cls d H) (evE cl clL act bx))) →
    PE X (.Call (.Name x p) [.Lambda params body scope lpos] [] pos) (LE C cg W (evE cl clL act (.lam i bx)))
theorem j_lam (hl : L → LamRule C k cl clL L g act) (o : Okc C k cl L g act c X cg W) {fn : Expr} {kws : List Keyword} {params : Arguments} {scope : Scope} {body : Expr} {bx : Option Ex} {lpos p : Pos} {y : Ex} (h : cLam c fn kws params scope bx = some y)
    (hb : ∀ x, bx = some x → ∀ (X' : Cx) (W' : WX), Okc C k cl L g act (lamCtx c scope) X' cg W' → J C cl clL act X' cg W' body x) : J C cl clL act X cg W (.Call fn [.Lambda params body scope lpos] kws p) y := by
  have pe : PE X (.Call fn [.Lambda params body scope lpos] kws p) (LE C cg W (evE cl clL act y)) := by
    unfold cLam at h
    split at h
    · obtain ⟨⟨h1, h2, h3, h4, h5, h6⟩, h⟩ := og h
      obtain ⟨i, hi, h⟩ := ob h
      obtain ⟨h7, h⟩ := og h
      obtain ⟨x, hx, rfl⟩ := om h
      obtain ⟨_, d, hd, hn⟩ := fnIx_ok hi
      rw [Nat.sub_zero] at hd
      have LS := LamX.lamS_by h5
      rw [← o.sc] at LS
      exact hl (o.lamL h1) c X cg W o h1 h2 _ _ _ _ i d params body scope x hd hn h7 (o.glob h4) (okN_ok h3).1 LS h6 fun A outer s H E f c' hr => (hb x hx _ _ (o.lamc LS.kind h2 A outer s H E f c' hr)).pe
    · cases h
  exact ⟨pe, jt_val pe fun _ => rfl, fun _ => rfl, fun _ => rfl, fun _ _ => rfl, fun _ _ _ => rfl⟩
/-- the action called -/
def isAct (c : Ctx) (fn : Expr) (args : List Expr) (kws : List Keyword) : Bool := match fn, args, kws with
  | .Name x _, [], [] => decide (c.actN = some x)
  | _, _, _ => false
theorem j_act (o : Okc C k cl L g act c X cg W) {fn : Expr} {args : List Expr} {kws : List Keyword} {p : Pos} (h : isAct c fn args kws = true) : J C cl clL act X cg W (.Call fn args kws p) .act := by
  have pe : PE X (.Call fn args kws p) (LE C cg W (evE cl clL act .act)) := by
    unfold isAct at h
    split at h
    · exact o.ac _ (of_decide_eq_true h) X.pn X.xe W o.tk _ _
    · cases h
  exact ⟨pe, jt_val pe fun _ => rfl, fun _ => rfl, fun _ => rfl, fun _ _ => rfl, fun _ _ _ => rfl⟩

def cAny (c : Ctx) (f : Expr → Option Ex) (fl : Scope → Expr → Option Ex) (fn : Expr) (args : List Expr) (kws : List Keyword) (pos : Pos) : Option Ex := match args with
  | [.Lambda params body scope _] => cLam c fn kws params scope (fl scope body)
  | args => if isAct c fn args kws = true then some .act else cCall c f fn args kws pos
theorem j_any (hl : L → LamRule C k cl clL L g act) (o : Okc C k cl L g act c X cg W) {f : Expr → Option Ex} {fl : Scope → Expr → Option Ex} (hf : ∀ e x, f e = some x → J C cl clL act X cg W e x) (hfl : ∀ scope body x, fl scope body = some x → ∀ (X' : Cx) (W' : WX), Okc C k cl L g act (lamCtx c scope) X' cg W' → J C cl clL act X' cg W' body x)
    {fn : Expr} {args : List Expr} {kws : List Keyword} {pos : Pos} {y : Ex} (h : cAny c f fl fn args kws pos = some y) : J C cl clL act X cg W (.Call fn args kws pos) y := by
  unfold cAny at h
  split at h
  · exact j_lam hl o h fun x hx => hfl _ _ _ hx
  · split at h
    · rename_i e
      cases h
      exact j_act o e
    · exact j_call o hf h

theorem j_dict0 (o : Okc C k cl L g act c X cg W) {p : Pos} : J C cl clL act X cg W (.Dict [] [] p) (.dict [] []) := by
  have pe : PE X (.Dict [] [] p) (LE C cg W (evE cl clL act (.dict [] []))) := pe_dnewK.weak fun σ H Q ⟨θ, ρ, h, re, rl, g⟩ => by
    have g : GO C H θ (.ok (.ref h.length) (h ++ [.dct []])) (VR C Q) (fun cls d H' => W cls d σ H') := g
    intro p n
    refine g _ (θ ++ [p]) (After.grow n) (rl.push n ⟨rfl, upd_same⟩) _ ⟨p, rfl, ?_⟩
    rw [← rl.len]; simp
  exact ⟨pe, jt_val pe fun _ => rfl, fun _ => rfl, fun _ => rfl, fun _ _ => rfl, fun _ _ _ => rfl⟩
/-! ### the whole -/
def cE : Nat → Ctx → Expr → Option Ex
  | 0, _, _ => none
  | n + 1, c, e => match e with
    | .Name x _ => cName c x
    | .Constant q _ _ => (cCst q).map .cst
    | .BinOp a o b _ => (bop o).bind fun o => (cE n c a).bind fun x => (cE n c b).bind fun y => some (.bin o x y)
    | .UnaryOp o a _ => (match o with
      | .USub => (cE n c a).map .neg
      | .Not => (cE n c a).map .not
      | _ => none)
    | .BoolOp o es _ => (match o with
      | .And => cBool (cE n c) .and es
      | .Or => cBool (cE n c) .or es)
    | .Compare a ops bs _ => cCmp c (cE n c) a ops bs
    | .IfExp t a b _ => (cE n c t).bind fun z => (cE n c a).bind fun x => (cE n c b).bind fun y => some (.ite z x y)
    | .Tuple es _ _ => if es.length ≤ 1000 then (allE (cE n c) es).map .tup else none
    | .List es _ => if es.length ≤ 1000 then (allE (cE n c) es).map .lst else none
    | .Subscript a i _ => cSub (cE n c) a i
    | .Attribute o f _ => cAtt c o f
    | .Dict ks vs _ => (match ks, vs with
      | [], [] => some (.dict [] [])
      | _, _ => none)
    | .ListComp elt gens scope _ => cComp n c (cE n c) (cE n (blkCtx c scope)) elt gens scope
    | .Call fn args kws pos => cAny c (cE n c) (fun scope body => cE n (lamCtx c scope) body) fn args kws pos
    | _ => none
theorem j_all' (hl : L → LamRule C k cl clL L g act) : ∀ (n : Nat) {c : Ctx} {X : Cx} {cg : Caught} {W : WX}, Okc C k cl L g act c X cg W → ∀ (e : Expr) (y : Ex), cE n c e = some y → J C cl clL act X cg W e y
  | 0, _, _, _, _, _, _, _, h => by cases h
  | n + 1, c, X, cg, W, o, .Name x p, y, h => j_name o h
  | n + 1, c, X, cg, W, o, .Constant q kk p, y, h => by
    obtain ⟨v, h1, rfl⟩ := om h
    exact j_cst h1
  | n + 1, c, X, cg, W, o, .BinOp a op b p, y, h => by
    obtain ⟨bo, h1, h⟩ := ob h
    obtain ⟨x, h2, h⟩ := ob h
    obtain ⟨z, h3, h⟩ := ob h
    cases h
    exact j_bin o h1 (j_all' hl n o _ _ h2) (j_all' hl n o _ _ h3)
  | n + 1, c, X, cg, W, o, .UnaryOp op a p, y, h => by
    cases op with
    | USub => obtain ⟨x, h1, rfl⟩ := om h; exact j_neg (j_all' hl n o _ _ h1)
    | Not => obtain ⟨x, h1, rfl⟩ := om h; exact j_not (j_all' hl n o _ _ h1)
    | _ => cases h
  | n + 1, c, X, cg, W, o, .BoolOp op es p, y, h => by
    cases op with
    | And => obtain ⟨r1, r2⟩ := j_and (fun e x => j_all' hl n o e x) (p := p) h; exact ⟨r1, r2.pt, fun _ => rfl, fun _ => rfl, fun _ _ => rfl, fun _ _ _ => rfl⟩
    | Or => obtain ⟨r1, r2⟩ := j_or (fun e x => j_all' hl n o e x) (p := p) h; exact ⟨r1, r2.pt, fun _ => rfl, fun _ => rfl, fun _ _ => rfl, fun _ _ _ => rfl⟩
  | n + 1, c, X, cg, W, o, .Compare a ops bs p, y, h => j_cmp o (fun e x => j_all' hl n o e x) h
  | n + 1, c, X, cg, W, o, .IfExp t a b p, y, h => by
    obtain ⟨z, h1, h⟩ := ob h
    obtain ⟨x, h2, h⟩ := ob h
    obtain ⟨v, h3, h⟩ := ob h
    cases h
    exact j_ite (j_all' hl n o _ _ h1) (j_all' hl n o _ _ h2) (j_all' hl n o _ _ h3)
  | n + 1, c, X, cg, W, o, .Tuple es kk p, y, h => by
    obtain ⟨h0, h⟩ := og h
    obtain ⟨xs, h1, rfl⟩ := om h
    exact j_tup (fun e x => j_all' hl n o e x) h1 h0
  | n + 1, c, X, cg, W, o, .List es p, y, h => by
    obtain ⟨h0, h⟩ := og h
    obtain ⟨xs, h1, rfl⟩ := om h
    exact j_lst (fun e x => j_all' hl n o e x) h1 h0
  | n + 1, c, X, cg, W, o, .Subscript a i p, y, h => j_sub o (fun e x => j_all' hl n o e x) h
  | n + 1, c, X, cg, W, o, .Attribute a f p, y, h => j_att o h
  | n + 1, c, X, cg, W, o, .ListComp elt gens scope p, y, h => j_comp o (fun e x => j_all' hl n o e x) (fun X' o' e x => j_all' hl n o' e x) h
  | n + 1, c, X, cg, W, o, .Call fn args kws pos, y, h => j_any hl o (fun e x => j_all' hl n o e x) (fun scope body x hx X' W' o' => j_all' hl n o' _ _ hx) h
  | n + 1, c, X, cg, W, o, .NamedExpr _ _ _, y, h => by cases h
  | n + 1, c, X, cg, W, o, .Lambda _ _ _ _, y, h => by cases h
  | n + 1, c, X, cg, W, o, .Dict ks vs p, y, h => by
    match ks, vs, h with
    | [], [], h => cases h; exact j_dict0 o
    | [], _ :: _, h => cases h
    | _ :: _, [], h => cases h
    | _ :: _, _ :: _, h => cases h
  | n + 1, c, X, cg, W, o, .Set _ _ _, y, h => by cases h
  | n + 1, c, X, cg, W, o, .SetComp _ _ _ _, y, h => by cases h
  | n + 1, c, X, cg, W, o, .DictComp _ _ _ _ _, y, h => by cases h
  | n + 1, c, X, cg, W, o, .GeneratorExp _ _ _ _, y, h => by cases h
  | n + 1, c, X, cg, W, o, .Await _ _, y, h => by cases h
  | n + 1, c, X, cg, W, o, .Yield _ _, y, h => by cases h
  | n + 1, c, X, cg, W, o, .YieldFrom _ _, y, h => by cases h
  | n + 1, c, X, cg, W, o, .FormattedValue _ _ _ _, y, h => by cases h
  | n + 1, c, X, cg, W, o, .JoinedStr _ _, y, h => by cases h
  | n + 1, c, X, cg, W, o, .Starred _ _, y, h => by cases h
  | n + 1, c, X, cg, W, o, .Slice _ _ _ _, y, h => by cases h
end
end PM

set_option Elab.async false
set_option linter.all false
set_option maxRecDepth 100000
set_option maxHeartbeats 2000000
/-! PMcm4: from the program's form to the evaluator's text: statements. -/
namespace PM
open PySem PySem.Spec PyProof.Rows L2
section
variable {C : Cfg} {k : Nat} {cl : Nat → List Val → Heap → Out Val} {clL : Nat → (Heap → Out Val) → Heap → Out Val} {L : Prop} {g : Gb} {act : Heap → Out Val} {c : Ctx} {X : Cx} {cg : Caught} {W : WX}
theorem Okc.bk (o : Okc C k cl L g act c X cg W) : X.env.blockKind = .function := by
  unfold Env.blockKind
  rw [o.sc, o.kind]
  rfl
/-- a comprehension bound on its own line -/
def swL (c : Ctx) (y : Str) (py lpos : Pos) (scope : Scope) : Bool := (c.kd y == some .local) && py.line == lpos.line && !(scope.names.any fun (n, k) => n == y && (k == .local || k == .cell))
theorem swL_ok (o : Okc C k cl L g act c X cg W) {y : Str} {py lpos : Pos} {scope : Scope} {elt : Expr} {gens : List Comprehension} {l : Nat} : swapsWith (.ListComp elt gens scope lpos) (some (.Name y py)) l X.env = pure (swL c y py lpos scope) := by
  have e : X.env.kindOf y = c.kd y := by
    show X.env.scope.names.lookup y = c.sc.names.lookup y
    rw [o.sc]
  unfold swapsWith swL
  simp only [o.bk, e]
  rfl
/-- no comprehension, or its target is no name -/
def notC : Expr → Bool
  | .ListComp _ _ _ _ => false
  | .SetComp _ _ _ _ => false
  | .DictComp _ _ _ _ _ => false
  | _ => true
theorem sw_not {v : Expr} {t : Option Expr} {l : Nat} {env : PySem.Env} (h : notC v = true) : swapsWith v t l env = pure false := by
  cases v <;> first | rfl | cases h
def isName : Expr → Bool
  | .Name _ _ => true
  | _ => false
theorem sw_tgt {v t : Expr} {l : Nat} {env : PySem.Env} (h : isName t = false) : swapsWith v (some t) l env = pure false := by
  cases v <;> first | rfl | (cases t <;> first | rfl | cases h)
/-- stores from the right -/
def swM (c : Ctx) (ts vs : List Expr) : Option (Option (List Str)) :=
  if (!(ts.length == 2 || ts.length == 3) || vs.length != ts.length) = true then some none
  else if (vs.any fun | .Starred .. => true | _ => false) = true then some none
  else if ((ts.filterMap fun
      | .Name id pos => if c.kd id == some .local && pos.line == (ts.head?.map (·.pos.line)).getD 0 then some id else none
      | _ => none).length != ts.length || (ts.filterMap fun
      | .Name id pos => if c.kd id == some .local && pos.line == (ts.head?.map (·.pos.line)).getD 0 then some id else none
      | _ => none).eraseDups.length != (ts.filterMap fun
      | .Name id pos => if c.kd id == some .local && pos.line == (ts.head?.map (·.pos.line)).getD 0 then some id else none
      | _ => none).length) = true then some none
  else if (vs.all (foldedForSure 8)) = true then some none
  else if (vs.all (constantsAlone 8)) = true then none
  else some (some (ts.filterMap fun
      | .Name id pos => if c.kd id == some .local && pos.line == (ts.head?.map (·.pos.line)).getD 0 then some id else none
      | _ => none))
theorem swM_ok (o : Okc C k cl L g act c X cg W) {ts vs : List Expr} {r : Option (List Str)} {k1 k2 : Nat} {p1 p2 : Pos} (h : swM c ts vs = some r) : swappedStores [.Tuple ts k1 p1] (.Tuple vs k2 p2) X.env = pure r := by
  have e : X.env.kindOf = c.kd := by
    funext y
    show X.env.scope.names.lookup y = c.sc.names.lookup y
    rw [o.sc]
  have hb : (X.env.blockKind != ScopeKind.function) = false := by rw [o.bk]; rfl
  unfold swappedStores
  simp only [e, hb, Bool.or_false]
  unfold swM at h
  split at h
  · rename_i c1; cases h; exact if_pos c1
  · rename_i c1
    refine (if_neg c1).trans ?_
    split at h
    · rename_i c2; cases h; exact if_pos c2
    · rename_i c2
      refine (if_neg c2).trans ?_
      split at h
      · rename_i c3; cases h; exact if_pos c3
      · rename_i c3
        refine (if_neg c3).trans ?_
        split at h
        · rename_i c4; cases h; exact if_pos c4
        · rename_i c4
          refine (if_neg c4).trans ?_
          split at h
          · cases h
          · rename_i c5
            cases h
            exact if_neg c5

/-! ### assignments -/
def allIx (c : Ctx) : List Nat := List.range c.N.length
def notTT (t v : Expr) : Bool := match t, v with
  | .Tuple _ _ _, .Tuple _ _ _ => false
  | .List _ _, .Tuple _ _ _ => false
  | _, _ => true
theorem sw_none {t v : Expr} {env : PySem.Env} (h : notTT t v = true) : swappedStores [t] v env = pure none := by
  unfold swappedStores
  cases t <;> first | rfl | (cases v <;> first | rfl | cases h)
/-- the plain way -/
def cPl (n : Nat) (c : Ctx) (t v : Expr) : Option St := (cE n c v).bind fun x => (cTg n c (cE n c) (allIx c) t).bind fun y => some (.asg y x)
theorem j_pl (hl : L → LamRule C k cl clL L g act) (o : Okc C k cl L g act c X cg W) {n : Nat} {t v : Expr} {p : Pos} {y : St} (hs : swapsWithSole [t] v p.line X.env = pure false) (hw : swappedStores [t] v X.env = pure none) (h : cPl n c t v = some y) : PS X (.Assign [t] v p) (LS C cg W (evS cl clL act y)) := by
  obtain ⟨x, h1, h⟩ := ob h
  obtain ⟨z, h2, h⟩ := ob h
  cases h
  have jt : JT C cl clL act X cg (allIx c) t z := j_tg (W := W) o (fun e x => j_all' hl n o e x) n t z h2
  exact js_asg (j_all' hl n o _ _ h1).pe jt.pg hs hw (by rw [jt.st]; rfl) fun v ρ h x kk => evT_noexc _ _ _ _ _ _
/-- several names, from the right -/
def cPar (n : Nat) (c : Ctx) (names : List Str) (ts vs : List Expr) : Option St := match ts, vs with
  | [.Name x _, .Name y _], [a, b] => if names = [x, y] ∧ ctB (c.kd x) = true ∧ ctB (c.kd y) = true then (c.slot x).bind fun i => (c.slot y).bind fun j => if i ≠ j then (allE (cE n c) [a, b]).bind fun xs => some (.asg (.tup [.name i, .name j]) (.tup xs)) else none else none
  | [.Name x _, .Name y _, .Name z _], [a, b, d] => if names = [x, y, z] ∧ ctB (c.kd x) = true ∧ ctB (c.kd y) = true ∧ ctB (c.kd z) = true then (c.slot x).bind fun i => (c.slot y).bind fun j => (c.slot z).bind fun l =>
      if i ≠ j ∧ i ≠ l ∧ j ≠ l then (allE (cE n c) [a, b, d]).bind fun xs => some (.asg (.tup [.name i, .name j, .name l]) (.tup xs)) else none else none
  | _, _ => none
theorem par_eq {ts : List Tg} {xs : List Ex} : evS cl clL act (.asg (.tup ts) (.tup xs)) = fun ρ h => thenS ρ (trim h (tupF (evEs cl clL act xs) ρ h)) fun v h1 => match v with | .tup vs => keep ρ (evTs cl clL act ts vs ρ h1) | _ => .bad := by
  funext ρ h
  show thenS ρ _ _ = thenS ρ _ _
  congr 1
  funext v h1
  cases v <;> rfl
theorem j_par (hl : L → LamRule C k cl clL L g act) (o : Okc C k cl L g act c X cg W) {n : Nat} {names : List Str} {ts vs : List Expr} {k1 k2 : Nat} {p1 p2 p : Pos} {y : St} (hc : X.calm = true) (hw : swappedStores [.Tuple ts k1 p1] (.Tuple vs k2 p2) X.env = pure (some names)) (h : cPar n c names ts vs = some y) :
    PS X (.Assign [.Tuple ts k1 p1] (.Tuple vs k2 p2) p) (LS C cg W (evS cl clL act y)) := by
  unfold cPar at h
  split at h
  · rename_i x xp y yp a b
    obtain ⟨⟨g1, g2, g3⟩, h⟩ := og h
    obtain ⟨i, hi, h⟩ := ob h
    obtain ⟨j, hj, h⟩ := ob h
    obtain ⟨hij, h⟩ := og h
    obtain ⟨xs, h1, h⟩ := ob h
    cases h
    subst g1
    rw [par_eq, evTs_cons, evTs_cons, evTs_nil]
    exact js_par hc o.nd (o.slot hi) (o.slot hj) hij (o.ct g2) (o.ct g3) (j_all (fun e x => j_all' hl n o e x) h1).1 hw rfl
  · rename_i x xp y yp z zp a b d
    obtain ⟨⟨g1, g2, g3, g4⟩, h⟩ := og h
    obtain ⟨i, hi, h⟩ := ob h
    obtain ⟨j, hj, h⟩ := ob h
    obtain ⟨l, hll, h⟩ := ob h
    obtain ⟨⟨hij, hil, hjl⟩, h⟩ := og h
    obtain ⟨xs, h1, h⟩ := ob h
    cases h
    subst g1
    rw [par_eq, evTs_cons, evTs_cons, evTs_cons, evTs_nil]
    exact js_par3 hc o.nd (o.slot hi) (o.slot hj) (o.slot hll) hij hil hjl (o.ct g2) (o.ct g3) (o.ct g4) (j_all (fun e x => j_all' hl n o e x) h1).1 hw rfl
  · cases h
/-- name = [..] -/
def cSetL (n : Nat) (c : Ctx) (y : Str) (elt : Expr) (gens : List Comprehension) (scope : Scope) : Option St := match gens with
  | [⟨tg, iter, ifs, a⟩] => if a = 0 then (c.slot y).bind fun i => (cParts n c (cE n c) (cE n (blkCtx c scope)) elt tg iter ifs scope).map fun q => .asg (.name i) (.comp ((ownOf c.N scope).map (·.2)) q.t q.it q.cond q.elt) else none
  | _ => none
theorem j_setL (hl : L → LamRule C k cl clL L g act) (o : Okc C k cl L g act c X cg W) {n : Nat} {y : Str} {py lpos p : Pos} {elt : Expr} {gens : List Comprehension} {scope : Scope} {st : St} (hsw : swL c y py lpos scope = true) (h : cSetL n c y elt gens scope = some st) :
    PS X (.Assign [.Name y py] (.ListComp elt gens scope lpos) p) (LS C cg W (evS cl clL act st)) := by
  unfold cSetL at h
  split at h
  · rename_i tg iter ifs a
    obtain ⟨e, h⟩ := og h
    subst e
    obtain ⟨i, hi, h⟩ := ob h
    obtain ⟨q, h1, rfl⟩ := om h
    have jc := j_parts (clL := clL) (act := act) o (fun e x => j_all' hl n o e x) (fun X' o' e x => j_all' hl n o' e x) h1
    have hl : X.env.scope.names.lookup y = some .local := by
      unfold swL at hsw
      simp only [Bool.and_eq_true] at hsw
      have := hsw.1.1
      rw [beq_iff_eq] at this
      rw [o.sc]; exact this
    exact js_setLc jc.hc o.nd (o.slot hi) hl ((swL_ok o).trans (by rw [hsw])) jc.hi.pi jc.ok jc.hg jc.ht jc.he jc.hi.fs
  · cases h
def cAsg (n : Nat) (c : Ctx) (t v : Expr) : Option St := match t, v with
  | .Name y py, .ListComp elt gens scope lpos => (match swL c y py lpos scope with
    | true => cSetL n c y elt gens scope
    | false => cPl n c (.Name y py) (.ListComp elt gens scope lpos))
  | .Tuple ts k1 p1, .Tuple vs k2 p2 => (match swM c ts vs with
    | some none => cPl n c (.Tuple ts k1 p1) (.Tuple vs k2 p2)
    | some (some names) => if c.calm = true then cPar n c names ts vs else none
    | none => none)
  | t, v => if notTT t v = true ∧ (notC v = true ∨ isName t = false) then cPl n c t v else none
theorem j_asg (hl : L → LamRule C k cl clL L g act) (o : Okc C k cl L g act c X cg W) {n : Nat} {t v : Expr} {p : Pos} {st : St} (h : cAsg n c t v = some st) : PS X (.Assign [t] v p) (LS C cg W (evS cl clL act st)) := by
  unfold cAsg at h
  split at h
  · rename_i y py elt gens scope lpos
    split at h
    · rename_i e
      exact j_setL hl o e h
    · rename_i e
      exact j_pl hl o ((swL_ok o (l := p.line)).trans (by rw [e])) rfl h
  · rename_i ts k1 p1 vs k2 p2
    split at h
    · rename_i e
      exact j_pl hl o rfl (swM_ok o e) h
    · rename_i names e
      obtain ⟨h0, h⟩ := og h
      exact j_par hl o (o.calm h0).1 (swM_ok o e) h
    · cases h
  · obtain ⟨⟨h1, h2⟩, h⟩ := og h
    refine j_pl hl o ?_ (sw_none h1) h
    rcases h2 with h2 | h2
    · exact sw_not h2
    · exact sw_tgt h2

/-! ### statements -/
def allS (f : Stmt → Option St) : List Stmt → Option (List St)
  | [] => some []
  | a :: r => (f a).bind fun x => (allS f r).bind fun y => some (x :: y)
theorem j_allS {f : Stmt → Option St} (hf : ∀ s t, f s = some t → PS X s (LS C cg W (evS cl clL act t))) : ∀ {ss : List Stmt} {ts : List St}, allS f ss = some ts → PSs X ss (LS C cg W (evSs cl clL act ts))
  | [], _, h => by cases h; exact jss_nil
  | a :: r, _, h => by
    obtain ⟨x, h1, h⟩ := ob h
    obtain ⟨z, h2, h⟩ := ob h
    cases h
    exact jss_cons (hf _ _ h1) (j_allS hf h2)
def exIx (x : Str) : List (Str × Str) → Nat → Option (Nat × Str)
  | [], _ => none
  | d :: r, i => if d.1 = x then some (i, d.2) else exIx x r (i + 1)
theorem exIx_ok {x : Str} : ∀ {l : List (Str × Str)} {i : Nat} {j : Nat × Str}, exIx x l i = some j → i ≤ j.1 ∧ l[j.1 - i]? = some (x, j.2)
  | [], i, j, h => by cases h
  | y :: r, i, j, h => by
    unfold exIx at h
    split at h
    · rename_i e
      cases h
      exact ⟨Nat.le_refl _, by simp [← e]⟩
    · obtain ⟨h1, h2⟩ := exIx_ok h
      refine ⟨by omega, ?_⟩
      rw [show j.1 - i = (j.1 - (i + 1)) + 1 by omega, List.getElem?_cons_succ]
      exact h2
def cRai (n : Nat) (c : Ctx) (e : Expr) : Option St := match e with
  | .Call (.Name x _) [a] [] _ => if c.calm = true ∧ okN x = true ∧ glB (c.kd x) = true ∧ ("super" : Str) ∈ c.g.frees then (exIx x c.g.exs 0).bind fun j => (cE n c a).bind fun y => some (.raise j.1 j.2 y) else none
  | _ => none
theorem j_rai (hl : L → LamRule C k cl clL L g act) (o : Okc C k cl L g act c X cg W) {n : Nat} {e : Expr} {p : Pos} {st : St} (h : cRai n c e = some st) : PS X (.Raise (some e) none p) (LS C cg W (evS cl clL act st)) := by
  unfold cRai at h
  split at h
  · rename_i x xp a pos
    obtain ⟨⟨h0, h1, h2, h3⟩, h⟩ := og h
    obtain ⟨j, h4, h⟩ := ob h
    obtain ⟨y, h5, h⟩ := ob h
    cases h
    obtain ⟨_, g⟩ := exIx_ok h4
    rw [Nat.sub_zero] at g
    obtain ⟨e1, e2, fI, T⟩ := o.gl.exs _ _ g
    obtain ⟨hc, hr⟩ := o.calm h0
    have ja := j_all' (clL := clL) (act := act) hl n o _ _ h5
    exact js_raise hc e1 o.tk (mkx_own (cg := cg) (W := W) T e2 (o.gl.free _ h3) hr ja.pe (o.glob h2) (okN_ok h1).1 (ja.st []) rfl)
  · cases h

/-- except clauses; f: a suite -/
def suCtx (c : Ctx) : Ctx := { c with calm := false, top := false, lam := false, actN := none }
def cHd (c : Ctx) (f : List Stmt → Option (List St)) (h : ExceptHandler) : Option Hd := match h with
  | .ExceptHandler (some (.Name x _)) nm (b :: suite) _ => if okN x = true ∧ glB (c.kd x) = true then (c.g.cat.lookup x).bind fun cs => (f (b :: suite)).bind fun y => (match nm with
      | none => some (.mk cs none y)
      | some n => if ctB (c.kd n) = true then (c.slot n).bind fun i => some (.mk cs (some i) y) else none) else none
  | _ => none
def allH (f : ExceptHandler → Option Hd) : List ExceptHandler → Option (List Hd)
  | [] => some []
  | a :: r => (f a).bind fun x => (allH f r).bind fun y => some (x :: y)
theorem Okc.suite (o : Okc C k cl L g act c X cg W) {a : Addr} {oe : Obj} {cls : Value} {d : Option Addr} {pn : List (Addr × Obj)} (hz : Zc cls d oe) (hf : ∃ vs, oe.data = .fields vs) : Okc C k cl L g act (suCtx c) (X.suite a ((a, oe) :: pn)) (some (a, cls, d)) (fun _ _ _ _ => False) where
  gl := o.gl
  hK := o.hK
  N := o.N
  sc := o.sc
  kind := o.kind
  fn := o.fn
  nd := o.nd
  calm := fun h => by cases h
  top := fun h => by cases h
  hp := PassesOwn.never
  tk := LamX.takes0
  xf := fun _ i n f np pos h1 h2 h3 h4 ⟨p, hp, e⟩ => je_xfld o.hK (fun c hc => ⟨(o.gl.xf c hc).1, e ▸ (o.gl.xf c hc).2 p hp⟩) hz hf h1 h2 h3 h4 rfl
  gg := o.gg
  lamL := fun h => by cases h
  lm := fun h => by cases h
  ac := fun _ h => by cases h
theorem Okc.tr (o : Okc C k cl L g act c X cg W) {W' : WX} {pn : List (Addr × Obj)} {xe : Value → Shared → Prop} (hc : c.calm = true) (tk : Takes (X.tr pn xe) W') (hp : PassesOwn (model X.prog X.w) X.A X.env xe) : Okc C k cl L g act c (X.tr pn xe) cg W' where
  gl := o.gl
  hK := o.hK
  N := o.N
  sc := o.sc
  kind := o.kind
  fn := o.fn
  nd := o.nd
  calm := o.calm
  top := o.top
  hp := hp
  tk := tk
  xf := fun h => by rw [hc] at h; cases h
  gg := o.gg
  lamL := o.lamL
  lm := o.lm
  ac := o.ac
theorem j_hds (o : Okc C k cl L g act c X cg W) {f : List Stmt → Option (List St)} (hf : ∀ (a : Addr) (oe : Obj) (cls : Value) (d : Option Addr) (pn : List (Addr × Obj)), Zc cls d oe → (∃ vs, oe.data = .fields vs) → ∀ ss ts, f ss = some ts → PSs (X.suite a ((a, oe) :: pn)) ss (LS C (some (a, cls, d)) (fun _ _ _ _ => False) (evSs cl clL act ts))) :
    ∀ {hs : List ExceptHandler} {ts : List Hd}, allH (cHd c f) hs = some ts → ∃ l : List Cl, (∀ x ρ h, evH cl clL act ts x ρ h = hdF l x ρ h) ∧ HdsMix X hs (l.map (Cl.clause C)) ∧ ∀ q ∈ l, ∀ i, i < C.nx → PySem.W.exmOne C.K (.ref (C.xa i)) q.v = some (decide (i ∈ q.cs))
  | [], _, h => by
    cases h
    exact ⟨[], fun _ _ _ => rfl, .nil, fun q hq => by cases hq⟩
  | .ExceptHandler ty nm body p :: r, _, h => by
    obtain ⟨z, h1, h⟩ := ob h
    obtain ⟨w, h2, h⟩ := ob h
    cases h
    obtain ⟨l, l1, l2, l3⟩ := j_hds o hf h2
    unfold cHd at h1
    split at h1
    · rename_i x xp nm' b suite p' e
      cases e
      obtain ⟨⟨g1, g2⟩, h1⟩ := og h1
      obtain ⟨cs, g3, h1⟩ := ob h1
      obtain ⟨y, g4, h1⟩ := ob h1
      obtain ⟨v, e1, e2⟩ := o.gl.cat _ _ g3
      have nm0 : Names X x v := ⟨o.glob g2, (okN_ok g1).1, .inl e1⟩
      have hsu := fun a oe cls d pn hz hfi => hf a oe cls d pn hz hfi _ _ g4
      cases nm with
      | none =>
        cases h1
        refine ⟨⟨v, cs, none, evSs cl clL act y⟩ :: l, fun x ρ h => ?_, .cons nm0 hsu l2, fun q hq => ?_⟩
        · show (if x.c ∈ cs then _ else _) = (if x.c ∈ cs then _ else _)
          rw [l1]
        · rcases List.mem_cons.mp hq with rfl | hq
          · exact e2
          · exact l3 q hq
      | some n =>
        obtain ⟨g5, h1⟩ := og h1
        obtain ⟨i, g6, h1⟩ := ob h1
        cases h1
        refine ⟨⟨v, cs, some i, evSs cl clL act y⟩ :: l, fun x ρ h => ?_, .as nm0 (o.slot g6) (o.ct g5) hsu l2, fun q hq => ?_⟩
        · show (if x.c ∈ cs then _ else _) = (if x.c ∈ cs then _ else _)
          rw [l1]
        · rcases List.mem_cons.mp hq with rfl | hq
          · exact e2
          · exact l3 q hq
    · cases h1

def cS : Nat → Ctx → Stmt → Option St
  | 0, _, _ => none
  | n + 1, c, s => match s with
    | .Assign ts v _ => (match ts with
      | [t] => cAsg n c t v
      | _ => none)
    | .AugAssign t op v _ => (match t with
      | .Name x _ => if locB (c.kd x) = true ∧ (c.fnB x = true ∨ ctB (c.kd x) = true) then (bop op).bind fun o => (c.slot x).bind fun i => (cE n c v).bind fun y => some (.aug i o y) else none
      | _ => none)
    | .Expr e _ => if notC e = true then (cE n c e).map .ex else none
    | .Return e _ => (match e with
      | none => some .retn
      | some e => (cE n c e).map .ret)
    | .If t a b _ => (cE n c t).bind fun x => (allS (cS n c) a).bind fun y => (allS (cS n c) b).bind fun z => some (.ite x y z)
    | .For t it b e _ => (match e with
      | [] => if c.calm = true then (cIt c (cE n c) t it).bind fun x => (cTg n c (cE n c) (allIx c) t).bind fun y => (allS (cS n c) b).bind fun z => some (.for_ y x z) else none
      | _ => none)
    | .While t b e _ => (match e with
      | [] => (cE n c t).bind fun x => (allS (cS n c) b).bind fun y => some (.while_ x y)
      | _ => none)
    | .Pass _ => some .pass
    | .Break _ => some .brk
    | .Continue _ => some .cont
    | .Raise e ca _ => (match e, ca with
      | some e, none => cRai n c e
      | _, _ => none)
    | .Try b hs e fi _ => (match hs, e, fi with
      | h :: r, [], [] => if c.calm = true ∧ c.top = true then (allS (cS n c) b).bind fun x => (allH (cHd c (allS (cS n (suCtx c)))) (h :: r)).bind fun y => some (.try_ x y) else none
      | _, _, _ => none)
    | _ => none
theorem j_stm (hl : L → LamRule C k cl clL L g act) : ∀ (n : Nat) {c : Ctx} {X : Cx} {cg : Caught} {W : WX}, Okc C k cl L g act c X cg W → ∀ (s : Stmt) (t : St), cS n c s = some t → PS X s (LS C cg W (evS cl clL act t))
  | 0, _, _, _, _, _, _, _, h => by cases h
  | n + 1, c, X, cg, W, o, .Assign ts v p, t, h => by
    match ts, h with
    | [t], h => exact j_asg hl o h
    | [], h => cases h
    | _ :: _ :: _, h => cases h
  | n + 1, c, X, cg, W, o, .AugAssign tg op v p, t, h => by
    cases tg with
    | Name x xp =>
      obtain ⟨⟨h1, h2⟩, h⟩ := og h
      obtain ⟨bo, h3, h⟩ := ob h
      obtain ⟨i, h4, h⟩ := ob h
      obtain ⟨y, h5, h⟩ := ob h
      cases h
      rw [← bop_ok h3]
      exact js_aug o.nd (o.slot h4) (o.loc h1) (j_all' hl n o _ _ h5).pe (o.stores h2)
    | _ => cases h
  | n + 1, c, X, cg, W, o, .Expr e p, t, h => by
    obtain ⟨h1, h⟩ := og h
    obtain ⟨x, h2, rfl⟩ := om h
    exact js_ex (j_all' hl n o _ _ h2).pe (sw_not h1)
  | n + 1, c, X, cg, W, o, .Return e p, t, h => by
    cases e with
    | none => cases h; exact js_retn
    | some e => obtain ⟨x, h2, rfl⟩ := om h; exact js_ret (j_all' hl n o _ _ h2).pe
  | n + 1, c, X, cg, W, o, .If tt a b p, t, h => by
    obtain ⟨x, h1, h⟩ := ob h
    obtain ⟨y, h2, h⟩ := ob h
    obtain ⟨z, h3, h⟩ := ob h
    cases h
    exact js_if (j_all' hl n o _ _ h1).pt (j_allS (fun s t => j_stm hl n o s t) h2) (j_allS (fun s t => j_stm hl n o s t) h3)
  | n + 1, c, X, cg, W, o, .For tg it b e p, t, h => by
    cases e with
    | nil =>
      obtain ⟨h0, h⟩ := og h
      obtain ⟨x, h1, h⟩ := ob h
      obtain ⟨y, h2, h⟩ := ob h
      obtain ⟨z, h3, h⟩ := ob h
      cases h
      have ji := j_it (clL := clL) (act := act) o (fun e x => j_all' hl n o e x) h1
      exact js_for o.hp (o.calm h0).1 ji.pi (j_tg o (fun e x => j_all' hl n o e x) n tg y h2).pg (j_allS (fun s t => j_stm hl n o s t) h3) ji.fs fun v ρ h x kk => evT_noexc _ _ _ _ _ _
    | cons _ _ => cases h
  | n + 1, c, X, cg, W, o, .While tt b e p, t, h => by
    cases e with
    | nil =>
      obtain ⟨x, h1, h⟩ := ob h
      obtain ⟨y, h2, h⟩ := ob h
      cases h
      exact js_while o.hp (j_all' hl n o _ _ h1).pt (j_allS (fun s t => j_stm hl n o s t) h2)
    | cons _ _ => cases h
  | n + 1, c, X, cg, W, o, .Pass p, t, h => by cases h; exact js_pass
  | n + 1, c, X, cg, W, o, .Break p, t, h => by cases h; exact js_brk
  | n + 1, c, X, cg, W, o, .Continue p, t, h => by cases h; exact js_cont
  | n + 1, c, X, cg, W, o, .Raise e ca p, t, h => by
    cases e with
    | none => cases h
    | some e =>
      cases ca with
      | none => exact j_rai hl o h
      | some _ => cases h
  | n + 1, c, X, cg, W, o, .Try b hs e fi p, t, h => by
    match hs, e, fi, h with
    | h0 :: r, [], [], h =>
      obtain ⟨⟨h1, h2⟩, h⟩ := og h
      obtain ⟨x, h3, h⟩ := ob h
      obtain ⟨y, h4, h⟩ := ob h
      cases h
      obtain ⟨t1, t2, t3⟩ := o.top h2
      subst t3
      obtain ⟨l, l1, l2, l3⟩ := j_hds (clL := clL) (act := act) o (fun a oe cls d pn hz hf ss ts e => j_allS (fun s t => j_stm hl n (o.suite hz hf) s t) e) h4
      have e : evS cl clL act (.try_ x y) = tryS (evSs cl clL act x) (hdF l) := by
        funext ρ h'
        show (match evSs cl clL act x ρ h' with | .exc x ρ1 h1 => evH cl clL act y x ρ1 h1 | r => r) = _
        unfold tryS
        cases evSs cl clL act x ρ h' with
        | exc e ρ1 h1 => exact l1 e ρ1 h1
        | _ => rfl
      rw [e]
      exact js_try o.hK t1 t2 o.nd o.tk (fun W' pn xe tk hp => j_allS (fun s t => j_stm hl n (o.tr h1 tk hp) s t) h3) l3 l2
    | [], _, _, h => cases h
    | _ :: _, _ :: _, _, h => cases h
    | _ :: _, [], _ :: _, h => cases h
  | n + 1, c, X, cg, W, o, .FunctionDef .., y, h => by cases h
  | n + 1, c, X, cg, W, o, .AsyncFunctionDef .., y, h => by cases h
  | n + 1, c, X, cg, W, o, .ClassDef .., y, h => by cases h
  | n + 1, c, X, cg, W, o, .Delete .., y, h => by cases h
  | n + 1, c, X, cg, W, o, .TypeAlias .., y, h => by cases h
  | n + 1, c, X, cg, W, o, .AnnAssign .., y, h => by cases h
  | n + 1, c, X, cg, W, o, .AsyncFor .., y, h => by cases h
  | n + 1, c, X, cg, W, o, .With .., y, h => by cases h
  | n + 1, c, X, cg, W, o, .AsyncWith .., y, h => by cases h
  | n + 1, c, X, cg, W, o, .Match .., y, h => by cases h
  | n + 1, c, X, cg, W, o, .TryStar .., y, h => by cases h
  | n + 1, c, X, cg, W, o, .Assert .., y, h => by cases h
  | n + 1, c, X, cg, W, o, .Import .., y, h => by cases h
  | n + 1, c, X, cg, W, o, .ImportFrom .., y, h => by cases h
  | n + 1, c, X, cg, W, o, .Global .., y, h => by cases h
  | n + 1, c, X, cg, W, o, .Nonlocal .., y, h => by cases h
end
end PM

set_option Elab.async false
set_option linter.all false
set_option maxRecDepth 100000
set_option maxHeartbeats 2000000
/-! PMlam: a lambda handed to a def that calls it. -/
namespace PM
open PySem PySem.Spec PyProof.Rows L2 LamX
theorem After.code {H : Hp} {θ : List Addr} {P c : Addr} {q : Str} {ps ps' : Array Value} (hP : H P = some (.tbl ps)) (nC : H c = none) : After H θ (upd (upd H P (.tbl ps')) c (CodeO c q)) θ := by
  have at_ : ∀ b o, H b = some o → b ≠ P → upd (upd H P (.tbl ps')) c (CodeO c q) b = some o := fun b o e n => by rw [upd_ne (ne_of_none e nC), upd_ne n]; exact e
  have nP : ∀ b o, H b = some o → NoTbl o → b ≠ P := fun b o e n z => by rw [z, hP] at e; cases e; exact n ps rfl
  refine ⟨List.prefix_refl _, fun b o e i => at_ b o e (nP b o e (imm_noTbl i)), fun b o e _ n => at_ b o e (nP b o e n), fun b qs e => ?_, fun _ h n => absurd h n⟩
  by_cases z : b = P
  · subst z
    exact ⟨ps', by rw [upd_ne (ne_of_none e nC), upd_same]⟩
  · exact ⟨qs, at_ b _ e z⟩
section
variable {X : Cx} {pins : List (Addr × Obj)} {σ : L2.St} {H : Hp} {s : Shared}
/-- a lambda's making: what came is told by After too -/
theorem lam_make3 {T : List (Addr × Str)} {c P : Addr} {params : Arguments} {body : Expr} {scope : Scope} {pos : Pos} {E : Value → Shared → Prop} {Q : Value → Shared → Prop} (I : L2.Inv X pins σ H s) (TB : TabB X.base X.mg c P) (hcode : X.env.code = .ref c)
    (hm : (P, X.env.qual ++ "<lambda>") ∈ T) (hu : ∀ p ∈ T, p.1 = P → p.2 = X.env.qual ++ "<lambda>") (hT : Tabs T H) (hdef : defaultsOf params X.env = ([], [])) (hfree : ∀ y ∈ scope.names, y.2 = .free → ∃ c, X.env.cells.lookup y.1 = some c)
    (h : ∀ (f c' : Addr) (pm ctv : Value) (H1 : Hp) (s' : Shared), L2.Inv X pins σ H1 s' → (∀ θ, After H θ H1 θ) → Tabs T H1 →
      s'.heap.get? f = some (PySem.W.kla_obj "<lambda>" (X.env.qual ++ "<lambda>") params body scope (cloFrom X.env.cells scope.names []) pm c' ctv) → H1 f = none → f ∉ frs X.stack → H1 c' = some (CodeO c' (X.env.qual ++ "<lambda>")) → Q (.ref f) s') :
    wpAny (model X.prog X.w) X.A (eval (.Lambda params body scope pos) X.env) Q E s := by
  obtain ⟨ps, hP, ht, ha⟩ := hT _ hm
  refine PySem.W.kla_eval hdef ?_
  have bP : s.heap.BuiltinsAt X.mg P := TB.bm.keeps I.bk
  have hP' : s.heap.get? P = some { cls := .none, data := .fields ps } := I.hok P _ hP
  have nofr : ∀ f, s.heap.objs.size ≤ f → f ∉ frs X.stack := fun f hf z => by
    rcases List.mem_cons.mp (I.stkSub _ z) with e | e
    · have h1 := I.lt
      rw [← e] at h1
      exact Nat.lt_irrefl _ (Nat.lt_of_lt_of_le h1 hf)
    · exact I.nofs hf e
  cases hc : codeAmong pos ps.toList with
  | none =>
    refine PySem.W.kla_makeFunction (mg := X.mg) (c := c) (P := P) (ps := ps) (closure_ok hfree) I.ok.glob (I.mod.glob.keeps I.bk) hcode (TB.code.keeps I.bk) hP' ht hc TB.gP bP fun c' ctv h' tk hx hge hlt hrec htb => ?_
    obtain ⟨c2, oc, vs, t, e2, hoc, hd, hv⟩ := hrec
    cases e2
    have hsz : s.heap.objs.size ≤ h'.objs.size := Nat.le_trans hge (Nat.le_of_lt hlt)
    have nC : H c' = none := I.hok.fresh hge
    have I1 := inv_table (t' := tk) (more := #[rawInt pos.line, rawInt pos.col, .ref c']) (h' := h'.push (PySem.W.kla_obj "<lambda>" (X.env.qual ++ "<lambda>") params body scope (cloFrom X.env.cells scope.names []) ((X.mg "__name__").getD .none) c' ctv)) I hP
      (fun b o hb e => Heap.get?_push_of_some _ (hx b o hb e)) (Heap.get?_push_of_some _ htb) hge ⟨oc, vs, t, Heap.get?_push_of_some _ hoc, hd, hv⟩
    have hE : ExtN H (upd (upd H P (.tbl (ps ++ #[rawInt pos.line, rawInt pos.col, .ref c']))) c' (CodeO c' (X.env.qual ++ "<lambda>"))) := fun b o e n => by
      rw [upd_ne (ne_of_none e nC), upd_ne (fun z => n ps (Option.some.inj (e.symm.trans (by rw [z]; exact hP))))]
      exact e
    have eL : (ps ++ #[rawInt pos.line, rawInt pos.col, .ref c']).toList = ps.toList ++ [rawInt pos.line, rawInt pos.col, .ref c'] := by simp
    refine h h'.objs.size c' ((X.mg "__name__").getD .none) ctv _ _ I1 (fun θ => After.code hP nC) (fun p hp => ?_) (Heap.get?_push_size _ rfl) ?_ (nofr _ hsz) upd_same
    · by_cases hb : p.1 = P
      · rw [hu p hp hb, hb]
        refine ⟨_, by rw [upd_ne (ne_of_none hP nC), upd_same], by rw [eL]; exact PySem.TriplesOk_snoc _ _ _ _ ht, fun p' cv hcv => ?_⟩
        rw [eL] at hcv
        rcases among_app _ ht hcv with z | z
        · obtain ⟨c0, e1, e2⟩ := ha p' cv z
          exact ⟨c0, e1, hE _ _ e2 codeO_ne⟩
        · exact ⟨c', z, upd_same⟩
      · obtain ⟨ps', a1, a2, a3⟩ := hT p hp
        refine ⟨ps', by rw [upd_ne (ne_of_none a1 nC), upd_ne hb]; exact a1, a2, fun p' cv hcv => ?_⟩
        obtain ⟨c0, e1, e2⟩ := a3 p' cv hcv
        exact ⟨c0, e1, hE _ _ e2 codeO_ne⟩
    · have n1 : h'.objs.size ≠ c' := Nat.ne_of_gt hlt
      have n2 : h'.objs.size ≠ P := Nat.ne_of_gt (Nat.lt_of_lt_of_le (Heap.lt_size hP') hsz)
      rw [upd_ne n1, upd_ne n2]
      exact I.hok.fresh hsz
  | some cv =>
    obtain ⟨c', e, hco⟩ := ha pos cv hc
    subst e
    refine PySem.W.kla_makeFunctionHit (mg := X.mg) (c := c) (P := P) (ps := ps) (closure_ok hfree) I.ok.glob (I.mod.glob.keeps I.bk) hcode (TB.code.keeps I.bk) hP' ht hc bP fun ctv h' tk hx hsz => ?_
    have I1 : L2.Inv X pins σ H { s with heap := h'.push (PySem.W.kla_obj "<lambda>" (X.env.qual ++ "<lambda>") params body scope (cloFrom X.env.cells scope.names []) ((X.mg "__name__").getD .none) c' ctv), toks := tk } := I.kept fun b o e => Heap.get?_push_of_some _ (hx b o e)
    exact h h'.objs.size c' ((X.mg "__name__").getD .none) ctv H _ I1 (fun θ => After.refl _ _) hT (Heap.get?_push_size _ rfl) (I.hok.fresh hsz) (nofr _ hsz) hco
end
/-! ### the callee's reading: it knows where the maker's names stand -/
/-- within the callee: the action's object at f, the maker's slots, its code object at c' -/
def lamC (C : Cfg) (cg : Caught) (ρ : PM.Env) (σ : L2.St) (f c' : Addr) (q : Str) : Cfg := { C with
  fa := some f
  Iv := fun H θ => C.Iv H θ ∧ RE C cg H θ ρ σ ∧ H c' = some (CodeO c' q) ∧ c' ∉ θ
  stab := fun {H H' θ θ'} af ⟨i1, i2, i3, i4⟩ => ⟨C.stab af i1, i2.after af, af.frm _ _ i3 i4 codeO_ne, fun m => by
    have := af.new _ m i4
    rw [i3] at this; cases this⟩ }
section
variable {C : Cfg} {cg cg' : Caught} {ρ : PM.Env} {σ : L2.St} {f c' : Addr} {q : Str}
theorem lamC_rel {H : Hp} {θ : List Addr} {h : Heap} (r : Rel (lamC C cg ρ σ f c' q) H θ h) : Rel C H θ h := ⟨r.len, r.nd, r.ob, r.tab, r.iv.1⟩
theorem lamC_to {H : Hp} {θ : List Addr} {h : Heap} (r : Rel C H θ h) (re : RE C cg H θ ρ σ) (hc : H c' = some (CodeO c' q)) (n : c' ∉ θ) : Rel (lamC C cg ρ σ f c' q) H θ h := ⟨r.len, r.nd, r.ob, r.tab, r.iv, re, hc, n⟩
theorem lamC_go {α : Type} {H : Hp} {θ : List Addr} {o : Out α} {R : α → Heap → Hp → List Addr → Prop} {E : Value → Option Addr → Hp → Prop} (g : GO C H θ o R E) : GO (lamC C cg ρ σ f c' q) H θ o R E := by
  cases o with
  | ok a h => exact fun H' θ' af rl => g H' θ' af (lamC_rel rl)
  | exc x h => exact fun H' θ' cls d af rl rx => g H' θ' cls d af (lamC_rel rl) rx
  | bad => exact g
theorem lamC_og {α : Type} {H : Hp} {θ : List Addr} {o : Out α} {R : α → Heap → Hp → List Addr → Prop} {E : Value → Option Addr → Hp → Prop} (iv : (lamC C cg ρ σ f c' q).Iv H θ) (g : GO (lamC C cg ρ σ f c' q) H θ o R E) : GO C H θ o R E := by
  cases o with
  | ok a h => exact fun H' θ' af rl => g H' θ' af ⟨rl.len, rl.nd, rl.ob, rl.tab, (lamC C cg ρ σ f c' q).stab af iv⟩
  | exc x h => exact fun H' θ' cls d af rl rx => g H' θ' cls d af ⟨rl.len, rl.nd, rl.ob, rl.tab, (lamC C cg ρ σ f c' q).stab af iv⟩ rx
  | bad => exact g
end
/-! ### a def's end -/
theorem GS.fin {C : Cfg} {H : Hp} {θ : List Addr} {h : Heap} {r : SOut} {Q : VK} {E : Value → Option Addr → Hp → Prop} (rl : Rel C H θ h) (g : GO C H θ (PM.fin h r) (VR C Q) E) : GS C none (fun cls d _ H' => E cls d H') H θ r { nx := fun _ H' => Q .non H', rt := Q } := by
  cases r with
  | nx ρ k => exact fun H' θ' σ' af rl' _ => GO.trim (o := .ok .non k) rl g H' θ' af rl' .non rfl
  | rt v k => exact fun H' θ' w af rl' rv => GO.trim (o := .ok v k) rl g H' θ' af rl' w rv
  | exc x ρ k => exact fun H' θ' σ' cls d af rl' _ rx => GO.trim (o := .exc x k) rl g H' θ' cls d af rl' rx
  | bk ρ k => exact g.elim
  | ct ρ k => exact g.elim
  | bad => exact g.elim
end PM

set_option Elab.async false
set_option linter.all false
set_option maxRecDepth 100000
set_option maxHeartbeats 4000000
/-! PMlrl: the rule of a lambda handed to a def that calls it. -/
namespace PM
open PySem PySem.Spec PyProof.Rows L2 LamX
def Gb.bare (g : Gb) : Gb := { g with ex := fun _ _ _ _ _ => True }
def actCtx (g : Gb) (N : List Str) (sg : Scope) (a : Str) : Ctx := ⟨g, N, sg, fun _ => true, true, true, false, some a⟩
/-- a def that calls what it got -/
def Callee (g : Gb) (Pr : List Fn) (K : PySem.W.Frag) (mg : Str → Option Value) (i : Nat) : Prop := ∃ (d : FnE) (a : Str) (N : List Str) (sg : Scope) (pg : Arguments) (bg : List Stmt) (code : Fn) (fa : Addr) (fd : FuncData),
  g.fns[i]? = some d ∧ mg d.name = some (.ref fa) ∧ FunD K d.name d.name pg bg sg [] [] fa fd ∧ L2.Binds K fd [a] [] ∧ FnScope N [a] sg ∧ N[0]? = some a ∧ Vis sg a ∧ okN a = true ∧ allS (cS 60 (actCtx g.bare N sg a)) bg = some code.body ∧ Pr[i]? = some code ∧ code.ns = N.length
theorem noPar_ok {p : Arguments} (h : noPar p = true) : p = ⟨[], [], none, [], [], none, []⟩ := by
  unfold noPar at h
  split at h
  · rfl
  · cases h
section
variable {C : Cfg} {k : Nat} {cl : Nat → List Val → Heap → Out Val} {L : Prop} {g : Gb} {act : Heap → Out Val} {Pr : List Fn}
theorem glob_bare {cl' : Nat → List Val → Heap → Out Val} {C' : Cfg} {P : Program} {w : World} {K : PySem.W.Frag} {mg : Str → Option Value} {base : PySem.Heap} (gl : Glob C k cl g P w K mg base) (hK : C'.K = C.K) (hx : C'.xa = C.xa) (hn : C'.nx = C.nx) (hb : ∀ i vs h, cl' i vs h = .bad) : Glob C' k cl' g.bare P w K mg base where
  fns := fun i d e => by
    obtain ⟨fa, fd, e1, e2, F, kb⟩ := gl.fns i d e
    exact ⟨fa, fd, e1, e2, ⟨fun vs H Q E h => h.1, fun A outer s H args us vs Q E _ _ _ _ ⟨_, θ, h, ds, _, _, z⟩ => by rw [hb] at z; exact z.elim⟩, kb⟩
  free := gl.free
  cons := fun x v e => by
    obtain ⟨u, w', e1, e2, e3⟩ := gl.cons x v e
    exact ⟨u, w', e1, e2, fun H θ => by rw [hK]; exact e3 H θ⟩
  exs := fun i p e => by rw [hn, hx]; exact gl.exs i p e
  cat := fun x cs e => by rw [hn, hx, hK]; exact gl.cat x cs e
  xf := by rw [hn, hx, hK]; exact gl.xf
  ex := True.intro
theorem start_f {C' : Cfg} {H : Hp} {θ : List Addr} {f : Addr} {N : List Str} {n : Nat} (hf : C'.fa = some f) (hn : n = N.length) (h0 : 0 < N.length) : RE C' none H θ (Sl.f :: List.replicate (n - 1) .no) (L2.start N [V.ref f]) := by
  subst hn
  refine ⟨by simp [L2.start], fun i s e => ?_⟩
  cases i with
  | zero =>
    cases e
    exact ⟨some (.ref f), rfl, f, hf, rfl⟩
  | succ i =>
    rw [List.getElem?_cons_succ, List.getElem?_replicate] at e
    split at e
    · rename_i hi
      cases e
      refine ⟨none, ?_, True.intro⟩
      show ((some (V.ref f)) :: ([] ++ List.replicate (N.length - 1) none))[i + 1]? = _
      rw [List.getElem?_cons_succ, List.nil_append, List.getElem?_replicate, if_pos hi]
    · cases e
/-- the action called in the callee -/
theorem act_pe {c : Ctx} {X : Cx} {cg : Caught} {W : WX} (o : Okc C k cl L g act c X cg W) {pins : List (Addr × Obj)} {s' : Shared} {σ : L2.St} {H1 : Hp} {ρ : PM.Env} {params : Arguments} {body : Expr} {scope : Scope} {bx : Ex} {clL : Nat → (Heap → Out Val) → Heap → Out Val}
    {f c' : Addr} {pm' ctv : Value} {N : List Str} {sg : Scope} {a x : Str} {fa : Addr} {cdv : Value} (LS : LamS X.env.scope scope) (hpar : noPar params = true)
    (hbody : ∀ (A : Around) (outer : List PySem.Env) (s : Shared) (H : Hp) (E : XK) (f c' : Addr), Room k (A.deeper (LamX.lamEnv X scope s.heap.objs.size f c')) → PE (LamX.lamCx X A outer s H E scope f c') body (LE C cg (fun cls d _ H => E cls d H) (evE cl clL act bx)))
    (I1 : L2.Inv X pins σ H1 s') (hf : s'.heap.get? f = some (PySem.W.kla_obj "<lambda>" (X.env.qual ++ "<lambda>") params body scope (cloFrom X.env.cells scope.names []) pm' c' ctv)) (hfn : H1 f = none) (hfr : f ∉ frs X.stack)
    (hN0 : N[0]? = some a) (hva : Vis sg a) (ha : okN a = true) (hr : Room (k + 1) (X.A.deeper (envOfC x sg s'.heap.objs.size fa cdv))) (pn : List (Addr × Obj)) (xe : Value → Shared → Prop) (W' : WX)
    (tk : Takes ((cxOf (L2.CX X.prog X.w) X.prog X.w X.K X.mg X.base N x sg fa cdv X.A X.stack s' H1 (fun _ _ _ => False)).tr pn xe) W') (p1 p2 : Pos) :
    PE ((cxOf (L2.CX X.prog X.w) X.prog X.w X.K X.mg X.base N x sg fa cdv X.A X.stack s' H1 (fun _ _ _ => False)).tr pn xe) (.Call (.Name a p1) [] [] p2) (LE (lamC C cg ρ σ f c' (X.env.qual ++ "<lambda>")) none W' (actF (fun k => evE cl clL act bx ρ k))) := by
  refine ⟨fun pinsZ sZ σZ HZ Q IZ ⟨θZ, ρZ, hZ, reZ, rlZ, goZ⟩ => ?_⟩
  have e0 : ρZ[0]? = some Sl.f := by
    unfold actF at goZ
    split at goZ
    · assumption
    · exact goZ.elim
  have goZ : GO (lamC C cg ρ σ f c' (X.env.qual ++ "<lambda>")) HZ θZ (evE cl clL act bx ρ hZ) (VR (lamC C cg ρ σ f c' (X.env.qual ++ "<lambda>")) Q) (fun cls d H' => W' cls d σZ H') := by
    unfold actF at goZ
    rw [e0] at goZ
    exact goZ
  obtain ⟨wv, ew, f0, e1, e2⟩ := reZ.2 0 _ e0
  cases e1
  subst e2
  have hs : σZ[0]? = some (some (V.ref f)) := ew
  obtain ⟨iv1, reM, hcZ, _⟩ := rlZ.iv
  have goM := lamC_og rlZ.iv goZ
  refine wpAny_Call_Name_kw (thn ((pe_var (pos := p1) (i := 0) hN0 hva (okN_ok ha).1 (okN_ok ha).2.1).run pinsZ sZ σZ HZ (fun v H1 => v = .ref f ∧ H1 = HZ) IZ ⟨.ref f, hs, rfl, rfl⟩) fun u s1 ⟨v, H2, I2, r1, q1⟩ => ?_)
  obtain ⟨ev, eH⟩ := q1
  subst ev
  rw [eH] at I2
  obtain rfl : u = Value.ref f := r1
  have of1 : s1.heap.get? f = some (PySem.W.kla_obj "<lambda>" (X.env.qual ++ "<lambda>") params body scope (cloFrom X.env.cells scope.names []) pm' c' ctv) := I2.base.keep f _ hf hfn hfr (fun z => nomatch (show f ∈ ([] : List Addr) from z))
  refine PySem.W.callWith_F0 ⟨_, _, _, _, of1⟩ ?_
  have un : Un (frs X.stack) [] H1 HZ s'.heap s1.heap := I2.base
  obtain ⟨⟨oc, vs, t, hoc, hdc, hvc⟩, _, _⟩ := I2.hok c' _ hcZ
  have hbind : bindArgs (PySem.W.kla_fn "<lambda>" (X.env.qual ++ "<lambda>") params body scope (cloFrom X.env.cells scope.names []) pm' (.ref c') ctv) ⟨[], []⟩ = pure [] := by
    rw [noPar_ok hpar]; rfl
  have rc : codeAny (model X.prog X.w) (X.A.deeper (envOfC x sg s'.heap.objs.size fa cdv)) (.call (.ref f) ⟨[], []⟩) (CR (L2.CX X.prog X.w) (envOfC x sg s'.heap.objs.size fa cdv :: X.stack) X.prog X.w HZ s1 Q (WE W' σZ)) s1 := by
    refine PySem.W.kla_callFunE hr.depth of1 rfl LS.co LS.gen rfl ⟨c', oc, vs, t, rfl, hoc, hdc, hvc⟩ ?_
    rw [hbind]
    refine wpAny_pure (wpAny_newFunctionEnv (fun y hy => (LS.own y hy).2) (fun y hy => absurd hy (by simp)) (fun h₁ hns hsb => ⟨I2.nolimit.fresh _ hsb, ?_⟩) LS.kind)
    show codeAny _ _ (.expr body (lamEnv X scope s1.heap.objs.size f c')) _ _
    have kp : ∀ b o, s1.heap.get? b = some o → h₁.get? b = some o := fun b o e => hsb.extBut b o (Nat.ne_of_lt (Heap.lt_size e)) (Heap.get?_push_of_some _ e)
    have J : L2.Inv (lamCx X (X.A.deeper (envOfC x sg s'.heap.objs.size fa cdv)) (envOfC x sg s'.heap.objs.size fa cdv :: X.stack) s1 HZ (WE W' σZ) scope f c') [] σ HZ { s1 with heap := h₁, toks := s1.toks + ([] : List (Str × Value)).length } :=
      lam_start2 I1 LS I2.env0 hr.hd un hns kp
    refine PySem.W.kla_codeExpr (wpAny_mono ((hbody _ _ s1 HZ (WE W' σZ) f c' (hr.deeper _)).run [] _ _ HZ Q J ⟨θZ, ρ, hZ, reM, lamC_rel rlZ, goM⟩) (fun v s' hq => ?_) fun e s' hq => hq)
    obtain ⟨w', H', J', rv, q⟩ := hq
    exact ⟨w', H', J'.os, J'.bare, J'.base, J'.hok, rv, q⟩
  refine wpAny_call (codeAny_mono rc fun r s2 hq => ?_)
  cases r with
  | error e => exact passAt tk σZ pinsZ HZ s1 e s2 I2 hq
  | ok fl =>
    cases fl with
    | ret u => exact I2.after hq
    | next => exact False.elim hq
    | brk => exact False.elim hq
    | cont => exact False.elim hq
theorem rel_lam {H H1 : Hp} {θ : List Addr} {h : Heap} (rl : Rel C H θ h) (af : After H θ H1 θ) (t : Tabs C.T H1) (k : ∀ b o, H b = some o → b ∈ θ → H1 b = some o) : Rel C H1 θ h :=
  ⟨rl.len, rl.nd, fun i o e => let ⟨a, ea, r⟩ := rl.ob i o e; ⟨a, ea, r.after af.ext fun u z => k a u z (List.mem_of_getElem? ea)⟩, t, C.stab af rl.iv⟩
theorem lam_rule (hg : ∀ (P : Program) (w : World) (K : PySem.W.Frag) (mg : Str → Option Value) (base : PySem.Heap), g.ex P w K mg base → ∀ i ∈ g.lams, Callee g Pr K mg i) : LamRule C k cl (runL Pr) L g act := by
  intro c X cg W o hlam hcalm x p lpos pos i d params body scope bx hd hn hi hgl hdb lS hpar hbody
  have gg := o.gg
  have gl := o.gl
  rw [gg] at gl hd hi
  obtain ⟨d', a, N, sg, pg, bg, code, fa, fd, c1, c2, F, hb, Sg, hN0, hva, ha, hcode, hpr, hns⟩ := hg _ _ _ _ _ gl.ex i hi
  rw [hd] at c1
  cases c1
  obtain ⟨hr, cd, Pt, e1, TB, e2, e3⟩ := o.lm hlam
  refine ⟨fun pins s σ H Q I ⟨θ, ρ, h, re, rl, go⟩ => ?_⟩
  have go1 : GO C H θ (runL Pr i (fun k => evE cl (runL Pr) act bx ρ k) h) (VR C Q) (fun cls d H' => W cls d σ H') := GO.trim rl go
  refine wpAny_Call_Name_kw (ld_glob I hgl (hn ▸ c2) ?_ hdb)
  refine PySem.W.callWith_K (h₀ := X.base) I.ok.mod.kin F.kp ?_ (by rfl) (by rfl)
  show wpAny _ _ (spliced ((false, eval (.Lambda params body scope lpos) X.env) :: backTo pos (starEach [] X.env))) _ _ s
  refine Calls.spliced_cons (lam_make3 I TB e1 e2 e3 rl.tab (by rw [noPar_ok hpar]; rfl) (lS.has I.ok) fun f c' pm' ctv H1 s' I1 af1 T1 hf hfn hfr hco => ?_)
  refine Calls.spliced_nil ⟨I1.kIn, ?_⟩
  have af := af1 θ
  have keep : ∀ b o, H b = some o → b ∈ θ → H1 b = some o := fun b o e m => (af1 []).frm b o e (by simp) (by
    obtain ⟨u, eu, ow⟩ := rl.there m
    rw [e] at eu; cases eu
    intro ps z
    rw [z] at ow; exact ow)
  have rl1 := rel_lam rl af T1 keep
  have nc : c' ∉ θ := fun m => by
    obtain ⟨u, eu, ow⟩ := rl1.there m
    rw [hco] at eu; cases eu; exact ow
  have rlZ : Rel (lamC C cg ρ σ f c' (X.env.qual ++ "<lambda>")) H1 θ h := lamC_to rl1 (re.after af) hco nc
  have go2 := GO.mono af go1
  have rc : codeAny (model X.prog X.w) X.A (.call (.ref fa) ⟨[.ref f], []⟩) (CR (L2.CX X.prog X.w) X.stack X.prog X.w H1 s' Q (fun _ _ _ => False)) s' := by
    obtain ⟨oc, od, dV, kV, doc, pm, an, cdv, ct, osl, rfl, lk, hcd, hD, hKw⟩ := F.ex
    refine run_ofS (N := N) (ps := [a]) (us := [.ref f]) (vs := [.ref f]) lk hcd Sg hr I1.env0 (hb s' [.ref f] I1.kIn rfl) (.cons rfl .nil) rfl fun hr' => ?_
    refine ⟨LS (lamC C cg ρ σ f c' (X.env.qual ++ "<lambda>")) none (fun _ _ _ _ => False) (evSs (fun _ _ _ => .bad) (fun _ _ _ => .bad) (fun k => evE cl (runL Pr) act bx ρ k) code.body), ?_, ?_⟩
    · have okZ : Okc (lamC C cg ρ σ f c' (X.env.qual ++ "<lambda>")) k (fun _ _ _ => .bad) False g.bare (fun k => evE cl (runL Pr) act bx ρ k) (actCtx g.bare N sg a) (cxOf (L2.CX X.prog X.w) X.prog X.w X.K X.mg X.base N d.name sg fa cdv X.A X.stack s' H1 (fun _ _ _ => False)) none (fun _ _ _ _ => False) := {
        gl := glob_bare gl rfl rfl rfl fun _ _ _ => rfl
        hK := o.hK
        N := rfl
        sc := rfl
        kind := Sg.kind
        fn := rfl
        nd := Sg.nd
        calm := fun _ => ⟨rfl, hr'.mono (by omega)⟩
        top := fun _ => ⟨rfl, rfl, rfl⟩
        hp := passes_of rfl
        tk := takes_of (E := fun _ _ _ => False) rfl rfl rfl rfl
        xf := fun h => by cases h
        gg := rfl
        lamL := fun h => by cases h
        lm := fun h => by cases h
        ac := fun a' ea pn xe W' tk p1 p2 => by
          cases ea
          exact act_pe o lS hpar hbody I1 hf hfn hfr hN0 hva ha hr' pn xe W' tk p1 p2 }
      exact j_allS (fun s t => j_stm (fun z => z.elim) 60 okZ s t) hcode
    · have h0 : 0 < N.length := (List.getElem?_eq_some_iff.mp hN0).1
      refine ⟨θ, Sl.f :: List.replicate (code.ns - 1) .no, h, start_f rfl hns h0, rlZ, GS.fin (C := lamC C cg ρ σ f c' (X.env.qual ++ "<lambda>")) (E := fun _ _ _ => False) rlZ ?_⟩
      unfold runL at go2
      rw [hpr] at go2
      have go3 : GO C H1 θ (match PM.fin h (evSs (fun _ _ _ => .bad) (fun _ _ _ => .bad) (fun k => evE cl (runL Pr) act bx ρ k) code.body (Sl.f :: List.replicate (code.ns - 1) .no) h) with | .exc _ _ => .bad | r => r) (VR C Q) (fun cls d H' => W cls d σ H') := go2
      cases q : PM.fin h (evSs (fun _ _ _ => .bad) (fun _ _ _ => .bad) (fun k => evE cl (runL Pr) act bx ρ k) code.body (Sl.f :: List.replicate (code.ns - 1) .no) h) with
      | ok v h2 =>
        rw [q] at go3
        exact lamC_go (show GO C H1 θ (.ok v h2) (VR C Q) _ from go3)
      | exc e h2 => rw [q] at go3; exact go3.elim
      | bad => rw [q] at go3; exact go3.elim
  refine wpAny_call (codeAny_mono rc fun r s2 hq => ?_)
  cases r with
  | error e =>
    obtain ⟨_, _, _, _, _, _, _, _, _, _, _, _, z⟩ := (show L2.CX X.prog X.w X.stack H1 s' (fun _ _ _ => False) e s2 from hq)
    exact z.elim
  | ok fl =>
    cases fl with
    | ret u => exact I1.after hq
    | next => exact False.elim hq
    | brk => exact False.elim hq
    | cont => exact False.elim hq
end
end PM

set_option Elab.async false
set_option linter.all false
set_option maxRecDepth 100000
set_option maxHeartbeats 4000000
/-! PMtop: the table of defs keeps its promises, at every depth. -/
namespace PM
open PySem PySem.Spec PyProof.Rows L2 LamX
/-- a def of the table -/
structure DefE where
  d : He.DefD
  ps : List Str
  N : List Str
  code : Fn
  lam : Bool
  act : Option Str
def defCtx (g : Gb) (e : DefE) : Ctx := ⟨g, e.N, e.d.scope, fun _ => true, true, true, e.lam, e.act⟩
/-- what stands, ahead of every depth -/
structure Stat (C : Cfg) (Pr : List Fn) (g : Gb) (P : Program) (w : World) (K : PySem.W.Frag) (mg : Str → Option Value) (base : PySem.Heap) : Prop where
  hK : K = C.K
  defs : ∀ (i : Nat) (d : FnE), g.fns[i]? = some d → ∃ (e : DefE) (fa : Addr) (fd : FuncData), mg d.name = some (.ref fa) ∧ FunD K e.d.name e.d.qual e.d.params e.d.body e.d.scope [] [] fa fd ∧ FnScope e.N d.ps e.d.scope ∧
    allS (cS 60 (defCtx g e)) e.d.body = some e.code.body ∧ Pr[i]? = some e.code ∧ e.code.np = d.ps.length ∧ e.code.ns = e.N.length ∧
    (e.lam = true → ∃ cd Pt, fd.code = .ref cd ∧ TabB base mg cd Pt ∧ (Pt, e.d.qual ++ ".<locals>." ++ "<lambda>") ∈ C.T ∧ ∀ p ∈ C.T, p.1 = Pt → p.2 = e.d.qual ++ ".<locals>." ++ "<lambda>") ∧
    ∀ m ks pm, (i, m, ks, pm) ∈ g.pats → KB K fd d.ps m ks pm
  lams : ∀ (P : Program) (w : World) (K : PySem.W.Frag) (mg : Str → Option Value) (base : PySem.Heap), g.ex P w K mg base → ∀ i ∈ g.lams, Callee g Pr K mg i
  free : ∀ x ∈ g.frees, mg x = none
  cons : ∀ x v, g.cons.lookup x = some v → ∃ (u : Value) (w : V), mg x = some u ∧ RelV w u ∧ ∀ H θ, RV C.K H θ v w
  exs : ∀ (i : Nat) (p : Str × Str), g.exs[i]? = some p → i < C.nx ∧ mg p.1 = some (.ref (C.xa i)) ∧ ∃ fI, PySem.OwnX.ErrTxt P K (C.xa i) fI p.2
  cat : ∀ x cs, g.cat.lookup x = some cs → ∃ v, mg x = some v ∧ ∀ i, i < C.nx → PySem.W.exmOne C.K (.ref (C.xa i)) v = some (decide (i ∈ cs))
  xf : ∀ i, i < C.nx → XfC C.K (C.xa i) ∧ ∀ p ∈ g.exs, PySem.W.findIn C.K (.ref (C.xa i)) p.2 = some none
  ex : g.ex P w K mg base
section
variable {C : Cfg} {Pr : List Fn} {g : Gb} {P : Program} {w : World} {K : PySem.W.Frag} {mg : Str → Option Value} {base : PySem.Heap}
theorem start_v {H : Hp} {θ : List Addr} {N : List Str} {n : Nat} {ds : List Val} {ws : List V} (hn : n = N.length) (r : RVs C.K H θ ds ws) : RE C none H θ (PM.start n ds) (L2.start N ws) := by
  subst hn
  have hl := RVs.length r
  refine ⟨by simp [PM.start, L2.start, hl], fun i s e => ?_⟩
  unfold PM.start at e
  unfold L2.start
  by_cases hi : i < ds.length
  · rw [List.getElem?_append_left (by simpa using hi), List.getElem?_map] at e
    obtain ⟨v, ev⟩ : ∃ v, ds[i]? = some v := ⟨ds[i], by simp [hi]⟩
    rw [ev] at e
    cases e
    obtain ⟨u, eu, ru⟩ := r.get ev
    exact ⟨some u, by rw [List.getElem?_append_left (by simpa [hl] using hi), List.getElem?_map, eu]; rfl, u, rfl, ru⟩
  · rw [List.getElem?_append_right (by simpa using hi), List.length_map, List.getElem?_replicate] at e
    split at e
    · rename_i hh
      cases e
      refine ⟨none, ?_, True.intro⟩
      rw [List.getElem?_append_right (by simpa [hl] using hi), List.length_map, List.getElem?_replicate, hl, if_pos hh]
    · cases e
theorem fn_level (S : Stat C Pr g P w K mg base) {n i : Nat} (gl : Glob C (3 * n) (call Pr n) g P w K mg base) {d : FnE} {e : DefE} {fa : Addr} {fd : FuncData} (F : FunD K e.d.name e.d.qual e.d.params e.d.body e.d.scope [] [] fa fd) (Sc : FnScope e.N d.ps e.d.scope)
    (hb : allS (cS 60 (defCtx g e)) e.d.body = some e.code.body) (hp : Pr[i]? = some e.code) (hnp : e.code.np = d.ps.length) (hns : e.code.ns = e.N.length)
    (hl : e.lam = true → ∃ cd Pt, fd.code = .ref cd ∧ TabB base mg cd Pt ∧ (Pt, e.d.qual ++ ".<locals>." ++ "<lambda>") ∈ C.T ∧ ∀ p ∈ C.T, p.1 = Pt → p.2 = e.d.qual ++ ".<locals>." ++ "<lambda>") :
    FnOk P w K mg base (L2.CX P w) (3 * (n + 1)) fa fd d.ps (spF C (call Pr (n + 1) i) d.ps.length) := by
  obtain ⟨oc, od, dV, kV, doc, pm, an, cdv, ct, osl, rfl, lk, hcd, hD, hKw⟩ := F.ex
  refine fn_of (k := 3 * n + 2) lk hcd Sc (fun vs H Q E h => h.1) fun A outer s H vs Q E hr ⟨hl1, θ, h, ds, rv, rl, go⟩ => ?_
  have okX : Okc C (3 * n) (call Pr n) True g (fun _ => .bad) (defCtx g e) (cxOf (L2.CX P w) P w K mg base e.N e.d.qual e.d.scope fa cdv A outer s H E) none (fun cls d _ H => E cls d H) := {
    gl := gl
    hK := S.hK
    N := rfl
    sc := rfl
    kind := Sc.kind
    fn := rfl
    nd := Sc.nd
    calm := fun _ => ⟨rfl, hr.mono (by omega)⟩
    top := fun _ => ⟨rfl, rfl, rfl⟩
    hp := passes_of rfl
    tk := takes_of rfl rfl rfl rfl
    xf := fun h => by cases h
    gg := rfl
    lamL := fun _ => True.intro
    lm := fun h => ⟨hr, hl h⟩
    ac := fun _ _ pn xe W' _ p1 p2 => ⟨fun pins s σ H Q I ⟨θ, ρ, h, _, _, z⟩ => by
      unfold actF at z
      split at z <;> exact z.elim⟩ }
  refine ⟨LS C none (fun cls d _ H => E cls d H) (evSs (call Pr n) (runL Pr) (fun _ => .bad) e.code.body), j_allS (fun s t => j_stm (fun _ => lam_rule S.lams) 60 okX s t) hb, ?_⟩
  refine ⟨θ, PM.start e.code.ns ds, h, start_v hns rv, rl, GS.fin rl ?_⟩
  rw [call_eq hp (by rw [hnp, ← hl1, RVs.length rv])] at go
  exact go
theorem glob_all (S : Stat C Pr g P w K mg base) : ∀ n, Glob C (3 * n) (call Pr n) g P w K mg base
  | 0 => {
    fns := fun i d e => by
      obtain ⟨e, fa, fd, e1, F, Sc, hb, hp, hnp, hns, hl, kb⟩ := S.defs i d e
      exact ⟨fa, fd, e1, F.kp, ⟨fun vs H Q E h => h.1, fun A outer s H args us vs Q E _ _ _ _ ⟨_, θ, h, ds, _, _, z⟩ => z.elim⟩, kb⟩
    free := S.free
    cons := S.cons
    exs := S.exs
    cat := S.cat
    xf := S.xf
    ex := S.ex }
  | n + 1 => {
    fns := fun i d e => by
      have gl := glob_all S n
      obtain ⟨e, fa, fd, e1, F, Sc, hb, hp, hnp, hns, hl, kb⟩ := S.defs i d e
      exact ⟨fa, fd, e1, F.kp, fn_level S gl F Sc hb hp hnp hns hl, kb⟩
    free := S.free
    cons := S.cons
    exs := S.exs
    cat := S.cat
    xf := S.xf
    ex := S.ex }
end
end PM

set_option Elab.async false
set_option linter.all false
set_option maxRecDepth 100000
set_option maxHeartbeats 4000000
/-! PMhead: what the head must show of the written part, as one Bool. -/
namespace PM
open PySem PySem.Spec PyProof.Rows L2 LamX
open PySem.W (Frag)
theorem b2 {a b : Bool} (h : (a && b) = true) : a = true ∧ b = true := Bool.and_eq_true_iff.mp h
/-! ### constants -/
mutual
def rvB (K : Frag) : Val → Value → Bool
  | .non, u => (match u with | .none => true | _ => false)
  | .bl b, u => (match u with | .bool c => b == c | _ => false)
  | .int i, u => (match u with | .int j _ => decide (i = j) | _ => false)
  | .str s, u => (match u with | .str t _ => decide (s = t) | _ => false)
  | .tup vs, u => (match u with
    | .ref a => (match K.lookup a with
      | some ⟨.type c, _, .seq its _, _⟩ => decide (c = "tuple") && (decide (its.size ≤ sizeLine) && rvBs K vs its.toList)
      | _ => false)
    | _ => false)
  | .scr vs, u => (match u with
    | .ref a => (match K.lookup a with
      | some ⟨.type c, none, .seq its _, _⟩ => decide (c = "list") && (decide (its.size ≤ sizeLine) && rvBs K vs its.toList)
      | _ => false)
    | _ => false)
  | .ref _, _ => false
def rvBs (K : Frag) : List Val → List Value → Bool
  | [], us => us.isEmpty
  | v :: vs, us => (match us with
    | u :: us => rvB K v u && rvBs K vs us
    | [] => false)
end
mutual
theorem rvB_ok {K : Frag} : ∀ (v : Val) (u : Value), rvB K v u = true → ∃ w, RelV w u ∧ ∀ H θ, RV K H θ v w
  | .non, u, h => by
    unfold rvB at h
    split at h
    · exact ⟨.non, rfl, fun _ _ => rfl⟩
    · cases h
  | .bl b, u, h => by
    unfold rvB at h
    split at h
    · have := eq_of_beq h
      subst this
      exact ⟨.bl b, rfl, fun _ _ => rfl⟩
    · cases h
  | .int i, u, h => by
    unfold rvB at h
    split at h
    · have := of_decide_eq_true h
      subst this
      exact ⟨.int i, ⟨_, rfl⟩, fun _ _ => rfl⟩
    · cases h
  | .str s, u, h => by
    unfold rvB at h
    split at h
    · have := of_decide_eq_true h
      subst this
      exact ⟨.str s, ⟨_, rfl⟩, fun _ _ => rfl⟩
    · cases h
  | .tup vs, u, h => by
    unfold rvB at h
    split at h
    · rename_i a
      split at h
      · rename_i c dd its n sl q
        obtain ⟨h1, h2⟩ := b2 h
        obtain ⟨h3, h4⟩ := b2 h2
        obtain ⟨ws, r1, r2⟩ := rvBs_ok vs its.toList h4
        exact ⟨.ref a, rfl, fun H θ => ⟨a, ws, rfl, .inr ⟨_, its, n, q, congrArg Value.type (of_decide_eq_true h1), rfl, of_decide_eq_true h3, r1⟩, r2 H θ⟩⟩
      · cases h
    · cases h
  | .scr vs, u, h => by
    unfold rvB at h
    split at h
    · rename_i a
      split at h
      · rename_i c its n sl q
        obtain ⟨h1, h2⟩ := b2 h
        obtain ⟨h3, h4⟩ := b2 h2
        obtain ⟨ws, r1, r2⟩ := rvBs_ok vs its.toList h4
        exact ⟨.ref a, rfl, fun H θ => ⟨a, ws, rfl, .inr ⟨_, its, n, q, congrArg Value.type (of_decide_eq_true h1), rfl, rfl, of_decide_eq_true h3, r1⟩, r2 H θ⟩⟩
      · cases h
    · cases h
  | .ref _, u, h => by cases h
theorem rvBs_ok {K : Frag} : ∀ (vs : List Val) (us : List Value), rvBs K vs us = true → ∃ ws, Vals ws us ∧ ∀ H θ, RVs K H θ vs ws
  | [], us, h => by
    unfold rvBs at h
    cases us with
    | nil => exact ⟨[], .nil, fun _ _ => rfl⟩
    | cons _ _ => cases h
  | v :: vs, us, h => by
    unfold rvBs at h
    cases us with
    | nil => cases h
    | cons u us =>
      obtain ⟨h1, h2⟩ := b2 h
      obtain ⟨w, r1, r2⟩ := rvB_ok v u h1
      obtain ⟨ws, r3, r4⟩ := rvBs_ok vs us h2
      exact ⟨w :: ws, .cons r1 r3, fun H θ => ⟨w, ws, rfl, r2 H θ, r4 H θ⟩⟩
end
/-! ### error classes -/
def parOf : Arguments → Option (Str × Str × Pos × Pos)
  | ⟨[], [⟨x, none, p⟩, ⟨y, none, q⟩], none, [], [], none, []⟩ => some (x, y, p, q)
  | _ => none
theorem parOf_ok {a : Arguments} {x y : Str} {p q : Pos} (h : parOf a = some (x, y, p, q)) : a = ⟨[], [⟨x, none, p⟩, ⟨y, none, q⟩], none, [], [], none, []⟩ := by
  unfold parOf at h
  split at h
  · cases h; rfl
  · cases h
structure BodP where
  s : Str
  i : Str
  text : Str
  s2 : Str
  f : Str
  f2 : Str
  k : Nat
  q0 : Pos
  q1 : Pos
  q2 : Pos
  q3 : Pos
  q4 : Pos
  q5 : Pos
  q6 : Pos
  q7 : Pos
  q8 : Pos
  q9 : Pos
def bodOf : FuncBody → Option BodP
  | .stmts [.Expr (.Call (.Attribute (.Call (.Name s q0) [] [] q1) i q2) [.Constant (.str text) k q3] [] q4) q5, .Assign [.Attribute (.Name s2 q6) f q7] (.Name f2 q8) q9] => some ⟨s, i, text, s2, f, f2, k, q0, q1, q2, q3, q4, q5, q6, q7, q8, q9⟩
  | _ => none
theorem bodOf_ok {b : FuncBody} {p : BodP} (h : bodOf b = some p) : b = .stmts [.Expr (.Call (.Attribute (.Call (.Name p.s p.q0) [] [] p.q1) p.i p.q2) [.Constant (.str p.text) p.k p.q3] [] p.q4) p.q5, .Assign [.Attribute (.Name p.s2 p.q6) p.f p.q7] (.Name p.f2 p.q8) p.q9] := by
  unfold bodOf at h
  split at h
  · cases h; rfl
  · cases h
def codeB (P : Program) (K : Frag) (cda : Addr) : Bool := match K.lookup cda with
  | some ⟨_, _, .fields vs, _⟩ => (match vs[2]? with
    | some (Value.str file _) => (P.main.file : Str) == file
    | _ => false)
  | _ => false
def cellB (K : Frag) (cc C : Addr) : Bool := match K.lookup cc with
  | some ⟨_, _, .cell (some (.ref D)), _⟩ => decide (D = C)
  | _ => false
def initB (P : Program) (K : Frag) (C : Addr) (fld : Str) (fd : FuncData) : Bool := match fd with
  | ⟨nm, qual, pa, bo, sc, gl, clo, dV, kV, _, _, _, cdv, _, bl⟩ => (match parOf pa, bodOf bo, clo, cdv with
    | some (x, y, _, _), some b, [(cn, cc)], .ref cda => decide (nm = "__init__") && (decide (x = "self") && (decide (y = fld) && (decide (b.s = "super") && (decide (b.i = "__init__") && (decide (b.s2 = "self") && (decide (b.f = fld) && (decide (b.f2 = fld) && ((b.q2.endLine == b.q4.line) &&
        (decide (sc = PySem.OwnX.eS fld) && (decide (gl = mainGlobals) && (decide (cn = "__class__") && (decide (dV = .none) && (decide (kV = .none) && (decide (bl = builtinsNs) && (PySem.W.codeIn K (.ref cda) qual && (codeB P K cda && cellB K cc C))))))))))))))))
    | _, _, _, _ => false)
def errB (P : Program) (K : Frag) (C : Addr) (fld : Str) : Bool :=
  (decide (fld = "word") || decide (fld = "at")) && (PySem.W.excInitIn K C He.veBase "ValueError.__new__" && ((match PySem.W.clsIn K C with
    | some cd => PySem.HandSPX.refsVE cd.mro && cd.hasDict
    | none => false) && (decide (PySem.W.findIn K (.ref C) "__setattr__" = some (some (.builtin "object.__setattr__"))) && (xfB K C && (decide (PySem.W.findIn K (.ref C) fld = some none) &&
    (decide (PySem.W.keepIn K (.ref C) = true) && (decide (PySem.W.typeIn K (.ref C) = some (.type "type")) && (decide (PySem.W.subIn K (.ref C) (.type "ValueError") = some true) && (decide (PySem.W.mroIn K C (.ref C) = some true) &&
    (decide (PySem.W.ks_superIn K C C "__init__" = some (some (.builtin "ValueError.__init__"))) && (decide (PySem.W.nsIn K PySem.cStatics "thirdparty.any" = some none) && (decide ((P.main.scope.names.lookup ("super" : Str)).isSome = false) &&
    (match PySem.W.findIn K (.ref C) "__init__" with
    | some (some (.ref fI)) => decide (PySem.W.typeIn K (.ref fI) = some (.type "function")) && (match K.lookup fI with
      | some ⟨_, _, .func fd, _⟩ => initB P K C fld fd
      | _ => false)
    | _ => false)))))))))))))
theorem errB_ok {P : Program} {K : Frag} {C : Addr} {fld : Str} (h : errB P K C fld = true) : ∃ fI, PySem.OwnX.ErrTxt P K C fI fld := by
  unfold errB at h
  obtain ⟨fl, h⟩ := b2 h
  obtain ⟨ini, h⟩ := b2 h
  obtain ⟨mr, h⟩ := b2 h
  obtain ⟨sa, h⟩ := b2 h
  obtain ⟨xf, h⟩ := b2 h
  obtain ⟨noN, h⟩ := b2 h
  obtain ⟨kC, h⟩ := b2 h
  obtain ⟨tyC, h⟩ := b2 h
  obtain ⟨ve, h⟩ := b2 h
  obtain ⟨slf, h⟩ := b2 h
  obtain ⟨sup, h⟩ := b2 h
  obtain ⟨op, h⟩ := b2 h
  obtain ⟨topn, h⟩ := b2 h
  have T := xfB_ok xf
  split at h
  · rename_i fI iC
    obtain ⟨tC, h⟩ := b2 h
    split at h
    · rename_i oc od fd osl lk
      refine ⟨fI, ⟨?_, ini, ?_, of_decide_eq_true sa, T.ga, T.gg, of_decide_eq_true noN, iC, of_decide_eq_true tC, of_decide_eq_true kC, T.exC, of_decide_eq_true tyC, T.hdC, of_decide_eq_true ve, of_decide_eq_true slf, of_decide_eq_true sup, of_decide_eq_true op, of_decide_eq_true topn, ?_⟩⟩
      · rcases Bool.or_eq_true_iff.mp fl with z | z
        · exact .inl (of_decide_eq_true z)
        · exact .inr (of_decide_eq_true z)
      · split at mr
        · rename_i cd q
          obtain ⟨m1, m2⟩ := b2 mr
          exact ⟨cd, q, m1, m2⟩
        · cases mr
      · obtain ⟨nm, qual, pa, bo, sc, gl, clo, dV, kV, doc, pm, an, cdv, ct, bl⟩ := fd
        unfold initB at h
        dsimp only at h
        split at h
        · rename_i x y p q b cn cc cda e1 e2
          obtain ⟨h1, h⟩ := b2 h
          obtain ⟨h2, h⟩ := b2 h
          obtain ⟨h3, h⟩ := b2 h
          obtain ⟨h4, h⟩ := b2 h
          obtain ⟨h5, h⟩ := b2 h
          obtain ⟨h6, h⟩ := b2 h
          obtain ⟨h7, h⟩ := b2 h
          obtain ⟨h8, h⟩ := b2 h
          obtain ⟨h9, h⟩ := b2 h
          obtain ⟨h10, h⟩ := b2 h
          obtain ⟨h11, h⟩ := b2 h
          obtain ⟨h12, h⟩ := b2 h
          obtain ⟨h13, h⟩ := b2 h
          obtain ⟨h14, h⟩ := b2 h
          obtain ⟨h15, h⟩ := b2 h
          obtain ⟨h16, h⟩ := b2 h
          obtain ⟨h17, h18⟩ := b2 h
          have e1 := parOf_ok e1
          have e2 := bodOf_ok e2
          obtain ⟨s, i, text, s2, f, f2, k, q0, q1, q2, q3, q4, q5, q6, q7, q8, q9⟩ := b
          have g1 := of_decide_eq_true h1
          have g2 := of_decide_eq_true h2
          have g3 := of_decide_eq_true h3
          have g4 : s = "super" := of_decide_eq_true h4
          have g5 : i = "__init__" := of_decide_eq_true h5
          have g6 : s2 = "self" := of_decide_eq_true h6
          have g7 : f = fld := of_decide_eq_true h7
          have g8 : f2 = fld := of_decide_eq_true h8
          have g10 := of_decide_eq_true h10
          have g11 := of_decide_eq_true h11
          have g12 := of_decide_eq_true h12
          have g13 := of_decide_eq_true h13
          have g14 := of_decide_eq_true h14
          have g15 := of_decide_eq_true h15
          clear h1 h2 h3 h4 h5 h6 h7 h8 h10 h11 h12 h13 h14 h15
          subst e1 e2 g1 g2 g3 g4 g5 g6 g7 g8 g10 g11 g12 g13 g14 g15
          refine ⟨oc, od, osl, qual, text, k, p, q, q0, q1, q2, q3, q4, q5, q6, q7, q8, q9, doc, pm, an, cda, ct, cc, h9, lk, h16, ?_, ?_⟩
          · unfold codeB at h17
            split at h17
            · rename_i ccl cdd vs ccs lk2
              split at h17
              · rename_i file tf e3
                exact ⟨ccl, cdd, vs, ccs, file, tf, lk2, e3, h17⟩
              · cases h17
            · cases h17
          · unfold cellB at h18
            split at h18
            · rename_i c1 c2 D c3 lk2
              have := of_decide_eq_true h18
              subst this
              exact ⟨c1, c2, c3, lk2⟩
            · cases h18
        · cases h
    · cases h
  · cases h
end PM

set_option Elab.async false
set_option linter.all false
set_option maxRecDepth 100000
set_option maxHeartbeats 4000000
/-! PMend: from the head's Bool and the checks of the text to the law's end. -/
namespace PM
open PySem PySem.Spec PyProof.Rows L2 LamX
open PySem.W (Frag)
def AllP {α : Type} (p : α → Prop) : List α → Prop
  | [] => True
  | a :: r => p a ∧ AllP p r
theorem AllP.get {α : Type} {p : α → Prop} : ∀ {l : List α}, AllP p l → ∀ a ∈ l, p a
  | [], _, a, h => by cases h
  | x :: r, ⟨h1, h2⟩, a, h => by
    rcases List.mem_cons.mp h with rfl | h
    · exact h1
    · exact AllP.get h2 a h
def scopeB (N ps : List Str) (sc : Scope) : Bool := decide (sc.kind = .function) && (!sc.isCoroutine && (!sc.isGenerator && (decide N.Nodup && (decide (N.take ps.length = ps) && ((ps.all fun x => decide (sc.names.lookup x = some .local) || decide (sc.names.lookup x = some .cell)) && sc.names.all fun y => !decide (y.2 = .free))))))
theorem scopeB_ok {N ps : List Str} {sc : Scope} (h : scopeB N ps sc = true) : FnScope N ps sc := by
  unfold scopeB at h
  simp only [Bool.and_eq_true, Bool.not_eq_true', decide_eq_true_eq, decide_eq_false_iff_not, List.all_eq_true, Bool.or_eq_true] at h
  obtain ⟨h1, h2, h3, h4, h5, h6, h7⟩ := h
  exact ⟨h1, h2, h3, h4, h5, h6, h7⟩
/-- a def's own checks -/
structure EOk (g : Gb) (e : DefE) : Prop where
  at_ : e.d.at_ = (e.d.name, none)
  qn : e.d.qual = e.d.name
  dfl : e.d.dfl = []
  kwd : e.d.kwd = []
  sc : scopeB e.N e.ps e.d.scope = true
  body : allS (cS 60 (defCtx g e)) e.d.body = some e.code.body
  np : e.code.np = e.ps.length
  ns : e.code.ns = e.N.length
def BindP (e : DefE) (m : Nat) (ks : List Str) (pm : List Nat) : Prop := ∀ (kV doc pmv : Value) (an : Option Addr) (cdv ct : Value) (us ws : List Value), us.length = m → ws.length = ks.length →
  bindArgs (PySem.W.fnOf e.d.name e.d.qual e.d.params e.d.body e.d.scope .none kV doc pmv an cdv ct) ⟨us, ks.zip ws⟩ = pure (e.ps.zip (perm pm (us ++ ws)))
def BindN (e : DefE) : Prop := ∀ (kV doc pmv : Value) (an : Option Addr) (cdv ct : Value) (us : List Value), us.length = e.ps.length → bindArgs (PySem.W.fnOf e.d.name e.d.qual e.d.params e.d.body e.d.scope .none kV doc pmv an cdv ct) ⟨us, []⟩ = pure (e.ps.zip us)
theorem kb_of {K : Frag} {e : DefE} {fa : Addr} {fd : FuncData} (F : FunD K e.d.name e.d.qual e.d.params e.d.body e.d.scope [] [] fa fd) {m : Nat} {ks : List Str} {pm : List Nat} (h : BindP e m ks pm) : KB K fd e.ps m ks pm := by
  obtain ⟨oc, od, dV, kV, doc, pmv, an, cdv, ct, osl, rfl, lk, hcd, hD, hK⟩ := F.ex
  rcases hD with ⟨_, rfl⟩ | ⟨z, _⟩
  · exact fun s us ws _ h1 h2 => .of_eq (h kV doc pmv an cdv ct us ws h1 h2)
  · exact absurd rfl z
/-- a def that calls what it got: its checks -/
def CalOk (g : Gb) (es : List DefE) (i : Nat) : Prop := ∃ (e : DefE) (a : Str), es[i]? = some e ∧ e.ps = [a] ∧ e.N[0]? = some a ∧ Vis e.d.scope a ∧ okN a = true ∧ BindN e ∧ allS (cS 60 (actCtx g.bare e.N e.d.scope a)) e.d.body = some e.code.body
/-! ### the Hook: the classes' statics too -/
def asY (g : Addr → Option Obj) (n : Nat) : List Addr := PySem.cStatics :: He.asD g n
def obsY (n : Nat) (fn : List He.DefD) (tf : List He.Defn) (ex : Frag → Bool) (g : Addr → Option Obj) : He.AlX := (He.obsT [] fn [] (He.frT g (asY g n)), ex (He.frT g (asY g n)) && He.tabsB g tf (He.frT g (asY g n)))
theorem saysY_of {n : Nat} {fn : List He.DefD} {tf : List He.Defn} {ex : Frag → Bool} {w : World} {h : PySem.Heap} (e : obsY n fn tf ex h.get? = He.valX fn [] w) : He.SaysX [] fn [] tf ex w h (He.frT h.get? (asY h.get? n)) := by
  have e1 : He.obsT [] fn [] (He.frT h.get? (asY h.get? n)) = He.valT fn [] w := congrArg (fun z : He.AlX => z.1) e
  have e2 : (ex (He.frT h.get? (asY h.get? n)) && He.tabsB h.get? tf (He.frT h.get? (asY h.get? n))) = true := congrArg (fun z : He.AlX => z.2) e
  obtain ⟨h1, h2⟩ := b2 e2
  have key : ∀ p ∈ tf, PySem.W.codeHdIn (He.frT h.get? (asY h.get? n)) (He.cT (He.frT h.get? (asY h.get? n)) p).1 (He.cT (He.frT h.get? (asY h.get? n)) p).2 = true ∧ ∃ o, h.get? (He.cT (He.frT h.get? (asY h.get? n)) p).2 = some o ∧ He.emptyTab o = true := fun p hp => by
    obtain ⟨h3, h4⟩ := b2 (List.all_eq_true.mp h2 p hp)
    refine ⟨h3, ?_⟩
    cases q : h.get? (He.cT (He.frT h.get? (asY h.get? n)) p).2 with
    | none =>
      rw [q] at h4
      cases h4
    | some o =>
      rw [q] at h4
      exact ⟨o, rfl, h4⟩
  exact ⟨e1, h1, fun p hp => (key p hp).1, fun p hp => by
    obtain ⟨_, o, q, z⟩ := key p hp
    exact He.frT_none q z, fun p hp => by
    obtain ⟨_, o, q, z⟩ := key p hp
    rw [q, He.emptyTab_eq z]⟩
def hookY (n : Nat) (fn : List He.DefD) (tf : List He.Defn) (ex : Frag → Bool) : PySem.W.Hook where
  α := He.AlX
  obs := fun s => obsY n fn tf ex s.heap.get?
  val := fun w => He.valX fn [] w
  says := fun w h => ∃ K : Frag, K.In h ∧ He.SaysX [] fn [] tf ex w h K
  of := fun _ _ e => ⟨_, He.frT_in, saysY_of e⟩
  keeps := fun _ _ _ ⟨K, hK, c⟩ k => ⟨K, PySem.W.Frag.In.keeps hK k, ⟨c.t, c.more, c.hd, c.out, fun p hp => k _ _ (c.empty p hp)⟩⟩
theorem obsY_eq {n : Nat} {fn : List He.DefD} {tf : List He.Defn} {ex : Frag → Bool} {g : Addr → Option Obj} {s : Shared} (h : ∀ a, g a = s.heap.get? a) : obsY n fn tf ex g = (hookY n fn tf ex).obs s := by
  have e : g = s.heap.get? := funext h
  rw [e] <;> rfl
/-! ### the module's names -/
def xaOf (K : Frag) (g : Gb) (j : Nat) : Addr := He.ga K ((g.exs[j]?.map (·.1)).getD Str.empty)
def lamEs (es : List DefE) : List DefE := es.filter (·.lam)
def tfOf (es : List DefE) : List He.Defn := (lamEs es).map (·.d.at_)
def tabP (K : Frag) (e : DefE) : Addr × Str := ((He.cT K e.d.at_).2, e.d.qual ++ ".<locals>." ++ "<lambda>")
def cfgOf (K : Frag) (g : Gb) (es : List DefE) : Cfg := ⟨K, (lamEs es).map (tabP K), fun _ => 0, xaOf K g, g.exs.length, none, fun _ _ => True, fun _ _ => True.intro⟩
def gloB (K : Frag) (x : Str) : Bool := He.eqO (PySem.W.nsIn K mainGlobals x) (some (some (.ref (He.ga K x))))
def topB (P : Program) (g : Gb) (es : List DefE) (K : Frag) : Bool :=
  (g.fns.all fun d => gloB K d.name) && ((g.frees.all fun x => He.eqO (PySem.W.nsIn K mainGlobals x) (some none)) && ((g.cons.all fun p => match PySem.W.nsIn K mainGlobals p.1 with
    | some (some u) => rvB K p.2 u
    | _ => false) && ((g.exs.all fun p => gloB K p.1 && errB P K (He.ga K p.1) p.2) && ((g.cat.all fun q => gloB K q.1 && (List.range g.exs.length).all fun j => decide (PySem.W.exmOne K (.ref (xaOf K g j)) (.ref (He.ga K q.1)) = some (decide (j ∈ q.2)))) &&
    (((List.range g.exs.length).all fun j => xfB K (xaOf K g j) && g.exs.all fun p => decide (PySem.W.findIn K (.ref (xaOf K g j)) p.2 = some none)) &&
    ((lamEs es).all fun e => (lamEs es).all fun e' => decide ((tabP K e).1 ≠ (tabP K e').1) || decide ((tabP K e).2 = (tabP K e').2)))))))
def fullG (g : Gb) (es : List DefE) : Gb := { g with ex := fun _ _ K mg _ => ∀ i ∈ g.lams, Callee g (es.map (·.code)) K mg i }
theorem glo_of {K : Frag} {h : PySem.Heap} {mg : Str → Option Value} {x : Str} (X : K.In h) (G : h.Ns mainGlobals mg) (e : gloB K x = true) : mg x = some (.ref (He.ga K x)) := PySem.W.mg_of X G (He.eqO_ok e)
theorem mem_lookup' {α β : Type} [BEq α] [LawfulBEq α] {x : α} {v : β} : ∀ {l : List (α × β)}, l.lookup x = some v → (x, v) ∈ l
  | [], h => by cases h
  | (y, u) :: r, h => by
    rw [List.lookup_cons] at h
    split at h
    · rename_i e
      cases h
      have := eq_of_beq e
      subst this
      exact List.mem_cons_self
    · exact List.mem_cons_of_mem _ (mem_lookup' h)
section
variable {P : Program} {w : World} {K : Frag} {mg : Str → Option Value} {h base : PySem.Heap} {g : Gb} {es : List DefE} {tf : List He.Defn} {ts : List He.Tab}
theorem stat_of (X : K.In h) (G : h.Ns mainGlobals mg) (hf : g.fns = es.map fun e => FnE.mk e.d.name e.ps) (ok : AllP (EOk (fullG g es)) es) (cal : ∀ i ∈ g.lams, CalOk g es i) (bnd : AllP (fun q => ∀ e : DefE, es[q.1]? = some e → BindP e q.2.1 q.2.2.1 q.2.2.2) g.pats)
    (says : He.SaysX [] (es.map (·.d)) [] (tfOf es) (topB P g es) w h K) (tb : ∀ p ∈ (tfOf es).map (He.cT K), TabB base mg p.1 p.2) : Stat (cfgOf K g es) (es.map (·.code)) (fullG g es) P w K mg base := by
  have tp := says.more
  unfold topB at tp
  obtain ⟨t1, tp⟩ := b2 tp
  obtain ⟨t2, tp⟩ := b2 tp
  obtain ⟨t3, tp⟩ := b2 tp
  obtain ⟨t4, tp⟩ := b2 tp
  obtain ⟨t5, tp⟩ := b2 tp
  obtain ⟨t6, t7⟩ := b2 tp
  have fund : ∀ e ∈ es, ∃ fd, FunD K e.d.name e.d.qual e.d.params e.d.body e.d.scope [] [] (He.ga K e.d.name) fd := fun e he => by
    obtain ⟨fd, F⟩ := says.t.d.defs (List.mem_map_of_mem he)
    have eo := AllP.get ok e he
    have e1 : e.d.dvs K = [] := by unfold He.DefD.dvs; rw [eo.dfl]; rfl
    have e2 : e.d.kws K = [] := by unfold He.DefD.kws; rw [eo.kwd]; rfl
    have e3 : He.fAd K e.d.at_ = He.ga K e.d.name := by rw [eo.at_]; rfl
    rw [e1, e2, e3] at F
    exact ⟨fd, F⟩
  have glo : ∀ e ∈ es, mg e.d.name = some (.ref (He.ga K e.d.name)) := fun e he => glo_of X G (List.all_eq_true.mp t1 (FnE.mk e.d.name e.ps) (by rw [hf]; exact List.mem_map_of_mem (f := fun e : DefE => (⟨e.d.name, e.ps⟩ : FnE)) he))
  have exG : ∀ i p, g.exs[i]? = some p → He.ga K p.1 = xaOf K g i := fun i p e => by unfold xaOf; rw [e]; rfl
  have fnx : ∀ i d, g.fns[i]? = some d → ∃ e : DefE, es[i]? = some e ∧ d = FnE.mk e.d.name e.ps := fun i d hd => by
    rw [hf, List.getElem?_map] at hd
    cases q : es[i]? with
    | none => rw [q] at hd; cases hd
    | some e => rw [q] at hd; exact ⟨e, q, (Option.some.inj hd).symm⟩
  exact {
    hK := rfl
    defs := fun i d hd => by
      obtain ⟨e, he, rfl⟩ := fnx i d hd
      have hm := List.mem_of_getElem? he
      have eo := AllP.get ok e hm
      obtain ⟨fd, F⟩ := fund e hm
      refine ⟨e, He.ga K e.d.name, fd, glo e hm, F, scopeB_ok eo.sc, eo.body, by rw [List.getElem?_map, he]; rfl, eo.np, eo.ns, fun hl => ?_, fun m ks pm hp => kb_of F (AllP.get bnd _ hp e he)⟩
      obtain ⟨oc, od, dV, kV, doc, pmv, an, cdv, ct, osl, rfl, lk, hcd, hD, hKw⟩ := F.ex
      obtain ⟨c, rfl⟩ := He.codeIn_ref hcd
      have ec : He.codeOf K e.d.at_ = c := He.codeOf_eq (by rw [eo.at_]; exact lk) rfl
      have hml : e ∈ lamEs es := List.mem_filter.mpr ⟨hm, hl⟩
      have TB := tb (He.cT K e.d.at_) (List.mem_map_of_mem (List.mem_map_of_mem hml))
      have e1 : (He.cT K e.d.at_).1 = c := ec
      rw [e1] at TB
      refine ⟨c, (He.cT K e.d.at_).2, rfl, TB, List.mem_map.mpr ⟨e, hml, rfl⟩, fun p hp hq => ?_⟩
      obtain ⟨e', he', rfl⟩ := List.mem_map.mp hp
      have z := List.all_eq_true.mp (List.all_eq_true.mp t7 e' he') e hml
      rcases Bool.or_eq_true_iff.mp z with z | z
      · exact absurd hq (of_decide_eq_true z)
      · exact of_decide_eq_true z
    lams := fun _ _ _ _ _ hx => hx
    free := fun x hx => PySem.W.mg_none_of X G (He.eqO_ok (List.all_eq_true.mp t2 x hx))
    cons := fun x v hx => by
      have z := List.all_eq_true.mp t3 _ (mem_lookup' hx)
      dsimp only at z
      split at z
      · rename_i u e
        obtain ⟨wv, r1, r2⟩ := rvB_ok v u z
        exact ⟨u, wv, PySem.W.mg_of X G e, r1, r2⟩
      · cases z
    exs := fun i p hp => by
      obtain ⟨z1, z2⟩ := b2 (List.all_eq_true.mp t4 p (List.mem_of_getElem? hp))
      have e := exG i p hp
      refine ⟨(List.getElem?_eq_some_iff.mp hp).1, ?_, ?_⟩
      · rw [glo_of X G z1, e]; rfl
      · rw [e] at z2; exact errB_ok z2
    cat := fun x cs hx => by
      obtain ⟨z1, z2⟩ := b2 (List.all_eq_true.mp t5 _ (mem_lookup' hx))
      exact ⟨_, glo_of X G z1, fun i hi => of_decide_eq_true (List.all_eq_true.mp z2 i (List.mem_range.mpr hi))⟩
    xf := fun i hi => by
      obtain ⟨z1, z2⟩ := b2 (List.all_eq_true.mp t6 i (List.mem_range.mpr hi))
      exact ⟨xfB_ok z1, fun p hp => of_decide_eq_true (List.all_eq_true.mp z2 p hp)⟩
    ex := fun i hi => by
      obtain ⟨e, a, he, hp, h0, hv, ha, hb, hc⟩ := cal i hi
      have hm := List.mem_of_getElem? he
      obtain ⟨fd, F⟩ := fund e hm
      have eo := AllP.get ok e hm
      rw [eo.qn] at F
      refine ⟨⟨e.d.name, e.ps⟩, a, e.N, e.d.scope, e.d.params, e.d.body, e.code, He.ga K e.d.name, fd, by rw [hf, List.getElem?_map, he]; rfl, glo e hm, F, ?_, hp ▸ scopeB_ok eo.sc, h0, hv, ha, hc, by rw [List.getElem?_map, he]; rfl, eo.ns⟩
      have := F.bindsN (ps := e.ps) (fun kV doc pm an cdv ct us hl => by
        have := hb kV doc pm an cdv ct us hl
        rw [eo.qn] at this; exact this)
      rw [hp] at this
      exact this }
theorem funD_one {x x' q q' : Str} {pa pa' : Arguments} {bo bo' : List Stmt} {sc sc' : Scope} {d1 d1' : List V} {k1 k1' : List (Str × V)} {f : Addr} {fd fd' : FuncData} (F : FunD K x q pa bo sc d1 k1 f fd) (F' : FunD K x' q' pa' bo' sc' d1' k1' f fd') : fd = fd' := by
  obtain ⟨_, _, _, _, _, _, _, _, _, _, _, lk, _, _, _⟩ := F.ex
  obtain ⟨_, _, _, _, _, _, _, _, _, _, _, lk', _, _, _⟩ := F'.ex
  rw [lk] at lk'
  cases lk'
  rfl
end
theorem cx_none {P : Program} {w : World} {H : Hp} {s : Shared} {e : Value} {s' : Shared} (z : L2.CX P w [] H s (fun _ _ _ => False) e s') : False := by
  obtain ⟨_, _, _, _, _, _, _, _, _, _, _, _, z⟩ := z
  exact z.elim
theorem law_at {l : PySem.W.OpenLaw} {w : World} {K : Frag} {mg : Str → Option Value} {h : PySem.Heap} {g : Gb} {es : List DefE} {fa : Addr} (i0 m nmax : Nat) (e0 : DefE) (x : Str) (X : K.In h) (G : h.Ns mainGlobals mg) (hf : g.fns = es.map fun e => FnE.mk e.d.name e.ps) (ok : AllP (EOk (fullG g es)) es) (cal : ∀ i ∈ g.lams, CalOk g es i)
    (bnd : AllP (fun q => ∀ e : DefE, es[q.1]? = some e → BindP e q.2.1 q.2.2.1 q.2.2.2) g.pats) (says : He.SaysX [] (es.map (·.d)) [] (tfOf es) (topB l.prog g es) w h K) (he0 : es[i0]? = some e0) (hx : e0.ps = [x]) (hb0 : BindN e0) (hfa : mg e0.d.name = some (.ref fa))
    (pure : ∀ ns : List Int, ns.length ≤ nmax → (∀ z ∈ ns, Builtin.Int.intBits z ≤ 1048576) → (∃ h2, call (es.map (·.code)) (m + 1) i0 [.scr (ns.map .int)] [] = .ok (.bl true) h2) ∧ (∃ h2, call (es.map (·.code)) (m + 1) i0 [.ref 0] [.lst (ns.map .int)] = .ok (.bl true) h2)) :
    LawAtS l w K (L2.CX l.prog w) (3 * (m + 1)) nmax x mg fa h := by
  have hm := List.mem_of_getElem? he0
  have eo := AllP.get ok e0 hm
  have tp := says.more
  unfold topB at tp
  obtain ⟨t1, tp⟩ := b2 tp
  have eg := glo_of X G (List.all_eq_true.mp t1 (FnE.mk e0.d.name e0.ps) (by rw [hf]; exact List.mem_map_of_mem (f := fun e : DefE => FnE.mk e.d.name e.ps) hm))
  rw [hfa] at eg
  cases eg
  have F0 : ∃ fd, FunD K e0.d.name e0.d.qual e0.d.params e0.d.body e0.d.scope [] [] (He.ga K e0.d.name) fd := by
    obtain ⟨fd, F⟩ := says.t.d.defs (List.mem_map_of_mem hm)
    have e1 : e0.d.dvs K = [] := by unfold He.DefD.dvs; rw [eo.dfl]; rfl
    have e2 : e0.d.kws K = [] := by unfold He.DefD.kws; rw [eo.kwd]; rfl
    have e3 : He.fAd K e0.d.at_ = He.ga K e0.d.name := by rw [eo.at_]; rfl
    rw [e1, e2, e3] at F
    exact ⟨fd, F⟩
  obtain ⟨fd, F⟩ := F0
  have bA := F.bindsA (ps := e0.ps) hb0
  refine ⟨fd, (tfOf es).map (He.cT K), spF (cfgOf K g es) (call (es.map (·.code)) (m + 1) i0) 1, fun p hp => ?_, fun p hp => ?_, fun p hp => ?_, fun s u => ?_, fun H a ns h1 h2 h3 h4 => ?_, fun base KX' G' tb => ?_⟩
  · obtain ⟨q, hq, rfl⟩ := List.mem_map.mp hp
    exact says.empty q hq
  · obtain ⟨q, hq, rfl⟩ := List.mem_map.mp hp
    exact says.out q hq
  · obtain ⟨q, hq, rfl⟩ := List.mem_map.mp hp
    exact PySem.W.codeHd_of_K X (says.hd q hq)
  · have := bA s [u] (by rw [hx]; rfl)
    rw [hx] at this
    exact this
  · have tab : Tabs (cfgOf K g es).T H := fun p hp => by
      obtain ⟨e, he, rfl⟩ := List.mem_map.mp hp
      exact TabS.nil (h3 (He.cT K e.d.at_) (List.mem_map_of_mem (List.mem_map_of_mem he)))
    obtain ⟨⟨k1, p1⟩, ⟨k2, p2⟩⟩ := pure ns h1 h2
    have fin : ∀ {θ : List Addr} {k : Heap} {o : Out Val}, o = .ok (.bl true) k → GO (cfgOf K g es) H θ o (VR (cfgOf K g es) fun v _ => v = .bl true) (fun _ _ _ => False) := fun e => by
      subst e
      exact fun H' θ' af rl' w rv => rv
    have rint : ∀ θ, RVs (cfgOf K g es).K H θ (ns.map Val.int) (ns.map V.int) := fun θ => RVs.of_map (K := (cfgOf K g es).K) (H := H) (θ := θ) (f := Val.int) (g := V.int) (fun x => (rfl : V.int x = V.int x)) ns
    rcases h4 with (h4 | ⟨o, h4⟩) | h4
    · refine ⟨rfl, [a], [.lst (ns.map .int)], [.ref 0], ⟨.ref a, [], rfl, ⟨a, rfl, rfl⟩, rfl⟩, ⟨rfl, by simp, fun i o e => ?_, tab, True.intro⟩, fin p2⟩
      cases i with
      | zero => cases e; exact ⟨a, rfl, _, h4, rint _⟩
      | succ i => cases e
    · exact ⟨rfl, [], [], [.scr (ns.map .int)], ⟨.ref a, [], rfl, ⟨a, _, rfl, .inl ⟨o, h4⟩, rint _⟩, rfl⟩, ⟨rfl, by simp, (fun i o e => by cases e), tab, True.intro⟩, fin p1⟩
    · exact ⟨rfl, [], [], [.scr (ns.map .int)], ⟨.ref a, [], rfl, ⟨a, _, rfl, .inr h4, rint _⟩, rfl⟩, ⟨rfl, by simp, (fun i o e => by cases e), tab, True.intro⟩, fin p1⟩
  · have S := stat_of (P := l.prog) (base := base) X G hf ok cal bnd says tb
    have hd : (fullG g es).fns[i0]? = some (FnE.mk e0.d.name e0.ps) := by
      show g.fns[i0]? = _
      rw [hf, List.getElem?_map, he0]; rfl
    obtain ⟨e, fa', fd', q1, F', Sc, hb, hp, hnp, hns, hl, kb⟩ := S.defs i0 _ hd
    rw [hfa] at q1
    cases q1
    have := funD_one F F'
    subst this
    have r := fn_level S (glob_all S m) F' Sc hb hp hnp hns hl
    rw [show (FnE.mk e0.d.name e0.ps).ps = [x] from hx] at r
    exact r
end PM

set_option Elab.async false
set_option linter.all false
set_option maxRecDepth 10000
/-! PMsx: laws for running the evaluator by hand. -/
namespace PM
open PySem
@[simp] theorem flat_non : Val.flat .non = true := id rfl
@[simp] theorem flat_bl (b : Bool) : Val.flat (.bl b) = true := id rfl
@[simp] theorem flat_int (b : Int) : Val.flat (.int b) = true := id rfl
@[simp] theorem flat_str (b) : Val.flat (.str b) = true := id rfl
@[simp] theorem flat_tup (b) : Val.flat (.tup b) = flats b := id rfl
@[simp] theorem flats_nil : flats [] = true := id rfl
@[simp] theorem flats_cons (v vs) : flats (v :: vs) = (v.flat && flats vs) := id rfl
@[simp] theorem oflat_lst (vs) : Ob.flat (.lst vs) = flats vs := id rfl
/-- a def's answer at every depth from d on -/
abbrev Ans (P : List Fn) (d f : Nat) (vs : List Val) (h : Heap) (r : Out Val) : Prop := ∀ m, d ≤ m → call P m f vs h = r
theorem ans_of {P : List Fn} {d f : Nat} {fn : Fn} {vs : List Val} {h : Heap} {r : Out Val} (e : P[f]? = some fn) (l : vs.length = fn.np)
    (hb : ∀ m, d ≤ m → fin h (evSs (call P m) (runL P) (fun _ => .bad) fn.body (start fn.ns vs) h) = r) : Ans P (d + 1) f vs h r := fun m hm => by
  obtain ⟨k, rfl⟩ : ∃ k, m = k + 1 := ⟨m - 1, by omega⟩
  rw [call_eq e l]
  exact hb k (by omega)
/-- sizes -/
theorem log_lt {a : Int} {k : Nat} (h : a.natAbs < 2 ^ k) (hk : 0 < k) : a.natAbs.log2 < k := by
  by_cases z : a.natAbs = 0
  · rw [z]; simpa using hk
  · exact (Nat.log2_lt z).mpr h
theorem whL_step {c : Env → Heap → Out Bool} {body : Env → Heap → SOut} {ρ ρ2 : Env} {h h1 h2 : Heap} {r : SOut} (hc : c ρ h = .ok true h1) (hb : body ρ h1 = .nx ρ2 h2) (hr : whL c body ρ2 h2 = r) : whL c body ρ h = r := by
  rw [whL_eq, hc]
  simp only [hb]
  exact hr
theorem whL_stop {c : Env → Heap → Out Bool} {body : Env → Heap → SOut} {ρ : Env} {h h1 : Heap} (hc : c ρ h = .ok false h1) : whL c body ρ h = .nx ρ h1 := by
  rw [whL_eq, hc]
/-! ### general -/
@[simp] theorem trim_len {h k : Heap} (e : k.length = h.length) (v : Val) : trim h (.ok v k) = .ok v k := by
  have t : k.take h.length = k := by rw [← e]; simp
  unfold trim
  dsimp only
  rw [t]
  split
  · rfl
  · cases v with
    | ref r =>
      dsimp only
      split
      · rename_i c
        obtain ⟨c1, ⟨o, c2, _⟩, _⟩ := c
        have := (List.getElem?_eq_some_iff.mp c2).1
        omega
      · rfl
    | _ => rfl
@[simp] theorem trim_sa {h l : Heap} {b : Nat} {o : Ob} {v : Val} (f : v.flat = true) (fo : o.flat = true) : trim h (.ok v (h.set b o ++ l)) = .ok v (h.set b o) := trim_kept f (Kept.set fo) l
@[simp] theorem trim_ssa {h l : Heap} {b : Nat} {o o1 : Ob} {v : Val} (f : v.flat = true) (fo : o.flat = true) : trim (h.set b o1) (.ok v (h.set b o ++ l)) = .ok v (h.set b o) := by
  have e : h.set b o = (h.set b o1).set b o := by rw [List.set_set]
  rw [e]
  exact trim_kept f (Kept.set fo) l
theorem trim_setapp {h g : Heap} {b : Nat} {o : Ob} {v : Val} (hb : b < h.length) (f : v.flat = true) (fo : o.flat = true) : trim h (.ok v ((h ++ g).set b o)) = .ok v (h.set b o) := by
  rw [List.set_append_left _ _ hb]
  exact trim_kept f (Kept.set fo) g
theorem ss_nx {cl : Nat → List Val → Heap → Out Val} {clL : Nat → (Heap → Out Val) → Heap → Out Val} {act : Heap → Out Val} {s : St} {ss : List St} {ρ ρ1 : Env} {h h1 : Heap} {r : SOut} (e : evS cl clL act s ρ h = .nx ρ1 h1) (q : evSs cl clL act ss ρ1 h1 = r) : evSs cl clL act (s :: ss) ρ h = r := by
  show (match evS cl clL act s ρ h with | .nx ρ1 h1 => evSs cl clL act ss ρ1 h1 | r => r) = r
  rw [e]; exact q
theorem ss_rt {cl : Nat → List Val → Heap → Out Val} {clL : Nat → (Heap → Out Val) → Heap → Out Val} {act : Heap → Out Val} {s : St} {ss : List St} {ρ : Env} {h h1 : Heap} {v : Val} (e : evS cl clL act s ρ h = .rt v h1) : evSs cl clL act (s :: ss) ρ h = .rt v h1 := by
  show (match evS cl clL act s ρ h with | .nx ρ1 h1 => evSs cl clL act ss ρ1 h1 | r => r) = _
  rw [e]
theorem ss_app {cl : Nat → List Val → Heap → Out Val} {clL : Nat → (Heap → Out Val) → Heap → Out Val} {act : Heap → Out Val} : ∀ {a b : List St} {ρ ρ1 : Env} {h h1 : Heap}, evSs cl clL act a ρ h = .nx ρ1 h1 → evSs cl clL act (a ++ b) ρ h = evSs cl clL act b ρ1 h1
  | [], b, ρ, ρ1, h, h1, e => by cases e; rfl
  | s :: a, b, ρ, ρ1, h, h1, e => by
    have e0 : (match evS cl clL act s ρ h with | .nx ρ2 h2 => evSs cl clL act a ρ2 h2 | r => r) = .nx ρ1 h1 := e
    show (match evS cl clL act s ρ h with | .nx ρ2 h2 => evSs cl clL act (a ++ b) ρ2 h2 | r => r) = _
    cases q : evS cl clL act s ρ h with
    | nx ρ2 h2 => rw [q] at e0; exact ss_app e0
    | _ => rw [q] at e0; cases e0
theorem drop_same {h : Heap} {s : Src} : ∃ gs, dropSrc h s h = .ok (s.1, gs) h ∧ (holds h s.2 → holds h gs) := by
  unfold dropSrc
  split
  · exact ⟨_, by rw [List.take_length], fun q g hg => q g (List.mem_filter.mp hg).1⟩
  · exact ⟨s.2, rfl, id⟩
/-- a value's items walked, the heap as it was -/
theorem src_same {h : Heap} {v : Val} {vs : List Val} (e : items? h v = some vs) : ∃ gs, ((ofO (src1 h v) h).bind fun s k => dropSrc h s k) = .ok (vs, gs) h ∧ holds h gs := by
  cases v with
  | tup ws =>
    cases e
    obtain ⟨gs, e1, e2⟩ := drop_same (h := h) (s := (vs, []))
    exact ⟨gs, e1, e2 (fun g hg => by cases hg)⟩
  | scr ws =>
    cases e
    obtain ⟨gs, e1, e2⟩ := drop_same (h := h) (s := (vs, []))
    exact ⟨gs, e1, e2 (fun g hg => by cases hg)⟩
  | ref r =>
    have e0 : lst? h (.ref r) = some vs := e
    have e' : h[r]? = some (.lst vs) := by
      unfold lst? at e0
      dsimp only at e0
      split at e0
      · rename_i q; cases e0; exact q
      · cases e0
    obtain ⟨gs, e1, e2⟩ := drop_same (h := h) (s := (vs, [(r, vs)]))
    refine ⟨gs, ?_, e2 fun g hg => ?_⟩
    · unfold src1
      dsimp only
      rw [e0]
      exact e1
    · rw [List.mem_singleton.mp hg]; exact e'
  | _ => cases e
theorem len_items {h : Heap} {s : Val} {vs : List Val} (e : items? h s = some vs) : bl1 .len s h = .ok (.int vs.length) h := by
  cases s with
  | str _ => cases e
  | tup ws => cases e; rfl
  | scr ws => cases e; rfl
  | ref r =>
    show (match items? h (.ref r) with | some vs => Out.ok (Val.int vs.length) h | none => .bad) = _
    rw [e]
  | _ => cases e
theorem idx_items {h : Heap} {s : Val} {vs : List Val} (e : items? h s = some vs) {d : Int} {v : Val} (h0 : 0 ≤ d) (h1 : vs[d.toNat]? = some v) : idxV s (.int d) h = .ok v h := by
  have hl : d < vs.length := by
    have := (List.getElem?_eq_some_iff.mp h1).1
    omega
  have q : ((items? h s).bind fun vs => (place vs.length d).bind fun k => vs[k]?) = some v := by
    rw [e]
    have p : place vs.length d = some d.toNat := by simp [place, h0, hl]
    simp only [Option.bind_some, p, h1]
  cases s with
  | str _ => cases e
  | non => cases e
  | bl _ => cases e
  | int _ => cases e
  | _ =>
    show (match ((items? h _).bind fun vs => (place vs.length d).bind fun k => vs[k]?) with | some v => Out.ok v h | none => .bad) = _
    rw [q]
@[simp] theorem at_new (h l : Heap) (i : Nat) : (h ++ l)[h.length + i]? = l[i]? := by
  rw [List.getElem?_append_right (by omega)]
  congr 1
  omega
@[simp] theorem at_new0 (h l : Heap) : (h ++ l)[h.length]? = l[0]? := at_new h l 0
theorem at_old {h : Heap} {l : Heap} {b : Nat} {o : Ob} (e : h[b]? = some o) : (h ++ l)[b]? = some o := by
  rw [List.getElem?_append_left (List.getElem?_eq_some_iff.mp e).1]; exact e
theorem items_of_lst {h : Heap} {s : Val} {vs : List Val} (e : lst? h s = some vs) : items? h s = some vs := by
  cases s <;> first | cases e | exact e
theorem items_old {h l : Heap} {s : Val} {vs : List Val} (e : items? h s = some vs) : items? (h ++ l) s = some vs := by
  cases s with
  | tup _ => exact e
  | scr _ => exact e
  | ref r =>
    have e0 : lst? h (.ref r) = some vs := e
    show lst? (h ++ l) (.ref r) = some vs
    unfold lst? at e0 ⊢
    dsimp only at e0 ⊢
    split at e0
    · rename_i ws q
      cases e0
      rw [at_old q]
    · cases e0
  | _ => cases e
theorem compL_map {step : Val → Heap → Out (Option Val)} {gs : List (Nat × List Val)} {h : Heap} (hd : holds h gs) {f : Val → Val} : ∀ vs, (∀ v ∈ vs, step v h = .ok (some (f v)) h) → compL step gs vs h = .ok (vs.map f) h
  | [], _ => by rw [compL, if_pos hd]; rfl
  | v :: vs, q => by
    rw [compL, if_pos hd, q v (List.mem_cons_self ..)]
    dsimp only
    rw [compL_map hd vs (fun w hw => q w (List.mem_cons_of_mem _ hw))]
    rfl
section
variable {cl : Nat → List Val → Heap → Out Val} {clL : Nat → (Heap → Out Val) → Heap → Out Val} {act : Heap → Out Val}
theorem or_f {a b : Ex} {ρ : Env} {h h1 : Heap} {r : Out Val} (ea : evE cl clL act a ρ h = .ok (.bl false) h1) (eb : evE cl clL act b ρ h1 = r) : evE cl clL act (.or a b) ρ h = r := by
  show (toB (evE cl clL act a ρ h)).bind _ = _
  rw [ea]; exact eb
theorem or_t {a b : Ex} {ρ : Env} {h h1 : Heap} (ea : evE cl clL act a ρ h = .ok (.bl true) h1) : evE cl clL act (.or a b) ρ h = .ok (.bl true) h1 := by
  show (toB (evE cl clL act a ρ h)).bind _ = _
  rw [ea]; rfl
theorem and_t {a b : Ex} {ρ : Env} {h h1 : Heap} {r : Out Val} (ea : evE cl clL act a ρ h = .ok (.bl true) h1) (eb : evE cl clL act b ρ h1 = r) : evE cl clL act (.and a b) ρ h = r := by
  show (toB (evE cl clL act a ρ h)).bind _ = _
  rw [ea]; exact eb
theorem and_f {a b : Ex} {ρ : Env} {h h1 : Heap} (ea : evE cl clL act a ρ h = .ok (.bl false) h1) : evE cl clL act (.and a b) ρ h = .ok (.bl false) h1 := by
  show (toB (evE cl clL act a ρ h)).bind _ = _
  rw [ea]; rfl
theorem ite_f {c : Ex} {a : List St} {ρ : Env} {h : Heap} (ec : evE cl clL act c ρ h = .ok (.bl false) h) : evS cl clL act (.ite c a []) ρ h = .nx ρ h := by
  show thenS ρ (trim h (evE cl clL act c ρ h)) _ = _
  rw [ec, trim_same]; rfl
theorem ex_src {e : Ex} {ρ : Env} {h : Heap} {v : Val} {vs : List Val} (ev : evE cl clL act e ρ h = .ok v h) (hi : items? h v = some vs) : ∃ gs, evI cl clL act (.ex e) ρ h = .ok (vs, gs) h ∧ holds h gs := by
  obtain ⟨gs, e1, hd⟩ := src_same hi
  refine ⟨gs, ?_, hd⟩
  show (evE cl clL act e ρ h).bind _ = _
  rw [ev]
  exact e1
/-- a list made on the way -/
theorem ex_tmp {e : Ex} {ρ : Env} {h : Heap} {vs : List Val} (ev : evE cl clL act e ρ h = .ok (.ref h.length) (h ++ [.lst vs])) (f : flats vs = true) : evI cl clL act (.ex e) ρ h = .ok (vs, []) h := by
  show (evE cl clL act e ρ h).bind _ = _
  rw [ev]
  have e1 : src1 (h ++ [.lst vs]) (.ref h.length) = some (vs, [(h.length, vs)]) := by simp [src1, lst?]
  show (ofO (src1 (h ++ [.lst vs]) (.ref h.length)) (h ++ [.lst vs])).bind _ = _
  rw [e1]
  show dropSrc h (vs, [(h.length, vs)]) (h ++ [.lst vs]) = _
  unfold dropSrc
  have t : (h ++ [Ob.lst vs]).take h.length = h := by simp
  rw [if_pos ⟨by rw [t]; exact Kept.refl h, f⟩, t]
  simp
theorem comp_ev {own : List Nat} {t : Tg} {it : It} {cond elt : Ex} {ρ : Env} {h : Heap} {vs : List Val} {gs : List (Nat × List Val)} {f : Val → Val} (ei : evI cl clL act it ρ h = .ok (vs, gs) h) (hd : holds h gs)
    (q : ∀ v ∈ vs, ∃ ρ1, evT cl clL act t v (wipe ρ own) h = .ok ρ1 h ∧ evE cl clL act cond ρ1 h = .ok (.bl true) h ∧ trim h (evE cl clL act elt ρ1 h) = .ok (f v) h) (hl : vs.length ≤ 16777216) :
    evE cl clL act (.comp own t it cond elt) ρ h = .ok (.ref h.length) (h ++ [.lst (vs.map f)]) := by
  show ((evI cl clL act it ρ h).bind fun s h1 => (compL _ s.2 s.1 h1).bind _) = _
  rw [ei]
  simp only [Out.bind_ok]
  rw [compL_map hd vs (f := f) (fun v hv => by
    obtain ⟨ρ1, a1, a2, a3⟩ := q v hv
    simp [a1, a2, a3])]
  simp [hl]
end
end PM

set_option Elab.async false
set_option linter.all false
set_option maxRecDepth 100000
namespace K03
open PySem PM
/-- is_integer: value -/
def c_is_integer : Fn := ⟨1, 1,
     [.ret (.and (.isa (.var 0) .int) (.not (.isa (.var 0) .bool)))]⟩
/-- divisor_of: one other -/
def c_divisor_of : Fn := ⟨2, 2,
     [.asg (.tup [(.name 0), (.name 1)]) (.tup [(.b1 .abs (.var 0)), (.b1 .abs (.var 1))]),
      .while_ (.cmp .gt (.var 1) (.cst (.int 0))) [.asg (.tup [(.name 0), (.name 1)]) (.tup [(.var 1), (.bin .mod (.var 0) (.var 1))])],
      .ret (.var 0)]⟩
/-- fraction_of: top bottom factor -/
def c_fraction_of (x_InvalidNumber f_divisor_of : Nat) : Fn := ⟨2, 3,
     [.ite (.cmp .eq (.var 1) (.cst (.int 0))) [.raise x_InvalidNumber "word" (.cst (.str "zero"))] [],
      .asg (.name 2) (.call f_divisor_of [0, 1] [(.var 0), (.var 1)]),
      .ite (.cmp .lt (.var 1) (.cst (.int 0))) [.asg (.name 2) (.neg (.var 2))] [],
      .ret (.tup [(.bin .fdiv (.var 0) (.var 2)), (.bin .fdiv (.var 1) (.var 2))])]⟩
/-- is_fraction: value item -/
def c_is_fraction (f_is_integer f_divisor_of : Nat) : Fn := ⟨1, 2,
     [.ite (.or (.not (.isa (.var 0) .tuple)) (.or (.cmp .ne (.b1 .len (.var 0)) (.cst (.int 2))) (.not (.b1 .all (.comp [1] (.name 1) (.ex (.var 0)) (.cst (.bl true)) (.call f_is_integer [0] [(.var 1)])))))) [.ret (.cst (.bl false))] [],
      .ret (.and (.cmp .gt (.idx (.var 0) (.cst (.int 1))) (.cst (.int 0))) (.cmp .eq (.call f_divisor_of [0, 1] [(.idx (.var 0) (.cst (.int 0))), (.idx (.var 0) (.cst (.int 1)))]) (.cst (.int 1))))]⟩
/-- plus: one other -/
def c_plus (f_fraction_of : Nat) : Fn := ⟨2, 2,
     [.ret (.call f_fraction_of [0, 1] [(.bin .add (.bin .mul (.idx (.var 0) (.cst (.int 0))) (.idx (.var 1) (.cst (.int 1)))) (.bin .mul (.idx (.var 1) (.cst (.int 0))) (.idx (.var 0) (.cst (.int 1))))), (.bin .mul (.idx (.var 0) (.cst (.int 1))) (.idx (.var 1) (.cst (.int 1))))])]⟩
/-- minus: one other -/
def c_minus (f_fraction_of : Nat) : Fn := ⟨2, 2,
     [.ret (.call f_fraction_of [0, 1] [(.bin .sub (.bin .mul (.idx (.var 0) (.cst (.int 0))) (.idx (.var 1) (.cst (.int 1)))) (.bin .mul (.idx (.var 1) (.cst (.int 0))) (.idx (.var 0) (.cst (.int 1))))), (.bin .mul (.idx (.var 0) (.cst (.int 1))) (.idx (.var 1) (.cst (.int 1))))])]⟩
/-- times: one other -/
def c_times (f_fraction_of : Nat) : Fn := ⟨2, 2,
     [.ret (.call f_fraction_of [0, 1] [(.bin .mul (.idx (.var 0) (.cst (.int 0))) (.idx (.var 1) (.cst (.int 0)))), (.bin .mul (.idx (.var 0) (.cst (.int 1))) (.idx (.var 1) (.cst (.int 1))))])]⟩
/-- ratio: one other -/
def c_ratio (f_fraction_of : Nat) : Fn := ⟨2, 2,
     [.ret (.call f_fraction_of [0, 1] [(.bin .mul (.idx (.var 0) (.cst (.int 0))) (.idx (.var 1) (.cst (.int 1)))), (.bin .mul (.idx (.var 0) (.cst (.int 1))) (.idx (.var 1) (.cst (.int 0))))])]⟩
/-- less: one other -/
def c_less : Fn := ⟨2, 2,
     [.ret (.cmp .lt (.bin .mul (.idx (.var 0) (.cst (.int 0))) (.idx (.var 1) (.cst (.int 1)))) (.bin .mul (.idx (.var 1) (.cst (.int 0))) (.idx (.var 0) (.cst (.int 1)))))]⟩
/-- least_of: some best item -/
def c_least_of (x_Refused f_less : Nat) : Fn := ⟨1, 3,
     [.ite (.cmp .eq (.b1 .len (.var 0)) (.cst (.int 0))) [.raise x_Refused "word" (.cst (.str "none"))] [],
      .asg (.name 1) (.idx (.var 0) (.cst (.int 0))),
      .for_ (.name 2) (.ex (.var 0)) [.ite (.call f_less [0, 1] [(.var 2), (.var 1)]) [.asg (.name 1) (.var 2)] []],
      .ret (.var 1)]⟩
/-- greatest_of: some best item -/
def c_greatest_of (x_Refused f_less : Nat) : Fn := ⟨1, 3,
     [.ite (.cmp .eq (.b1 .len (.var 0)) (.cst (.int 0))) [.raise x_Refused "word" (.cst (.str "none"))] [],
      .asg (.name 1) (.idx (.var 0) (.cst (.int 0))),
      .for_ (.name 2) (.ex (.var 0)) [.ite (.call f_less [0, 1] [(.var 1), (.var 2)]) [.asg (.name 1) (.var 2)] []],
      .ret (.var 1)]⟩
/-- floor_of: value -/
def c_floor_of : Fn := ⟨1, 1,
     [.ret (.bin .fdiv (.idx (.var 0) (.cst (.int 0))) (.idx (.var 0) (.cst (.int 1))))]⟩
/-- simplest_above: low high wholes whole found -/
def c_simplest_above (f_floor_of f_minus f_ratio f_plus : Nat) : Fn := ⟨2, 5,
     [.asg (.name 2) (.lst []),
      .while_ (.and (.cmp .isnot (.var 1) (.cst .non)) (.cmp .lt (.bin .mul (.call f_floor_of [0] [(.var 1)]) (.idx (.var 0) (.cst (.int 1)))) (.idx (.var 0) (.cst (.int 0))))) [.asg (.name 3) (.call f_floor_of [0] [(.var 0)]),
      .ex (.meth .append (.var 2) [(.var 3)]),
      .asg (.tup [(.name 0), (.name 1)]) (.tup [(.call f_ratio [0, 1] [(.glob "ONE" (.tup [(.int 1), (.int 1)])), (.call f_minus [0, 1] [(.var 1), (.tup [(.var 3), (.cst (.int 1))])])]), (.call f_ratio [0, 1] [(.glob "ONE" (.tup [(.int 1), (.int 1)])), (.call f_minus [0, 1] [(.var 0), (.tup [(.var 3), (.cst (.int 1))])])])])],
      .asg (.name 4) (.tup [(.neg (.call f_floor_of [0] [(.tup [(.neg (.idx (.var 0) (.cst (.int 0)))), (.idx (.var 0) (.cst (.int 1)))])])), (.cst (.int 1))]),
      .for_ (.name 3) (.ex (.rev (.var 2))) [.asg (.name 4) (.call f_plus [0, 1] [(.tup [(.var 3), (.cst (.int 1))]), (.call f_ratio [0, 1] [(.glob "ONE" (.tup [(.int 1), (.int 1)])), (.var 4)])])],
      .ret (.var 4)]⟩
/-- simplest: low high found -/
def c_simplest (f_less x_Refused f_simplest_above : Nat) : Fn := ⟨2, 3,
     [.ite (.and (.cmp .isnot (.var 0) (.cst .non)) (.and (.cmp .isnot (.var 1) (.cst .non)) (.call f_less [0, 1] [(.var 1), (.var 0)]))) [.raise x_Refused "word" (.cst (.str "none"))] [],
      .ite (.and (.cmp .isnot (.var 0) (.cst .non)) (.cmp .gt (.idx (.var 0) (.cst (.int 0))) (.cst (.int 0)))) [.ret (.call f_simplest_above [0, 1] [(.var 0), (.var 1)])] [],
      .ite (.and (.cmp .isnot (.var 1) (.cst .non)) (.cmp .lt (.idx (.var 1) (.cst (.int 0))) (.cst (.int 0)))) [.asg (.name 2) (.call f_simplest_above [0, 1] [(.tup [(.neg (.idx (.var 1) (.cst (.int 0)))), (.idx (.var 1) (.cst (.int 1)))]), (.ite (.cmp .is_ (.var 0) (.cst .non)) (.cst .non) (.tup [(.neg (.idx (.var 0) (.cst (.int 0)))), (.idx (.var 0) (.cst (.int 1)))]))]),
      .ret (.tup [(.neg (.idx (.var 2) (.cst (.int 0)))), (.idx (.var 2) (.cst (.int 1)))])] [],
      .ret (.glob "ZERO" (.tup [(.int 0), (.int 1)]))]⟩
/-- weighed: coefficients point total amount part -/
def c_weighed (f_plus : Nat) : Fn := ⟨2, 5,
     [.asg (.name 2) (.glob "ZERO" (.tup [(.int 0), (.int 1)])),
      .for_ (.tup [(.name 3), (.name 4)]) (.zip (.var 0) (.var 1)) [.ite (.cmp .ne (.var 3) (.cst (.int 0))) [.asg (.name 2) (.call f_plus [0, 1] [(.var 2), (.tup [(.bin .mul (.var 3) (.idx (.var 4) (.cst (.int 0)))), (.idx (.var 4) (.cst (.int 1)))])])] []],
      .ret (.var 2)]⟩
/-- _law_box: _law_script _law_k _law_cell _law_great -/
def c__law_box : Fn := ⟨2, 4,
     [.asg (.name 2) (.bin .add (.bin .mul (.cst (.int 7411)) (.var 1)) (.cst (.int 1304))),
      .ite (.cmp .lt (.var 1) (.b1 .len (.var 0))) [.asg (.name 2) (.b1 .abs (.idx (.var 0) (.var 1)))] [.ite (.cmp .gt (.b1 .len (.var 0)) (.cst (.int 0))) [.asg (.name 2) (.bin .add (.var 2) (.bin .mul (.bin .mod (.b1 .int (.b1 .abs (.idx (.var 0) (.bin .mod (.b1 .int (.var 1)) (.b1 .len (.var 0)))))) (.cst (.int 2147483629))) (.cst (.int 60719))))] []],
      .asg (.name 3) (.b1 .int (.cmp .ge (.var 2) (.bin .pow (.cst (.int 10)) (.cst (.int 18))))),
      .ret (.lst [(.idx (.lst [(.cst (.int 0)), (.var 2)]) (.var 3)), (.bin .add (.bin .mod (.b1 .int (.bin .add (.bin .add (.bin .mul (.bin .mod (.b1 .int (.var 2)) (.cst (.int 2147483629))) (.cst (.int 48271))) (.bin .mul (.cst (.int 30011)) (.var 1))) (.cst (.int 977)))) (.cst (.int 2147483629))) (.cst (.int 1))), (.cst (.int 0))])]⟩
/-- _law_take: _law_box_here _law_many _law_digit _law_raw -/
def c__law_take : Fn := ⟨2, 4,
     [.ite (.cmp .gt (.idx (.var 0) (.cst (.int 0))) (.cst (.int 0))) [.asg (.name 2) (.bin .mod (.b1 .int (.idx (.var 0) (.cst (.int 0)))) (.var 1)),
      .asg (.sub (.var 0) (.cst (.int 0))) (.bin .fdiv (.idx (.var 0) (.cst (.int 0))) (.var 1)),
      .ret (.var 2)] [],
      .asg (.sub (.var 0) (.cst (.int 2))) (.bin .add (.idx (.var 0) (.cst (.int 2))) (.cst (.int 1))),
      .asg (.name 3) (.bin .mod (.b1 .int (.bin .add (.bin .mul (.bin .add (.idx (.var 0) (.cst (.int 1))) (.bin .mul (.cst (.int 99991)) (.idx (.var 0) (.cst (.int 2))))) (.cst (.int 69621))) (.cst (.int 53)))) (.cst (.int 2147483563))),
      .asg (.sub (.var 0) (.cst (.int 1))) (.bin .add (.bin .mod (.b1 .int (.bin .add (.bin .mul (.var 3) (.cst (.int 40692))) (.cst (.int 27011)))) (.cst (.int 2147483629))) (.cst (.int 1))),
      .ret (.bin .mod (.b1 .int (.bin .fdiv (.bin .add (.bin .mul (.var 3) (.cst (.int 2147483647))) (.idx (.var 0) (.cst (.int 1)))) (.cst (.int 8191)))) (.var 1))]⟩
/-- _law_pick: _law_box_here _law_some -/
def c__law_pick (f__law_take : Nat) : Fn := ⟨2, 2,
     [.ret (.idx (.var 1) (.call f__law_take [0, 1] [(.var 0), (.b1 .len (.var 1))]))]⟩
/-- _law_common: _law_numbers _law_found _law_item _law_one _law_other -/
def c__law_common : Fn := ⟨1, 5,
     [.asg (.name 1) (.cst (.int 0)),
      .for_ (.name 2) (.ex (.var 0)) [.asg (.tup [(.name 3), (.name 4)]) (.tup [(.var 1), (.b1 .abs (.var 2))]),
      .while_ (.cmp .gt (.var 4) (.cst (.int 0))) [.asg (.tup [(.name 3), (.name 4)]) (.tup [(.var 4), (.bin .mod (.b1 .int (.var 3)) (.var 4))])],
      .asg (.name 1) (.var 3)],
      .ret (.var 1)]⟩
/-- _law_least: _law_coefficients _law_bound _law_factor _law_item -/
def c__law_least (f__law_common : Nat) : Fn := ⟨2, 4,
     [.asg (.name 2) (.call f__law_common [0] [(.bin .add (.b1 .list (.var 0)) (.lst [(.var 1)]))]),
      .ret (.tup [(.b1 .tuple (.comp [3] (.name 3) (.ex (.var 0)) (.cst (.bl true)) (.bin .fdiv (.var 3) (.var 2)))), (.bin .fdiv (.var 1) (.var 2))])]⟩
/-- _law_fraction: _law_box_here _law_most _law_row -/
def c__law_fraction (f__law_pick f__law_take f__law_least : Nat) : Fn := ⟨1, 3,
     [.asg (.name 1) (.call f__law_pick [0, 1] [(.var 0), (.lst [(.cst (.int 2)), (.cst (.int 5)), (.cst (.int 1000)), (.cst (.int 1000000000))])]),
      .asg (.name 2) (.call f__law_least [0, 1] [(.lst [(.bin .sub (.call f__law_take [0, 1] [(.var 0), (.bin .add (.bin .mul (.cst (.int 2)) (.var 1)) (.cst (.int 1)))]) (.var 1))]), (.bin .add (.cst (.int 1)) (.call f__law_take [0, 1] [(.var 0), (.var 1)]))]),
      .ret (.tup [(.idx (.idx (.var 2) (.cst (.int 0))) (.cst (.int 0))), (.idx (.var 2) (.cst (.int 1)))])]⟩
/-- _law_is: _law_value _law_item -/
def c__law_is (f__law_common : Nat) : Fn := ⟨1, 2,
     [.ite (.or (.not (.isa (.var 0) .tuple)) (.cmp .ne (.b1 .len (.var 0)) (.cst (.int 2)))) [.ret (.cst (.bl false))] [],
      .ite (.not (.b1 .all (.comp [1] (.name 1) (.ex (.var 0)) (.cst (.bl true)) (.and (.isa (.var 1) .int) (.not (.isa (.var 1) .bool)))))) [.ret (.cst (.bl false))] [],
      .ret (.and (.cmp .gt (.idx (.var 0) (.cst (.int 1))) (.cst (.int 0))) (.cmp .eq (.call f__law_common [0] [(.var 0)]) (.cst (.int 1))))]⟩
/-- _law_truth: _law_value _law_due -/
def c__law_truth : Fn := ⟨2, 2,
     [.ret (.and (.isa (.var 0) .bool) (.cmp .eq (.var 0) (.var 1)))]⟩
/-- _law_equals: _law_value _law_top _law_bottom -/
def c__law_equals (f__law_is : Nat) : Fn := ⟨3, 3,
     [.ret (.and (.call f__law_is [0] [(.var 0)]) (.cmp .eq (.bin .mul (.idx (.var 0) (.cst (.int 0))) (.var 2)) (.bin .mul (.var 1) (.idx (.var 0) (.cst (.int 1))))))]⟩
/-- _law_refused: _law_action error -/
def c__law_refused (x_InvalidNumber x_Refused : Nat) : Fn := ⟨1, 2,
     [.try_ [.ex .act] [.mk [x_InvalidNumber] (some 1) [.ret (.tup [(.cst (.str "number")), (.xfld 1 "word")])], .mk [x_Refused] (some 1) [.ret (.tup [(.cst (.str "refused")), (.xfld 1 "word")])]],
      .ret (.cst .non)]⟩
/-- _law_way: _law_box_here _law_left _law_right _law_some _law_k _law_run -/
def c__law_way (f__law_take : Nat) : Fn := ⟨1, 6,
     [.asg (.tup [(.name 1), (.name 2), (.name 3)]) (.tup [(.tup [(.cst (.int 0)), (.cst (.int 1))]), (.tup [(.cst (.int 1)), (.cst (.int 0))]), (.call f__law_take [0, 1] [(.var 0), (.cst (.int 6))])]),
      .for_ (.name 4) (.range1 (.var 3)) [.asg (.name 5) (.bin .add (.cst (.int 1)) (.call f__law_take [0, 1] [(.var 0), (.idx (.lst [(.cst (.int 8)), (.cst (.int 1000))]) (.b1 .int (.and (.cmp .eq (.var 4) (.cst (.int 0))) (.cmp .eq (.call f__law_take [0, 1] [(.var 0), (.cst (.int 4))]) (.cst (.int 0))))))])),
      .ite (.cmp .eq (.bin .mod (.b1 .int (.var 4)) (.cst (.int 2))) (.cst (.int 0))) [.asg (.name 1) (.tup [(.bin .add (.idx (.var 1) (.cst (.int 0))) (.bin .mul (.var 5) (.idx (.var 2) (.cst (.int 0))))), (.bin .add (.idx (.var 1) (.cst (.int 1))) (.bin .mul (.var 5) (.idx (.var 2) (.cst (.int 1)))))])] [.asg (.name 2) (.tup [(.bin .add (.idx (.var 2) (.cst (.int 0))) (.bin .mul (.var 5) (.idx (.var 1) (.cst (.int 0))))), (.bin .add (.idx (.var 2) (.cst (.int 1))) (.bin .mul (.var 5) (.idx (.var 1) (.cst (.int 1)))))])]],
      .ret (.tup [(.tup [(.bin .add (.idx (.var 1) (.cst (.int 0))) (.idx (.var 2) (.cst (.int 0)))), (.bin .add (.idx (.var 1) (.cst (.int 1))) (.idx (.var 2) (.cst (.int 1))))]), (.var 1), (.var 2)])]⟩
/-- _law_end: _law_box_here _law_middle _law_side _law_share _law_other _law_row -/
def c__law_end (f__law_take f__law_least : Nat) : Fn := ⟨3, 6,
     [.asg (.tup [(.name 3), (.name 4)]) (.tup [(.bin .add (.cst (.int 1)) (.call f__law_take [0, 1] [(.var 0), (.cst (.int 4))])), (.call f__law_take [0, 1] [(.var 0), (.cst (.int 5))])]),
      .asg (.name 5) (.call f__law_least [0, 1] [(.lst [(.bin .add (.bin .mul (.var 3) (.idx (.var 1) (.cst (.int 0)))) (.bin .mul (.var 4) (.idx (.var 2) (.cst (.int 0)))))]), (.bin .add (.bin .mul (.var 3) (.idx (.var 1) (.cst (.int 1)))) (.bin .mul (.var 4) (.idx (.var 2) (.cst (.int 1)))))]),
      .ret (.tup [(.idx (.idx (.var 5) (.cst (.int 0))) (.cst (.int 0))), (.idx (.var 5) (.cst (.int 1)))])]⟩
/-- _law_turn: _law_end_here -/
def c__law_turn : Fn := ⟨1, 1,
     [.ite (.cmp .is_ (.var 0) (.cst .non)) [.ret (.cst .non)] [],
      .ret (.tup [(.bin .sub (.cst (.int 0)) (.idx (.var 0) (.cst (.int 0)))), (.idx (.var 0) (.cst (.int 1)))])]⟩
/-- _law_none_less: _law_found _law_low _law_high _law_bottom _law_first _law_top _law_last -/
def c__law_none_less : Fn := ⟨3, 7,
     [.for_ (.name 3) (.range2 (.cst (.int 1)) (.b2 .min (.idx (.var 0) (.cst (.int 1))) (.cst (.int 9)))) [.asg (.name 4) (.bin .sub (.cst (.int 0)) (.bin .fdiv (.bin .sub (.cst (.int 0)) (.bin .mul (.idx (.var 1) (.cst (.int 0))) (.var 3))) (.idx (.var 1) (.cst (.int 1))))),
      .ite (.or (.cmp .is_ (.var 2) (.cst .non)) (.cmp .le (.bin .mul (.var 4) (.idx (.var 2) (.cst (.int 1)))) (.bin .mul (.idx (.var 2) (.cst (.int 0))) (.var 3)))) [.ret (.cst (.bl false))] []],
      .for_ (.name 5) (.range2 (.cst (.int 1)) (.b2 .min (.idx (.var 0) (.cst (.int 0))) (.cst (.int 9)))) [.asg (.name 6) (.bin .fdiv (.bin .mul (.var 5) (.idx (.var 1) (.cst (.int 1)))) (.idx (.var 1) (.cst (.int 0)))),
      .ite (.and (.cmp .gt (.var 6) (.cst (.int 0))) (.or (.cmp .is_ (.var 2) (.cst .non)) (.cmp .le (.bin .mul (.var 5) (.idx (.var 2) (.cst (.int 1)))) (.bin .mul (.idx (.var 2) (.cst (.int 0))) (.var 6))))) [.ret (.cst (.bl false))] []],
      .ret (.cst (.bl true))]⟩
/-- _law_ranges_right: _law_box_here _law_found _law_left _law_right _law_low _law_high _law_over _law_wrong _law_item -/
def c__law_ranges_right (f__law_way f__law_end f__law_take f__law_turn f_simplest f__law_none_less f__law_refused : Nat) : Fn := ⟨1, 9,
     [.asg (.tup [(.name 1), (.name 2), (.name 3)]) (.call f__law_way [0] [(.var 0)]),
      .asg (.tup [(.name 4), (.name 5)]) (.tup [(.call f__law_end [0, 1, 2] [(.var 0), (.var 1), (.var 2)]), (.call f__law_end [0, 1, 2] [(.var 0), (.var 1), (.var 3)])]),
      .ite (.and (.cmp .eq (.idx (.var 3) (.cst (.int 1))) (.cst (.int 0))) (.cmp .eq (.call f__law_take [0, 1] [(.var 0), (.cst (.int 2))]) (.cst (.int 0)))) [.asg (.name 5) (.cst .non)] [],
      .ite (.or (.cmp .ne (.call f_simplest [0, 1] [(.var 4), (.var 5)]) (.var 1)) (.cmp .ne (.call f_simplest [0, 1] [(.call f__law_turn [0] [(.var 5)]), (.call f__law_turn [0] [(.var 4)])]) (.call f__law_turn [0] [(.var 1)]))) [.ret (.cst (.bl false))] [],
      .ite (.or (.cmp .ne (.call f_simplest [0, 1] [(.var 1), (.var 1)]) (.var 1)) (.not (.call f__law_none_less [0, 1, 2] [(.var 1), (.var 4), (.var 5)]))) [.ret (.cst (.bl false))] [],
      .ite (.or (.cmp .ne (.call f_simplest [0, 1] [(.call f__law_turn [0] [(.var 4)]), (.var 5)]) (.tup [(.cst (.int 0)), (.cst (.int 1))])) (.or (.cmp .ne (.call f_simplest [0, 1] [(.cst .non), (.var 5)]) (.tup [(.cst (.int 0)), (.cst (.int 1))])) (.cmp .ne (.call f_simplest [0, 1] [(.call f__law_turn [0] [(.var 4)]), (.cst .non)]) (.tup [(.cst (.int 0)), (.cst (.int 1))])))) [.ret (.cst (.bl false))] [],
      .ite (.or (.cmp .ne (.call f_simplest [0, 1] [(.tup [(.cst (.int 0)), (.cst (.int 1))]), (.var 4)]) (.tup [(.cst (.int 0)), (.cst (.int 1))])) (.or (.cmp .ne (.call f_simplest [0, 1] [(.call f__law_turn [0] [(.var 4)]), (.tup [(.cst (.int 0)), (.cst (.int 1))])]) (.tup [(.cst (.int 0)), (.cst (.int 1))])) (.cmp .ne (.call f_simplest [0, 1] [(.cst .non), (.cst .non)]) (.tup [(.cst (.int 0)), (.cst (.int 1))])))) [.ret (.cst (.bl false))] [],
      .asg (.name 6) (.bin .sub (.cst (.int 0)) (.bin .fdiv (.bin .sub (.cst (.int 0)) (.idx (.var 4) (.cst (.int 0)))) (.idx (.var 4) (.cst (.int 1))))),
      .ite (.or (.cmp .ne (.call f_simplest [0, 1] [(.var 4), (.cst .non)]) (.tup [(.var 6), (.cst (.int 1))])) (.cmp .ne (.call f_simplest [0, 1] [(.cst .non), (.call f__law_turn [0] [(.var 4)])]) (.tup [(.bin .sub (.cst (.int 0)) (.var 6)), (.cst (.int 1))]))) [.ret (.cst (.bl false))] [],
      .asg (.name 7) (.lst [(.lam f__law_refused (.call f_simplest [0, 1] [(.var 4), (.call f__law_turn [0] [(.var 4)])]))]),
      .ite (.and (.cmp .isnot (.var 5) (.cst .non)) (.cmp .ne (.var 5) (.var 4))) [.ex (.meth .append (.var 7) [(.lam f__law_refused (.call f_simplest [0, 1] [(.var 5), (.var 4)]))])] [],
      .ret (.b1 .all (.comp [8] (.name 8) (.ex (.var 7)) (.cst (.bl true)) (.cmp .eq (.var 8) (.tup [(.cst (.str "refused")), (.cst (.str "none"))]))))]⟩
/-- _law_odd: _law_box_here _law_one _law_top _law_bottom _law_some -/
def c__law_odd (f__law_pick : Nat) : Fn := ⟨2, 5,
     [.asg (.tup [(.name 2), (.name 3)]) (.var 1),
      .asg (.name 4) (.lst [(.tup [(.var 2), (.bin .sub (.cst (.int 0)) (.var 3))]), (.tup [(.var 2), (.cst (.int 0))]), (.tup [(.bin .mul (.cst (.int 2)) (.var 2)), (.bin .mul (.cst (.int 2)) (.var 3))]), (.tup [(.cst (.int 0)), (.var 3)]), (.tup [(.cst (.bl true)), (.cst (.int 1))]), (.tup [(.cst (.int 1)), (.cst (.bl true))]), (.lst [(.var 2), (.var 3)]), (.tup [(.var 2)])]),
      .ret (.call f__law_pick [0, 1] [(.var 0), (.bin .add (.var 4) (.lst [(.cst .non), (.cst (.int 0)), (.cst (.int 7)), (.cst (.str "12")), (.tup [(.var 2), (.var 3), (.cst (.int 1))]), (.tup [(.cst .non), (.cst (.int 1))]), (.tup [(.cst (.str "1")), (.cst (.int 1))]), (.dict [] []), (.tup [(.var 3), (.var 2)]), (.tup [(.tup [(.cst (.int 1)), (.cst (.int 2))]), (.cst (.int 1))])]))])]⟩
/-- _law_near_right: _law_box_here _law_many _law_below _law_near _law_far -/
def c__law_near_right (f__law_take f__law_turn f_less f_greatest_of f_least_of : Nat) : Fn := ⟨1, 5,
     [.asg (.tup [(.name 1), (.name 2)]) (.tup [(.bin .sub (.bin .sub (.bin .pow (.cst (.int 10)) (.cst (.int 9))) (.cst (.int 1))) (.call f__law_take [0, 1] [(.var 0), (.cst (.int 1000))])), (.call f__law_take [0, 1] [(.var 0), (.cst (.int 2))])]),
      .asg (.tup [(.name 3), (.name 4)]) (.tup [(.tup [(.bin .sub (.var 1) (.cst (.int 1))), (.var 1)]), (.tup [(.var 1), (.bin .add (.var 1) (.cst (.int 1)))])]),
      .ite (.cmp .eq (.var 2) (.cst (.int 1))) [.asg (.tup [(.name 3), (.name 4)]) (.tup [(.call f__law_turn [0] [(.tup [(.var 1), (.bin .add (.var 1) (.cst (.int 1)))])]), (.call f__law_turn [0] [(.tup [(.bin .sub (.var 1) (.cst (.int 1))), (.var 1)])])])] [],
      .ite (.or (.cmp .isnot (.call f_less [0, 1] [(.var 3), (.var 4)]) (.cst (.bl true))) (.cmp .isnot (.call f_less [0, 1] [(.var 4), (.var 3)]) (.cst (.bl false)))) [.ret (.cst (.bl false))] [],
      .ret (.and (.cmp .eq (.call f_least_of [0] [(.tup [(.var 4), (.var 3), (.var 4)])]) (.var 3)) (.cmp .eq (.call f_greatest_of [0] [(.tup [(.var 3), (.var 4), (.var 3)])]) (.var 4)))]⟩
/-- law: _law_script _law_k _law_box_here _law_one _law_other _law_third _law_a _law_b _law_c _law_d _law_factor _law_wrong _law_some _law_low _law_high _law_amounts _law_top _law_bottom _law_at _law_odd_here _law_item -/
def c_law (f__law_box f__law_fraction f__law_pick f_times f__law_equals f_plus f_fraction_of f_minus f_less f__law_truth f_ratio f__law_refused f_least_of f__law_take f_greatest_of f_weighed f__law_odd f_is_fraction f__law_is f__law_near_right f__law_ranges_right f_simplest : Nat) : Fn := ⟨1, 21,
     [.for_ (.name 1) (.range1 (.bin .add (.cst (.int 3)) (.b1 .int (.cmp .gt (.b1 .len (.var 0)) (.cst (.int 1)))))) [.asg (.name 2) (.call f__law_box [0, 1] [(.var 0), (.var 1)]),
      .asg (.tup [(.name 3), (.name 4), (.name 5)]) (.tup [(.call f__law_fraction [0] [(.var 2)]), (.call f__law_fraction [0] [(.var 2)]), (.call f__law_fraction [0] [(.var 2)])]),
      .asg (.tup [(.tup [(.name 6), (.name 7)]), (.tup [(.name 8), (.name 9)]), (.name 10)]) (.tup [(.var 3), (.var 4), (.call f__law_pick [0, 1] [(.var 2), (.lst [(.cst (.int 1)), (.bin .sub (.cst (.int 0)) (.cst (.int 1))), (.cst (.int 6)), (.bin .sub (.cst (.int 0)) (.cst (.int 35)))])])]),
      .ite (.or (.not (.call f__law_equals [0, 1, 2] [(.call f_plus [0, 1] [(.var 3), (.var 4)]), (.bin .add (.bin .mul (.var 6) (.var 9)) (.bin .mul (.var 8) (.var 7))), (.bin .mul (.var 7) (.var 9))])) (.not (.call f__law_equals [0, 1, 2] [(.call f_times [0, 1] [(.var 3), (.var 4)]), (.bin .mul (.var 6) (.var 8)), (.bin .mul (.var 7) (.var 9))]))) [.ret (.cst (.bl false))] [],
      .ite (.or (.cmp .ne (.call f_plus [1, 0] [(.var 3), (.var 4)]) (.call f_plus [0, 1] [(.var 3), (.var 4)])) (.cmp .ne (.call f_times [1, 0] [(.var 3), (.var 4)]) (.call f_times [0, 1] [(.var 3), (.var 4)]))) [.ret (.cst (.bl false))] [],
      .ite (.or (.not (.call f__law_equals [0, 1, 2] [(.call f_minus [0, 1] [(.var 3), (.var 4)]), (.bin .sub (.bin .mul (.var 6) (.var 9)) (.bin .mul (.var 8) (.var 7))), (.bin .mul (.var 7) (.var 9))])) (.cmp .ne (.call f_fraction_of [0, 1] [(.bin .mul (.var 6) (.var 10)), (.bin .mul (.var 7) (.var 10))]) (.var 3))) [.ret (.cst (.bl false))] [],
      .ite (.ite (.cmp .ne (.var 9) (.cst (.int 9))) (.not (.call f__law_equals [0, 1, 2] [(.call f_fraction_of [1, 0] [(.bin .sub (.var 9) (.cst (.int 9))), (.var 6)]), (.var 6), (.bin .sub (.var 9) (.cst (.int 9)))])) (.cmp .ne (.call f_fraction_of [0, 1] [(.cst (.int 0)), (.bin .sub (.cst (.int 0)) (.var 9))]) (.tup [(.cst (.int 0)), (.cst (.int 1))]))) [.ret (.cst (.bl false))] [],
      .ite (.or (.not (.call f__law_truth [0, 1] [(.call f_less [0, 1] [(.var 3), (.var 4)]), (.cmp .lt (.bin .mul (.var 6) (.var 9)) (.bin .mul (.var 8) (.var 7)))])) (.not (.call f__law_truth [0, 1] [(.call f_less [1, 0] [(.var 3), (.var 4)]), (.cmp .lt (.bin .mul (.var 8) (.var 7)) (.bin .mul (.var 6) (.var 9)))]))) [.ret (.cst (.bl false))] [],
      .ite (.and (.cmp .ne (.var 8) (.cst (.int 0))) (.or (.not (.call f__law_equals [0, 1, 2] [(.call f_ratio [0, 1] [(.var 3), (.var 4)]), (.bin .mul (.var 6) (.var 9)), (.bin .mul (.var 7) (.var 8))])) (.cmp .ne (.call f_ratio [1, 0] [(.var 4), (.var 3)]) (.call f_ratio [0, 1] [(.var 3), (.var 4)])))) [.ret (.cst (.bl false))] [],
      .asg (.name 11) (.lst [(.lam f__law_refused (.call f_ratio [0, 1] [(.var 3), (.tup [(.cst (.int 0)), (.cst (.int 1))])]))]),
      .ex (.meth .append (.var 11) [(.lam f__law_refused (.call f_fraction_of [0, 1] [(.var 6), (.cst (.int 0))]))]),
      .ite (.or (.cmp .ne (.var 11) (.bin .mul (.lst [(.tup [(.cst (.str "number")), (.cst (.str "zero"))])]) (.cst (.int 2)))) (.cmp .ne (.lam f__law_refused (.call f_least_of [0] [(.tup [])])) (.tup [(.cst (.str "refused")), (.cst (.str "none"))]))) [.ret (.cst (.bl false))] [],
      .asg (.name 12) (.slice (.lst [(.var 3), (.var 4), (.var 5), (.var 3), (.var 4), (.var 5)]) (.cst .non) (.bin .add (.cst (.int 1)) (.call f__law_take [0, 1] [(.var 2), (.cst (.int 6))]))),
      .asg (.tup [(.name 13), (.name 14)]) (.tup [(.call f_least_of [0] [(.b1 .tuple (.var 12))]), (.call f_greatest_of [0] [(.b1 .tuple (.var 12))])]),
      .ite (.or (.cmp .notin (.var 13) (.var 12)) (.or (.cmp .notin (.var 14) (.var 12)) (.cmp .ne (.lam f__law_refused (.call f_greatest_of [0] [(.tup [])])) (.tup [(.cst (.str "refused")), (.cst (.str "none"))])))) [.ret (.cst (.bl false))] [],
      .ite (.not (.b1 .all (.comp [20] (.name 20) (.ex (.var 12)) (.cst (.bl true)) (.and (.cmp .le (.bin .mul (.idx (.var 13) (.cst (.int 0))) (.idx (.var 20) (.cst (.int 1)))) (.bin .mul (.idx (.var 20) (.cst (.int 0))) (.idx (.var 13) (.cst (.int 1))))) (.cmp .le (.bin .mul (.idx (.var 20) (.cst (.int 0))) (.idx (.var 14) (.cst (.int 1)))) (.bin .mul (.idx (.var 14) (.cst (.int 0))) (.idx (.var 20) (.cst (.int 1))))))))) [.ret (.cst (.bl false))] [],
      .asg (.name 15) (.b1 .tuple (.comp [20] (.name 20) (.ex (.var 12)) (.cst (.bl true)) (.bin .sub (.call f__law_take [0, 1] [(.var 2), (.cst (.int 9))]) (.cst (.int 4))))),
      .asg (.name 16) (.bin .mul (.idx (.var 15) (.cst (.int 0))) (.idx (.idx (.var 12) (.cst (.int 0))) (.cst (.int 0)))),
      .asg (.name 17) (.idx (.idx (.var 12) (.cst (.int 0))) (.cst (.int 1))),
      .for_ (.name 18) (.range2 (.cst (.int 1)) (.b1 .len (.var 12))) [.asg (.tup [(.name 16), (.name 17)]) (.tup [(.bin .add (.bin .mul (.var 16) (.idx (.idx (.var 12) (.var 18)) (.cst (.int 1)))) (.bin .mul (.bin .mul (.idx (.var 15) (.var 18)) (.idx (.idx (.var 12) (.var 18)) (.cst (.int 0)))) (.var 17))), (.bin .mul (.var 17) (.idx (.idx (.var 12) (.var 18)) (.cst (.int 1))))])],
      .ite (.or (.not (.call f__law_equals [0, 1, 2] [(.call f_weighed [1, 0] [(.b1 .tuple (.var 12)), (.var 15)]), (.var 16), (.var 17)])) (.cmp .ne (.call f_weighed [0, 1] [(.tup []), (.tup [])]) (.tup [(.cst (.int 0)), (.cst (.int 1))]))) [.ret (.cst (.bl false))] [],
      .asg (.name 19) (.call f__law_odd [0, 1] [(.var 2), (.var 3)]),
      .ite (.or (.not (.call f__law_truth [0, 1] [(.call f_is_fraction [0] [(.var 19)]), (.call f__law_is [0] [(.var 19)])])) (.or (.cmp .isnot (.call f_is_fraction [0] [(.var 3)]) (.cst (.bl true))) (.cmp .isnot (.call f_less [0, 1] [(.var 3), (.var 3)]) (.cst (.bl false))))) [.ret (.cst (.bl false))] [],
      .ite (.or (.not (.call f__law_ranges_right [0] [(.var 2)])) (.not (.call f__law_near_right [0] [(.var 2)]))) [.ret (.cst (.bl false))] []],
      .ret (.and (.cmp .eq (.call f_simplest [0, 1] [(.tup [(.cst (.int 31)), (.cst (.int 10))]), (.tup [(.cst (.int 16)), (.cst (.int 5))])]) (.tup [(.cst (.int 16)), (.cst (.int 5))])) (.and (.cmp .is_ (.call f_is_fraction [0] [(.tup [(.cst (.int 0)), (.cst (.int 2))])]) (.cst (.bl false))) (.cmp .is_ (.call f_is_fraction [0] [(.tup [(.cst (.int 0)), (.cst (.int 1))])]) (.cst (.bl true)))))]⟩
abbrev i_is_integer : Nat := 0
abbrev i_divisor_of : Nat := 1
abbrev i_fraction_of : Nat := 2
abbrev i_is_fraction : Nat := 3
abbrev i_plus : Nat := 4
abbrev i_minus : Nat := 5
abbrev i_times : Nat := 6
abbrev i_ratio : Nat := 7
abbrev i_less : Nat := 8
abbrev i_least_of : Nat := 9
abbrev i_greatest_of : Nat := 10
abbrev i_floor_of : Nat := 11
abbrev i_simplest_above : Nat := 12
abbrev i_simplest : Nat := 13
abbrev i_weighed : Nat := 14
abbrev i__law_box : Nat := 15
abbrev i__law_take : Nat := 16
abbrev i__law_pick : Nat := 17
abbrev i__law_common : Nat := 18
abbrev i__law_least : Nat := 19
abbrev i__law_fraction : Nat := 20
abbrev i__law_is : Nat := 21
abbrev i__law_truth : Nat := 22
abbrev i__law_equals : Nat := 23
abbrev i__law_refused : Nat := 24
abbrev i__law_way : Nat := 25
abbrev i__law_end : Nat := 26
abbrev i__law_turn : Nat := 27
abbrev i__law_none_less : Nat := 28
abbrev i__law_ranges_right : Nat := 29
abbrev i__law_odd : Nat := 30
abbrev i__law_near_right : Nat := 31
abbrev i_law : Nat := 32
abbrev x_InvalidNumber : Nat := 0
abbrev x_Refused : Nat := 1
def prog : List Fn := [c_is_integer, c_divisor_of, (c_fraction_of x_InvalidNumber i_divisor_of), (c_is_fraction i_is_integer i_divisor_of), (c_plus i_fraction_of), (c_minus i_fraction_of), (c_times i_fraction_of), (c_ratio i_fraction_of), c_less, (c_least_of x_Refused i_less), (c_greatest_of x_Refused i_less), c_floor_of, (c_simplest_above i_floor_of i_minus i_ratio i_plus), (c_simplest i_less x_Refused i_simplest_above), (c_weighed i_plus), c__law_box, c__law_take, (c__law_pick i__law_take), c__law_common, (c__law_least i__law_common), (c__law_fraction i__law_pick i__law_take i__law_least), (c__law_is i__law_common), c__law_truth, (c__law_equals i__law_is), (c__law_refused x_InvalidNumber x_Refused), (c__law_way i__law_take), (c__law_end i__law_take i__law_least), c__law_turn, c__law_none_less, (c__law_ranges_right i__law_way i__law_end i__law_take i__law_turn i_simplest i__law_none_less i__law_refused), (c__law_odd i__law_pick), (c__law_near_right i__law_take i__law_turn i_less i_greatest_of i_least_of), (c_law i__law_box i__law_fraction i__law_pick i_times i__law_equals i_plus i_fraction_of i_minus i_less i__law_truth i_ratio i__law_refused i_least_of i__law_take i_greatest_of i_weighed i__law_odd i_is_fraction i__law_is i__law_near_right i__law_ranges_right i_simplest)]
end K03

set_option Elab.async false
set_option linter.all false
set_option maxRecDepth 10000
namespace K03
open PM
section
variable {P : List Fn} {h : Heap}
theorem a_less {f : Nat} (hf : P[f]? = some c_less) {a b c d : Int} (h1 : a.natAbs.log2 + d.natAbs.log2 < 1000000) (h2 : c.natAbs.log2 + b.natAbs.log2 < 1000000) :
    Ans P 1 f [.tup [.int a, .int b], .tup [.int c, .int d]] h (.ok (.bl (decide (a * d < c * b))) h) := by
  refine ans_of hf rfl fun m hm => ?_
  simp [c_less, evSs, evS, evE, evEs, start, idxV, items?, place, bin, binI, cmpB, h1, h2, fin]
theorem gcd_loop {cl : Nat → List Val → Heap → Out Val} {clL : Nat → (Heap → Out Val) → Heap → Out Val} {act : Heap → Out Val} : ∀ (b a : Nat),
    whL (fun ρ h => toB (trim h (evE cl clL act (.cmp .gt (.var 1) (.cst (.int 0))) ρ h))) (evSs cl clL act [.asg (.tup [(.name 0), (.name 1)]) (.tup [(.var 1), (.bin .mod (.var 0) (.var 1))])]) [.v (.int a), .v (.int b)] h = .nx [.v (.int (Nat.gcd a b)), .v (.int 0)] h := by
  intro b
  induction b using Nat.strongRecOn with
  | _ b ih =>
    intro a
    by_cases z : b = 0
    · subst z
      rw [whL_stop (h1 := h) (by simp [evE, cmpB])]
      simp
    · have hp : (0 : Int) < b := by omega
      have e : Int.fmod (a : Int) (b : Int) = ((a % b : Nat) : Int) := by rw [Int.fmod_eq_emod_of_nonneg _ (by omega)]; rfl
      have g : Nat.gcd b (a % b) = Nat.gcd a b := by rw [Nat.gcd_comm b, ← Nat.gcd_rec, Nat.gcd_comm]
      refine whL_step (ρ2 := [.v (.int b), .v (.int (a % b : Nat))]) (h1 := h) (h2 := h) (by have hp2 : 0 < b := Nat.pos_of_ne_zero z; simp [evE, cmpB, hp2]) (by simp [evE, evSs, evS, evEs, bin, binI, evT, evTs, keep, z, e]) ?_
      rw [ih (a % b) (Nat.mod_lt _ (by omega)) b, g]
theorem a_div {f : Nat} (hf : P[f]? = some c_divisor_of) {a b : Int} : Ans P 1 f [.int a, .int b] h (.ok (.int (Int.gcd a b)) h) := by
  refine ans_of hf rfl fun m hm => ?_
  have ea : ∀ x : Int, (if x < 0 then -x else x) = (x.natAbs : Int) := fun x => by split <;> omega
  have g := gcd_loop (cl := call P m) (clL := runL P) (act := fun _ => .bad) (h := h) b.natAbs a.natAbs
  have e1 : evS (call P m) (runL P) (fun _ => .bad) (.asg (.tup [(.name 0), (.name 1)]) (.tup [(.b1 .abs (.var 0)), (.b1 .abs (.var 1))])) [.v (.int a), .v (.int b)] h = .nx [.v (.int a.natAbs), .v (.int b.natAbs)] h := by
    simp [evS, evE, evEs, evT, evTs, bl1, keep, ea]
  simp only [c_divisor_of, start, evSs, List.map_cons, List.map_nil, List.length_cons, List.length_nil, Nat.sub_self, List.replicate_zero, List.append_nil, e1]
  rw [show evS (call P m) (runL P) (fun _ => .bad) (.while_ (.cmp .gt (.var 1) (.cst (.int 0))) [.asg (.tup [(.name 0), (.name 1)]) (.tup [(.var 1), (.bin .mod (.var 0) (.var 1))])]) [.v (.int a.natAbs), .v (.int b.natAbs)] h = _ from g]
  simp [evS, evE, fin, Int.gcd]
/-- the fraction in lowest terms -/
def red (t b : Int) : Val := .tup [.int (t.fdiv (if b < 0 then -(Int.gcd t b : Int) else Int.gcd t b)), .int (b.fdiv (if b < 0 then -(Int.gcd t b : Int) else Int.gcd t b))]
def exZ (x : Nat) : Exn := ⟨x, "word", .str "zero"⟩
theorem a_frac0 {f x fd : Nat} (hf : P[f]? = some (c_fraction_of x fd)) {t : Int} : Ans P 1 f [.int t, .int 0] h (.exc (exZ x) h) := by
  refine ans_of hf rfl fun m hm => ?_
  simp [c_fraction_of, evSs, evS, evE, evEs, evT, evTs, start, keep, fin, idxV, items?, lst?, place, bin, binI, cmpB, bl1, isaB, List.set, setIx, heq, Val.eqb, veq, exZ]
theorem a_frac {f x fd : Nat} (hf : P[f]? = some (c_fraction_of x fd)) (hd : P[fd]? = some c_divisor_of) {t b : Int} (hb : b ≠ 0) (hs : (Int.gcd t b).log2 < 9000) : Ans P 2 f [.int t, .int b] h (.ok (red t b) h) := by
  refine ans_of hf rfl fun m hm => ?_
  have e := a_div hd (h := h) (a := t) (b := b) m hm
  have g0 : Int.gcd t b ≠ 0 := fun z => hb (Int.gcd_eq_zero_iff.mp z).2
  by_cases n : b < 0
  · simp [c_fraction_of, evSs, evS, evE, evEs, evT, evTs, start, keep, fin, idxV, items?, lst?, place, bin, binI, cmpB, bl1, isaB, List.set, setIx, heq, Val.eqb, veq, hb, permute, e, n, red, g0, hs]
  · simp [c_fraction_of, evSs, evS, evE, evEs, evT, evTs, start, keep, fin, idxV, items?, lst?, place, bin, binI, cmpB, bl1, isaB, List.set, setIx, heq, Val.eqb, veq, hb, permute, e, n, red, g0, hs]
end
/-- small enough to multiply -/
def S (a : Int) : Prop := a.natAbs < 2 ^ 400
theorem S.two {a b : Int} (ha : S a) (hb : S b) : a.natAbs.log2 + b.natAbs.log2 < 1000000 := by
  have h1 := log_lt ha (by omega)
  have h2 := log_lt hb (by omega)
  omega
theorem gcd_log {t b : Int} (hb : b ≠ 0) (h : b.natAbs < 2 ^ 8000) : (Int.gcd t b).log2 < 9000 := by
  have h1 : Int.gcd t b ≤ b.natAbs := Nat.le_of_dvd (by omega) (Nat.gcd_dvd_right _ _)
  have h2 : Int.gcd t b ≠ 0 := fun z => hb (Int.gcd_eq_zero_iff.mp z).2
  have := (Nat.log2_lt h2).mpr (Nat.lt_of_le_of_lt h1 h)
  omega
theorem S.mul {a b : Int} (ha : S a) (hb : S b) : (a * b).natAbs < 2 ^ 8000 := by
  rw [Int.natAbs_mul]
  refine Nat.lt_of_lt_of_le (Nat.mul_lt_mul'' ha hb) ?_
  rw [← Nat.pow_add]
  exact Nat.pow_le_pow_right (by omega) (by omega)
section
variable {P : List Fn} {h : Heap} {f x fd ff : Nat}
theorem a_plus (hf : P[f]? = some (c_plus ff)) (hff : P[ff]? = some (c_fraction_of x fd)) (hd : P[fd]? = some c_divisor_of) {a b c d : Int} (sa : S a) (sb : S b) (sc : S c) (sd : S d) (hb : b ≠ 0) (hd0 : d ≠ 0) :
    Ans P 3 f [.tup [.int a, .int b], .tup [.int c, .int d]] h (.ok (red (a * d + c * b) (b * d)) h) := by
  refine ans_of hf rfl fun m hm => ?_
  have e := a_frac hff hd (h := h) (t := a * d + c * b) (b := b * d) (Int.mul_ne_zero hb hd0) (gcd_log (Int.mul_ne_zero hb hd0) (sb.mul sd)) m hm
  simp [c_plus, evSs, evS, evE, evEs, evT, evTs, start, keep, fin, idxV, items?, lst?, place, bin, binI, cmpB, bl1, isaB, List.set, setIx, permute, sa.two sd, sc.two sb, sb.two sd, e]
theorem a_minus (hf : P[f]? = some (c_minus ff)) (hff : P[ff]? = some (c_fraction_of x fd)) (hd : P[fd]? = some c_divisor_of) {a b c d : Int} (sa : S a) (sb : S b) (sc : S c) (sd : S d) (hb : b ≠ 0) (hd0 : d ≠ 0) :
    Ans P 3 f [.tup [.int a, .int b], .tup [.int c, .int d]] h (.ok (red (a * d - c * b) (b * d)) h) := by
  refine ans_of hf rfl fun m hm => ?_
  have e := a_frac hff hd (h := h) (t := a * d - c * b) (b := b * d) (Int.mul_ne_zero hb hd0) (gcd_log (Int.mul_ne_zero hb hd0) (sb.mul sd)) m hm
  simp [c_minus, evSs, evS, evE, evEs, evT, evTs, start, keep, fin, idxV, items?, lst?, place, bin, binI, cmpB, bl1, isaB, List.set, setIx, permute, sa.two sd, sc.two sb, sb.two sd, e]
theorem a_times (hf : P[f]? = some (c_times ff)) (hff : P[ff]? = some (c_fraction_of x fd)) (hd : P[fd]? = some c_divisor_of) {a b c d : Int} (sa : S a) (sb : S b) (sc : S c) (sd : S d) (hb : b ≠ 0) (hd0 : d ≠ 0) :
    Ans P 3 f [.tup [.int a, .int b], .tup [.int c, .int d]] h (.ok (red (a * c) (b * d)) h) := by
  refine ans_of hf rfl fun m hm => ?_
  have e := a_frac hff hd (h := h) (t := a * c) (b := b * d) (Int.mul_ne_zero hb hd0) (gcd_log (Int.mul_ne_zero hb hd0) (sb.mul sd)) m hm
  simp [c_times, evSs, evS, evE, evEs, evT, evTs, start, keep, fin, idxV, items?, lst?, place, bin, binI, cmpB, bl1, isaB, List.set, setIx, permute, sa.two sc, sb.two sd, e]
theorem a_ratio (hf : P[f]? = some (c_ratio ff)) (hff : P[ff]? = some (c_fraction_of x fd)) (hd : P[fd]? = some c_divisor_of) {a b c d : Int} (sa : S a) (sb : S b) (sc : S c) (sd : S d) (hb : b ≠ 0) (hc0 : c ≠ 0) :
    Ans P 3 f [.tup [.int a, .int b], .tup [.int c, .int d]] h (.ok (red (a * d) (b * c)) h) := by
  refine ans_of hf rfl fun m hm => ?_
  have e := a_frac hff hd (h := h) (t := a * d) (b := b * c) (Int.mul_ne_zero hb hc0) (gcd_log (Int.mul_ne_zero hb hc0) (sb.mul sc)) m hm
  simp [c_ratio, evSs, evS, evE, evEs, evT, evTs, start, keep, fin, idxV, items?, lst?, place, bin, binI, cmpB, bl1, isaB, List.set, setIx, permute, sa.two sd, sb.two sc, e]
theorem a_ratio0 (hf : P[f]? = some (c_ratio ff)) (hff : P[ff]? = some (c_fraction_of x fd)) {a b d : Int} (sa : S a) (sb : S b) (sd : S d) :
    Ans P 2 f [.tup [.int a, .int b], .tup [.int 0, .int d]] h (.exc (exZ x) h) := by
  refine ans_of hf rfl fun m hm => ?_
  have e := a_frac0 hff (h := h) (t := a * d) m hm
  have lb : b.natAbs.log2 < 1000000 := by have := log_lt sb (by omega); omega
  simp [c_ratio, evSs, evS, evE, evEs, evT, evTs, start, keep, fin, idxV, items?, lst?, place, bin, binI, cmpB, bl1, isaB, List.set, setIx, permute, sa.two sd, lb, e]
theorem a_floor (hf : P[f]? = some c_floor_of) {a b : Int} (sb : S b) (hb : b ≠ 0) : Ans P 1 f [.tup [.int a, .int b]] h (.ok (.int (a.fdiv b)) h) := by
  refine ans_of hf rfl fun m hm => ?_
  have l : b.natAbs.log2 < 9000 := by have := log_lt sb (by omega); omega
  simp [c_floor_of, evSs, evS, evE, evEs, evT, evTs, start, keep, fin, idxV, items?, lst?, place, bin, binI, cmpB, bl1, isaB, List.set, setIx, hb, l]
/-! ### the law's helpers -/
def Bx (n : Nat) (x y z : Int) : Prop := 0 ≤ x ∧ 0 ≤ y ∧ y < 2 ^ 40 ∧ 0 ≤ z ∧ z + n ≤ 2 ^ 40
abbrev bxL (x y z : Int) : Ob := .lst [.int x, .int y, .int z]
theorem log_le {a : Int} {k : Nat} (h0 : 0 ≤ a) (h : a < 2 ^ k) (hk : 0 < k) : a.natAbs.log2 < k := by
  refine log_lt ?_ hk
  have e : (a.natAbs : Int) = a := by omega
  have : (a.natAbs : Int) < ((2 ^ k : Nat) : Int) := by rw [e]; simpa using h
  exact Int.ofNat_lt.mp this
theorem nlog {n k : Nat} (h : n < 2 ^ k) (hk : 0 < k) : n.log2 < k := by
  by_cases z : n = 0
  · rw [z]; simpa using hk
  · exact (Nat.log2_lt z).mpr h
theorem log_sum {a b : Int} (ha : 0 ≤ a) (hb : 0 ≤ b) (h1 : a < 2 ^ 200) (h2 : b < 2 ^ 200) : a.natAbs.log2 + b.natAbs.log2 < 1000000 := by
  have := log_le ha h1 (by omega)
  have := log_le hb h2 (by omega)
  omega
theorem a_take (hf : P[f]? = some c__law_take) {b : Nat} {n : Nat} {x y z q : Int} (hb : h[b]? = some (bxL x y z)) (bx : Bx (n + 1) x y z) (hq : 0 < q) (hq2 : q < 2 ^ 100) :
    ∃ d x' y' z', 0 ≤ d ∧ d < q ∧ Bx n x' y' z' ∧ Ans P 1 f [.ref b, .int q] h (.ok (.int d) (h.set b (bxL x' y' z'))) := by
  obtain ⟨b1, b2, b3, b4, b5⟩ := bx
  have hbl : b < h.length := (List.getElem?_eq_some_iff.mp hb).1
  have lq : q.natAbs.log2 < 9000 := by have := log_le (k := 100) (by omega) hq2 (by omega); omega
  have q0 : q ≠ 0 := by omega
  by_cases c : 0 < x
  · refine ⟨x.fmod q, x.fdiv q, y, z, Int.fmod_nonneg_of_pos _ hq, Int.fmod_lt_of_pos _ hq, ⟨Int.fdiv_nonneg b1 (by omega), b2, b3, b4, by omega⟩, ans_of hf rfl fun m hm => ?_⟩
    simp [c__law_take, evSs, evS, evE, evEs, evT, evTs, start, keep, fin, idxV, items?, lst?, place, bin, binI, cmpB, bl1, isaB, List.set, setIx, hb, c, q0, lq]
  · have l1 : Nat.log2 99991 + (z + 1).natAbs.log2 < 1000000 := by have := nlog (n := 99991) (k := 60) (by decide) (by decide); have := log_le (a := z + 1) (k := 200) (by omega) (by omega) (by omega); omega
    have l2 : (y + 99991 * (z + 1)).natAbs.log2 + Nat.log2 69621 < 1000000 := by have := nlog (n := 69621) (k := 60) (by decide) (by decide); have := log_le (a := y + 99991 * (z + 1)) (k := 200) (by omega) (by omega) (by omega); omega
    obtain ⟨raw, er⟩ : ∃ raw, raw = Int.fmod ((y + 99991 * (z + 1)) * 69621 + 53) 2147483563 := ⟨_, rfl⟩
    have hs : ∀ o : Ob, (h.set b o)[b]? = some o := fun o => List.getElem?_set_self hbl
    have r1 : 0 ≤ raw := er ▸ Int.fmod_nonneg_of_pos _ (by omega)
    have r2 : raw < 2147483563 := er ▸ Int.fmod_lt_of_pos _ (by omega)
    have l3 : raw.natAbs.log2 + Nat.log2 40692 < 1000000 := by have := nlog (n := 40692) (k := 60) (by decide) (by decide); have := log_le (a := raw) (k := 200) (by omega) (by omega) (by omega); omega
    have l5 : Nat.log2 8191 < 9000 := by have := nlog (n := 8191) (k := 60) (by decide) (by decide); omega
    have l4 : raw.natAbs.log2 + Nat.log2 2147483647 < 1000000 := by have := nlog (n := 2147483647) (k := 60) (by decide) (by decide); have := log_le (a := raw) (k := 200) (by omega) (by omega) (by omega); omega
    obtain ⟨y', ey⟩ : ∃ y', y' = Int.fmod (raw * 40692 + 27011) 2147483629 + 1 := ⟨_, rfl⟩
    have y1 : 0 ≤ y' := by have := Int.fmod_nonneg_of_pos (raw * 40692 + 27011) (b := 2147483629) (by omega); omega
    have y2 : y' < 2 ^ 40 := by have := Int.fmod_lt_of_pos (raw * 40692 + 27011) (b := 2147483629) (by omega); omega
    refine ⟨Int.fmod (Int.fdiv (raw * 2147483647 + y') 8191) q, x, y', z + 1, Int.fmod_nonneg_of_pos _ hq, Int.fmod_lt_of_pos _ hq, ⟨b1, y1, y2, by omega, by omega⟩, ans_of hf rfl fun m hm => ?_⟩
    simp [c__law_take, evSs, evS, evE, evEs, evT, evTs, start, keep, fin, idxV, items?, lst?, place, bin, binI, cmpB, bl1, isaB, List.set, setIx, hb, c, q0, l1, l2, ← er, l3, l4, l5, ← ey, hs, lq]
end
end K03

set_option Elab.async false
set_option linter.all false
set_option maxRecDepth 10000
namespace K03
open PM
section
variable {P : List Fn} {h : Heap} {f : Nat}
def gcdF (l : List Int) (g : Nat) : Nat := l.foldl (fun (g : Nat) x => Nat.gcd g x.natAbs) g
def gcdL (l : List Int) : Nat := gcdF l 0
theorem gcd_loop2 {cl : Nat → List Val → Heap → Out Val} {clL : Nat → (Heap → Out Val) → Heap → Out Val} {act : Heap → Out Val} {v1 v2 v3 : Sl} : ∀ (b a : Nat),
    whL (fun ρ h => toB (trim h (evE cl clL act (.cmp .gt (.var 4) (.cst (.int 0))) ρ h))) (evSs cl clL act [.asg (.tup [(.name 3), (.name 4)]) (.tup [(.var 4), (.bin .mod (.b1 .int (.var 3)) (.var 4))])]) [v1, v2, v3, .v (.int a), .v (.int b)] h = .nx [v1, v2, v3, .v (.int (Nat.gcd a b)), .v (.int 0)] h := by
  intro b
  induction b using Nat.strongRecOn with
  | _ b ih =>
    intro a
    by_cases z : b = 0
    · subst z
      rw [whL_stop (h1 := h) (by simp [evE, cmpB])]
      simp
    · have e : Int.fmod (a : Int) (b : Int) = ((a % b : Nat) : Int) := by rw [Int.fmod_eq_emod_of_nonneg _ (by omega)]; rfl
      have g : Nat.gcd b (a % b) = Nat.gcd a b := by rw [Nat.gcd_comm b, ← Nat.gcd_rec, Nat.gcd_comm]
      refine whL_step (ρ2 := [v1, v2, v3, .v (.int b), .v (.int (a % b : Nat))]) (h1 := h) (h2 := h) (by have hp2 : 0 < b := Nat.pos_of_ne_zero z; simp [evE, cmpB, hp2]) (by simp [evE, evSs, evS, evEs, bin, binI, evT, evTs, keep, z, e, bl1]) ?_
      rw [ih (a % b) (Nat.mod_lt _ (by omega)) b, g]
theorem gcd_while {cl : Nat → List Val → Heap → Out Val} {clL : Nat → (Heap → Out Val) → Heap → Out Val} {act : Heap → Out Val} {v1 v2 v3 : Sl} (b a : Nat) :
    evS cl clL act (.while_ (.cmp .gt (.var 4) (.cst (.int 0))) [.asg (.tup [(.name 3), (.name 4)]) (.tup [(.var 4), (.bin .mod (.b1 .int (.var 3)) (.var 4))])]) [v1, v2, v3, .v (.int a), .v (.int b)] h = .nx [v1, v2, v3, .v (.int (Nat.gcd a b)), .v (.int 0)] h := gcd_loop2 b a
theorem common_for {m : Nat} {v0 : Sl} {gs : List (Nat × List Val)} (hd : holds h gs) : ∀ (l : List Int) (g : Nat) (s2 s3 s4 : Sl), ∃ t2 t3 t4,
    forL (evT (call P m) (runL P) (fun _ => .bad) (.name 2)) (evSs (call P m) (runL P) (fun _ => .bad) [.asg (.tup [(.name 3), (.name 4)]) (.tup [(.var 1), (.b1 .abs (.var 2))]),
      .while_ (.cmp .gt (.var 4) (.cst (.int 0))) [.asg (.tup [(.name 3), (.name 4)]) (.tup [(.var 4), (.bin .mod (.b1 .int (.var 3)) (.var 4))])],
      .asg (.name 1) (.var 3)]) gs (l.map .int) [v0, .v (.int g), s2, s3, s4] h = .nx [v0, .v (.int (gcdF l g)), t2, t3, t4] h
  | [], g, s2, s3, s4 => ⟨s2, s3, s4, by rw [List.map_nil, forL, if_pos hd]; rfl⟩
  | x :: l, g, s2, s3, s4 => by
    obtain ⟨t2, t3, t4, e⟩ := common_for hd l (Nat.gcd g x.natAbs) (.v (.int x)) (.v (.int (Nat.gcd g x.natAbs))) (.v (.int 0))
    refine ⟨t2, t3, t4, ?_⟩
    have ea : (if x < 0 then -x else x) = (x.natAbs : Int) := by split <;> omega
    rw [List.map_cons, forL, if_pos hd]
    have e1 : evT (call P m) (runL P) (fun _ => .bad) (.name 2) (.int x) [v0, .v (.int g), s2, s3, s4] h = .ok [v0, .v (.int g), .v (.int x), s3, s4] h := by simp [evT]
    rw [e1]
    dsimp only
    rw [ss_nx (ρ1 := [v0, .v (.int g), .v (.int x), .v (.int g), .v (.int x.natAbs)]) (h1 := h) (by simp [evS, evE, evEs, evT, evTs, bl1, keep, ea]) (ss_nx (gcd_while x.natAbs g) (ss_nx (ρ1 := [v0, .v (.int (Nat.gcd g x.natAbs)), .v (.int x), .v (.int (Nat.gcd g x.natAbs)), .v (.int 0)]) (h1 := h) (by simp [evS, evE, evT, keep]) rfl))]
    exact e
theorem a_common (hf : P[f]? = some c__law_common) {s : Val} {l : List Int} (hs : items? h s = some (l.map .int)) : Ans P 1 f [s] h (.ok (.int (gcdL l)) h) := by
  refine ans_of hf rfl fun m hm => ?_
  obtain ⟨gs, e1, hd⟩ := src_same hs
  obtain ⟨t2, t3, t4, e⟩ := common_for (P := P) (m := m) (v0 := .v s) hd l 0 .no .no .no
  have ef : evS (call P m) (runL P) (fun _ => .bad) (.for_ (.name 2) (.ex (.var 0)) [.asg (.tup [(.name 3), (.name 4)]) (.tup [(.var 1), (.b1 .abs (.var 2))]),
      .while_ (.cmp .gt (.var 4) (.cst (.int 0))) [.asg (.tup [(.name 3), (.name 4)]) (.tup [(.var 4), (.bin .mod (.b1 .int (.var 3)) (.var 4))])],
      .asg (.name 1) (.var 3)]) [.v s, .v (.int (0 : Nat)), .no, .no, .no] h = .nx [.v s, .v (.int (gcdL l)), t2, t3, t4] h := by
    show (match ((ofO (src1 h s) h).bind fun s k => dropSrc h s k) with | .ok s h1 => forL _ _ s.2 s.1 _ h1 | .exc x k => .exc x _ k | .bad => .bad) = _
    rw [e1]
    exact e
  show fin h (evSs (call P m) (runL P) (fun _ => .bad) c__law_common.body [.v s, .no, .no, .no, .no] h) = _
  rw [show evSs (call P m) (runL P) (fun _ => .bad) c__law_common.body [.v s, .no, .no, .no, .no] h = .rt (.int (gcdL l)) h from
    ss_nx (ρ1 := [.v s, .v (.int (0 : Nat)), .no, .no, .no]) (h1 := h) (by simp [evS, evE, evT, keep]) (ss_nx ef (ss_rt (by simp [evS, evE])))]
  simp [fin]
end
end K03

set_option Elab.async false
set_option linter.all false
set_option maxRecDepth 10000
namespace K03
open PM
section
variable {P : List Fn} {h : Heap} {f ft : Nat}
theorem set_len {b : Nat} {o : Ob} : (h.set b o).length = h.length := by simp
theorem a_pick (hf : P[f]? = some (c__law_pick ft)) (ht : P[ft]? = some c__law_take) {b n : Nat} {x y z : Int} {s : Val} {vs : List Val} (hb : h[b]? = some (bxL x y z)) (bx : Bx (n + 1) x y z) (hs : ∀ o, items? (h.set b o) s = some vs) (hs0 : items? h s = some vs) (h0 : 0 < vs.length) (h1 : vs.length < 2 ^ 30) :
    ∃ (k : Nat) (v : Val) (x' y' z' : Int), vs[k]? = some v ∧ Bx n x' y' z' ∧ Ans P 2 f [.ref b, s] h (.ok v (h.set b (bxL x' y' z'))) := by
  obtain ⟨d, x', y', z', d0, d1, b', e⟩ := a_take ht hb bx (q := vs.length) (by omega) (by omega)
  obtain ⟨v, ev⟩ : ∃ v, vs[d.toNat]? = some v := ⟨vs[d.toNat]'(by omega), by rw [List.getElem?_eq_getElem]⟩
  refine ⟨d.toNat, v, x', y', z', ev, b', ans_of hf rfl fun m hm => ?_⟩
  have e1 := e m hm
  have e2 := idx_items (hs (bxL x' y' z')) d0 ev
  have e3 := len_items hs0
  have t1 : ∀ w : Val, trim h (.ok w (h.set b (bxL x' y' z'))) = .ok w (h.set b (bxL x' y' z')) := fun w => trim_len set_len w
  simp [c__law_pick, evSs, evS, evE, evEs, start, fin, permute, e3, e1, t1, e2]
/-! ### fractions of the law -/
theorem a_truth (hf : P[f]? = some c__law_truth) {a b : Bool} : Ans P 1 f [.bl a, .bl b] h (.ok (.bl (a == b)) h) := by
  refine ans_of hf rfl fun m hm => ?_
  simp [c__law_truth, evSs, evS, evE, evEs, evT, evTs, start, keep, fin, idxV, items?, lst?, place, bin, binI, cmpB, bl1, isaB, List.set, setIx, heq, Val.eqb, veq]
theorem a_turn (hf : P[f]? = some c__law_turn) {a b : Int} : Ans P 1 f [.tup [.int a, .int b]] h (.ok (.tup [.int (0 - a), .int b]) h) := by
  refine ans_of hf rfl fun m hm => ?_
  simp [c__law_turn, evSs, evS, evE, evEs, evT, evTs, start, keep, fin, idxV, items?, lst?, place, bin, binI, cmpB, bl1, isaB, List.set, setIx]
theorem a_turnN (hf : P[f]? = some c__law_turn) : Ans P 1 f [.non] h (.ok .non h) := by
  refine ans_of hf rfl fun m hm => ?_
  simp [c__law_turn, evSs, evS, evE, evEs, evT, evTs, start, keep, fin, idxV, items?, lst?, place, bin, binI, cmpB, bl1, isaB, List.set, setIx]
/-- (a, b) in lowest terms -/
def Low (a b : Int) : Prop := 0 < b ∧ Int.gcd a b = 1
theorem a_is (hf : P[f]? = some (c__law_is ft)) (hc : P[ft]? = some c__law_common) {a b : Int} (lo : Low a b) : Ans P 2 f [.tup [.int a, .int b]] h (.ok (.bl true) h) := by
  refine ans_of hf rfl fun m hm => ?_
  have e := a_common hc (h := h) (s := .tup [.int a, .int b]) (l := [a, b]) rfl m hm
  have g : gcdL [a, b] = 1 := by
    have := lo.2
    simpa [gcdL, gcdF, Int.gcd] using this
  rw [g] at e
  obtain ⟨gs, e1, hd⟩ := src_same (h := h) (v := .tup [.int a, .int b]) rfl
  have ec : evE (call P m) (runL P) (fun _ => .bad) (.comp [1] (.name 1) (.ex (.var 0)) (.cst (.bl true)) (.and (.isa (.var 1) .int) (.not (.isa (.var 1) .bool)))) [.v (.tup [.int a, .int b]), .no] h = .ok (.ref h.length) (h ++ [.lst [.bl true, .bl true]]) := by
    show (((ofO (src1 h (.tup [.int a, .int b])) h).bind fun s k => dropSrc h s k).bind fun s h1 => (compL _ s.2 s.1 h1).bind _) = _
    rw [e1]
    simp [compL, hd, evT, evE, wipe, isaB]
  have l0 : lo.1 = lo.1 := rfl
  have hp : 0 < b := lo.1
  have t2 : trim h (.ok (.ref h.length) (h ++ [.lst [.bl true, .bl true]])) = .ok (.ref h.length) (h ++ [.lst [.bl true, .bl true]]) := trim_new h _
  simp [c__law_is, evSs, evS, start, fin, ↓ec, t2, evE, evEs, isaB, items?, lst?, bl1, cmpB, heq, Val.eqb, veq, permute, e, place, idxV, hp, blOf]
end
end K03

set_option Elab.async false
set_option linter.all false
set_option maxRecDepth 10000
namespace K03
open PM
section
variable {P : List Fn} {h : Heap} {f fc ft fp fl : Nat}
/-- in lowest terms, a form's one coefficient and bound -/
abbrev lowT (x B : Int) : Val := .tup [.tup [.int (x.fdiv (Int.gcd x B))], .int (B.fdiv (Int.gcd x B))]
theorem gcdL2 (x B : Int) : gcdL [x, B] = Int.gcd x B := by simp [gcdL, gcdF, Int.gcd]
theorem a_least (hf : P[f]? = some (c__law_least fc)) (hc : P[fc]? = some c__law_common) {s : Val} {x B : Int} (hs : lst? h s = some [.int x]) (hB : B ≠ 0) (hS : B.natAbs < 2 ^ 8000) : Ans P 2 f [s, .int B] h (.ok (lowT x B) h) := by
  refine ans_of hf rfl fun m hm => ?_
  have hi := items_of_lst hs
  have g0 : Int.gcd x B ≠ 0 := fun z => hB (Int.gcd_eq_zero_iff.mp z).2
  have hg : (Int.gcd x B).log2 < 9000 := gcd_log hB hS
  have e1 : ∀ k s, items? k s = some [.int x, .int B] → call P m fc [s] k = .ok (.int (Int.gcd x B)) k := fun k s q => by
    have := a_common hc (h := k) (s := s) (l := [x, B]) q m hm
    rwa [gcdL2] at this
  have e2 := e1 (h ++ [.lst [.int x], .lst [.int B], .lst [.int x, .int B]]) (.ref (h.length + 2)) (by simp [items?])
  have s1 : evS (call P m) (runL P) (fun _ => .bad) (.asg (.name 2) (.call fc [0] [(.bin .add (.b1 .list (.var 0)) (.lst [(.var 1)]))])) [.v s, .v (.int B), .no, .no] h = .nx [.v s, .v (.int B), .v (.int (Int.gcd x B)), .no] h := by
    simp [evS, evE, evEs, bl1, hi, bin, lst?, permute, e2, evT, keep]
  obtain ⟨gs, ei, hd⟩ := ex_src (cl := call P m) (clL := runL P) (act := fun _ => .bad) (e := .var 0) (ρ := [.v s, .v (.int B), .v (.int (Int.gcd x B)), .no]) (h := h) (v := s) (by simp [evE]) hi
  have ec := comp_ev (own := [3]) (t := .name 3) (cond := .cst (.bl true)) (elt := .bin .fdiv (.var 3) (.var 2)) ei hd (f := fun _ => .int (x.fdiv (Int.gcd x B))) (fun v hv => by
    rw [List.mem_singleton.mp hv]
    refine ⟨_, by simp [evT, wipe]; rfl, by simp [evE], ?_⟩
    simp [evE, bin, binI, g0, hg]) (by simp)
  have s2 : evS (call P m) (runL P) (fun _ => .bad) (.ret (.tup [(.b1 .tuple (.comp [3] (.name 3) (.ex (.var 0)) (.cst (.bl true)) (.bin .fdiv (.var 3) (.var 2)))), (.bin .fdiv (.var 1) (.var 2))])) [.v s, .v (.int B), .v (.int (Int.gcd x B)), .no] h = .rt (lowT x B) h := by
    simp [evS, evE, evEs, ↓ec, bl1, lst?, bin, binI, g0, hg]
  show fin h (evSs (call P m) (runL P) (fun _ => .bad) (c__law_least fc).body [.v s, .v (.int B), .no, .no] h) = _
  rw [show evSs (call P m) (runL P) (fun _ => .bad) (c__law_least fc).body [.v s, .v (.int B), .no, .no] h = .rt (lowT x B) h from ss_nx s1 (ss_rt s2)]
  simp [fin]
end
end K03

set_option Elab.async false
set_option linter.all false
set_option maxRecDepth 10000
/-! plain laws of fractions -/
namespace K03
open PM
theorem low_terms {x B : Int} (hB : 0 < B) : ∃ a c g : Int, x.fdiv (Int.gcd x B) = a ∧ B.fdiv (Int.gcd x B) = c ∧ Low a c ∧ 0 < g ∧ x = a * g ∧ B = c * g := by
  have g0 : 0 < Int.gcd x B := Nat.pos_of_ne_zero fun z => by have := (Int.gcd_eq_zero_iff.mp z).2; omega
  have gi : (0 : Int) < Int.gcd x B := by omega
  have d1 : x / (Int.gcd x B : Int) * Int.gcd x B = x := Int.ediv_mul_cancel (Int.gcd_dvd_left x B)
  have d2 : B / (Int.gcd x B : Int) * Int.gcd x B = B := Int.ediv_mul_cancel (Int.gcd_dvd_right x B)
  refine ⟨x / Int.gcd x B, B / Int.gcd x B, Int.gcd x B, Int.fdiv_eq_ediv_of_nonneg _ (by omega), Int.fdiv_eq_ediv_of_nonneg _ (by omega), ⟨?_, Int.gcd_ediv_gcd_ediv_gcd g0⟩, gi, d1.symm, d2.symm⟩
  refine Int.lt_of_mul_lt_mul_right (a := Int.gcd x B) ?_ (by omega)
  rw [d2]
  omega
theorem abs_le_mul {a g : Int} (h : 0 < g) : a.natAbs ≤ (a * g).natAbs := by
  rw [Int.natAbs_mul]
  exact Nat.le_mul_of_pos_right _ (by omega)
theorem red_low {t b : Int} (hb : b ≠ 0) : ∃ a c, red t b = .tup [.int a, .int c] ∧ Low a c ∧ a * b = t * c ∧ a.natAbs ≤ t.natAbs ∧ c.natAbs ≤ b.natAbs := by
  by_cases n : b < 0
  · obtain ⟨a, c, g, e1, e2, lo, g0, x1, x2⟩ := low_terms (x := -t) (B := -b) (by omega)
    have eg : Int.gcd (-t) (-b) = Int.gcd t b := by rw [Int.neg_gcd, Int.gcd_neg]
    rw [eg] at e1 e2
    have f : ∀ y : Int, y.fdiv (-(Int.gcd t b : Int)) = (-y).fdiv (Int.gcd t b) := fun y => by
      have := Int.neg_fdiv_neg y (-(Int.gcd t b : Int))
      rw [Int.neg_neg] at this
      exact this.symm
    have m1 := abs_le_mul (a := a) g0
    have m2 := abs_le_mul (a := c) g0
    refine ⟨a, c, by simp [red, n, f, e1, e2], lo, ?_, by rw [← x1] at m1; simpa using m1, by rw [← x2] at m2; simpa using m2⟩
    have h1 : t = -(a * g) := by omega
    have h2 : b = -(c * g) := by omega
    rw [h1, h2, Int.mul_neg, Int.neg_mul, Int.mul_assoc, Int.mul_comm g c]
  · obtain ⟨a, c, g, e1, e2, lo, g0, x1, x2⟩ := low_terms (x := t) (B := b) (by omega)
    have m1 := abs_le_mul (a := a) g0
    have m2 := abs_le_mul (a := c) g0
    refine ⟨a, c, by simp [red, n, e1, e2], lo, ?_, by rwa [← x1] at m1, by rwa [← x2] at m2⟩
    rw [x1, x2, Int.mul_assoc, Int.mul_comm g c]
theorem low_dvd {a c b d : Int} (lo : Low a c) (e : a * d = b * c) : c ∣ d := by
  have g : Nat.Coprime c.natAbs a.natAbs := by
    have := lo.2
    rw [Int.gcd_comm] at this
    exact this
  have h : c.natAbs ∣ d.natAbs * a.natAbs := by
    rw [← Int.natAbs_mul, Int.mul_comm d a, e, Int.natAbs_mul]
    exact Nat.dvd_mul_left _ _
  exact Int.natAbs_dvd_natAbs.mp (g.dvd_of_dvd_mul_right h)
theorem low_eq {a c b d : Int} (l1 : Low a c) (l2 : Low b d) (e : a * d = b * c) : a = b ∧ c = d := by
  have h1 := low_dvd l1 e
  have h2 := low_dvd l2 (e := e.symm)
  have hc : c = d := Int.dvd_antisymm (by have := l1.1; omega) (by have := l2.1; omega) h1 h2
  subst hc
  exact ⟨Int.eq_of_mul_eq_mul_right (by have := l1.1; omega) e, rfl⟩
end K03

set_option Elab.async false
set_option linter.all false
set_option maxRecDepth 10000
namespace K03
open PM
theorem Bx.mono {n k : Nat} {x y z : Int} (b : Bx n x y z) (h : k ≤ n) : Bx k x y z := by
  obtain ⟨b1, b2, b3, b4, b5⟩ := b
  exact ⟨b1, b2, b3, b4, by omega⟩
/-- a fraction as drawn -/
def Fr (a c : Int) : Prop := Low a c ∧ a.natAbs ≤ 1000000000 ∧ c ≤ 1000000000
section
variable {P : List Fn} {h : Heap} {f fc ft fp fl : Nat}
theorem a_fraction (hf : P[f]? = some (c__law_fraction fp ft fl)) (hp : P[fp]? = some (c__law_pick ft)) (ht : P[ft]? = some c__law_take) (hl : P[fl]? = some (c__law_least fc)) (hc : P[fc]? = some c__law_common)
    {b n : Nat} {x y z : Int} (hb : h[b]? = some (bxL x y z)) (bx : Bx (n + 3) x y z) :
    ∃ a c x' y' z', Fr a c ∧ Bx n x' y' z' ∧ Ans P 3 f [.ref b] h (.ok (.tup [.int a, .int c]) (h.set b (bxL x' y' z'))) := by
  have hbl : b < h.length := (List.getElem?_eq_some_iff.mp hb).1
  have sa : ∀ (o : Ob) (l : Heap), (h ++ l).set b o = h.set b o ++ l := fun o l => List.set_append_left _ _ hbl
  have sb : ∀ (o o2 : Ob) (l : Heap), (h.set b o ++ l).set b o2 = h.set b o2 ++ l := fun o o2 l => by rw [List.set_append_left _ _ (by simpa using hbl), List.set_set]
  have hs : ∀ o : Ob, (h.set b o)[b]? = some o := fun o => List.getElem?_set_self hbl
  obtain ⟨k, v, x1, y1, z1, ev, bx1, e1⟩ := a_pick hp ht (h := h ++ [.lst [.int 2, .int 5, .int 1000, .int 1000000000]]) (b := b) (n := n + 2) (s := .ref h.length) (vs := [.int 2, .int 5, .int 1000, .int 1000000000]) (at_old hb) bx
    (fun o => by have := at_new0 (h.set b o) [.lst [.int 2, .int 5, .int 1000, .int 1000000000]]; rw [List.length_set] at this; rw [sa]; simp [items?, this]) (by simp [items?]) (by decide) (by decide)
  obtain ⟨q, hv, q1, q2⟩ : ∃ q : Int, v = .int q ∧ 2 ≤ q ∧ q ≤ 1000000000 := by
    match k, ev with
    | 0, ev => cases ev; exact ⟨2, rfl, by decide, by decide⟩
    | 1, ev => cases ev; exact ⟨5, rfl, by decide, by decide⟩
    | 2, ev => cases ev; exact ⟨1000, rfl, by decide, by decide⟩
    | 3, ev => cases ev; exact ⟨1000000000, rfl, by decide, by decide⟩
    | k + 4, ev => simp at ev
  subst hv
  obtain ⟨d, x2, y2, z2, d0, d1, bx2, e2⟩ := a_take ht (h := h.set b (bxL x1 y1 z1)) (n := n + 1) (q := 2 * q + 1) (hs _) bx1 (by omega) (by omega)
  obtain ⟨d', x3, y3, z3, d0', d1', bx3, e3⟩ := a_take ht (h := h.set b (bxL x2 y2 z2) ++ [.lst [.int (d - q)]]) (n := n) (q := q) (at_old (hs _)) bx2 (by omega) (by omega)
  obtain ⟨a, c, g, f1, f2, lo, g0, m1, m2⟩ := low_terms (x := d - q) (B := 1 + d') (by omega)
  have e4 := a_least hl hc (h := h.set b (bxL x3 y3 z3) ++ [.lst [.int (d - q)]]) (s := .ref h.length) (x := d - q) (B := 1 + d') (by have := at_new0 (h.set b (bxL x3 y3 z3)) [.lst [.int (d - q)]]; rw [List.length_set] at this; simp [lst?, this]) (by omega) (by
    have : (1 + d').natAbs < 2 ^ 30 := by omega
    exact Nat.lt_of_lt_of_le this (Nat.pow_le_pow_right (by omega) (by omega)))
  rw [lowT, f1, f2] at e4
  refine ⟨a, c, x3, y3, z3, ⟨lo, ?_, ?_⟩, bx3, ans_of hf rfl fun m hm => ?_⟩
  · have := abs_le_mul (a := a) g0; rw [← m1] at this; omega
  · have := abs_le_mul (a := c) g0; rw [← m2] at this; have := lo.1; omega
  · have e1' := e1 m (by omega)
    have e2' := e2 m (by omega)
    have e3' := e3 m (by omega)
    have e4' := e4 m (by omega)
    have lq : Nat.log2 2 + q.natAbs.log2 < 1000000 := by have := nlog (n := 2) (k := 60) (by decide) (by decide); have := log_le (a := q) (k := 200) (by omega) (by omega) (by omega); omega
    have s1 : evS (call P m) (runL P) (fun _ => .bad) (.asg (.name 1) (.call fp [0, 1] [(.var 0), (.lst [(.cst (.int 2)), (.cst (.int 5)), (.cst (.int 1000)), (.cst (.int 1000000000))])])) [.v (.ref b), .no, .no] h = .nx [.v (.ref b), .v (.int q), .no] (h.set b (bxL x1 y1 z1)) := by
      simp [evS, evE, evEs, permute, e1', sa, evT, keep]
    have s2 : evS (call P m) (runL P) (fun _ => .bad) (.asg (.name 2) (.call fl [0, 1] [(.lst [(.bin .sub (.call ft [0, 1] [(.var 0), (.bin .add (.bin .mul (.cst (.int 2)) (.var 1)) (.cst (.int 1)))]) (.var 1))]), (.bin .add (.cst (.int 1)) (.call ft [0, 1] [(.var 0), (.var 1)]))])) [.v (.ref b), .v (.int q), .no] (h.set b (bxL x1 y1 z1)) = .nx [.v (.ref b), .v (.int q), .v (.tup [.tup [.int a], .int c])] (h.set b (bxL x3 y3 z3)) := by
      simp [evS, evE, evEs, bin, binI, lq, permute, e2', sb, e3', e4', evT, keep]
    have s3 : evS (call P m) (runL P) (fun _ => .bad) (.ret (.tup [(.idx (.idx (.var 2) (.cst (.int 0))) (.cst (.int 0))), (.idx (.var 2) (.cst (.int 1)))])) [.v (.ref b), .v (.int q), .v (.tup [.tup [.int a], .int c])] (h.set b (bxL x3 y3 z3)) = .rt (.tup [.int a, .int c]) (h.set b (bxL x3 y3 z3)) := by
      simp [evS, evE, evEs, idxV, items?, place]
    show fin h (evSs (call P m) (runL P) (fun _ => .bad) (c__law_fraction fp ft fl).body [.v (.ref b), .no, .no] h) = _
    rw [show evSs (call P m) (runL P) (fun _ => .bad) (c__law_fraction fp ft fl).body [.v (.ref b), .no, .no] h = _ from ss_nx s1 (ss_nx s2 (ss_rt s3))]
    simp [fin]
end
end K03

set_option Elab.async false
set_option linter.all false
set_option maxRecDepth 10000
namespace K03
open PM
section
variable {P : List Fn} {h : Heap} {f fc ft fp fl fi : Nat}
theorem a_equals (hf : P[f]? = some (c__law_equals fi)) (hi : P[fi]? = some (c__law_is fc)) (hc : P[fc]? = some c__law_common) {a c T B : Int} (lo : Low a c) (e : a * B = T * c) (l1 : a.natAbs.log2 + B.natAbs.log2 < 1000000) (l2 : T.natAbs.log2 + c.natAbs.log2 < 1000000) :
    Ans P 3 f [.tup [.int a, .int c], .int T, .int B] h (.ok (.bl true) h) := by
  refine ans_of hf rfl fun m hm => ?_
  have e1 := a_is hi hc (h := h) lo m hm
  simp [c__law_equals, evSs, evS, evE, evEs, evT, evTs, start, keep, fin, idxV, items?, lst?, place, bin, binI, cmpB, bl1, isaB, List.set, setIx, permute, e1, l1, l2, e, heq, Val.eqb, veq]
theorem r_number {x y : Nat} (hf : P[f]? = some (c__law_refused x y)) {act : Heap → Out Val} {v : Val} (ha : act h = .exc ⟨x, "word", v⟩ h) (fv : v.flat = true) : runL P f act h = .ok (.tup [.str "number", v]) h := by
  simp [runL, hf, c__law_refused, evSs, evS, evE, evEs, evH, fin, ha, slotX, unAs, fv]
theorem r_refused {x y : Nat} (hn : x ≠ y) (hf : P[f]? = some (c__law_refused x y)) {act : Heap → Out Val} {v : Val} (ha : act h = .exc ⟨y, "word", v⟩ h) (fv : v.flat = true) : runL P f act h = .ok (.tup [.str "refused", v]) h := by
  simp [runL, hf, c__law_refused, evSs, evS, evE, evEs, evH, fin, ha, slotX, unAs, fv, Ne.symm hn]
theorem a_box (hf : P[f]? = some c__law_box) {s : Val} {l : List Int} (hs : items? h s = some (l.map .int)) {k : Nat} (hk : k < 4) (n : Nat) (hn : n < 1000) :
    ∃ x y, Bx n x y 0 ∧ Ans P 1 f [s, .int k] h (.ok (.ref h.length) (h ++ [bxL x y 0])) := by
  have hlen := len_items hs
  rw [List.length_map] at hlen
  -- the cell
  obtain ⟨c, c0, ec⟩ : ∃ c : Int, 0 ≤ c ∧ ∀ m, evSs (call P m) (runL P) (fun _ => .bad) [.asg (.name 2) (.bin .add (.bin .mul (.cst (.int 7411)) (.var 1)) (.cst (.int 1304))),
      .ite (.cmp .lt (.var 1) (.b1 .len (.var 0))) [.asg (.name 2) (.b1 .abs (.idx (.var 0) (.var 1)))] [.ite (.cmp .gt (.b1 .len (.var 0)) (.cst (.int 0))) [.asg (.name 2) (.bin .add (.var 2) (.bin .mul (.bin .mod (.b1 .int (.b1 .abs (.idx (.var 0) (.bin .mod (.b1 .int (.var 1)) (.b1 .len (.var 0)))))) (.cst (.int 2147483629))) (.cst (.int 60719))))] []]] [.v s, .v (.int k), .no, .no] h = .nx [.v s, .v (.int k), .v (.int c), .no] h := by
    have l1 : Nat.log2 7411 + k.log2 < 1000000 := by have := nlog (n := 7411) (k := 60) (by decide) (by decide); have := nlog (n := k) (k := 60) (by omega) (by decide); omega
    by_cases h1 : k < l.length
    · have e1 := idx_items hs (d := k) (v := .int l[k]) (by omega) (by simp [h1])
      refine ⟨if l[k] < 0 then -l[k] else l[k], by split <;> omega, fun m => ?_⟩
      simp [evSs, evS, evE, bin, binI, evT, keep, l1, hlen, cmpB, h1, e1]
      simp [bl1]
    · by_cases h2 : 0 < l.length
      · have r1 : (k : Int).fmod l.length = ((k % l.length : Nat) : Int) := by rw [Int.fmod_eq_emod_of_nonneg _ (by omega)]; rfl
        have r2 : k % l.length < l.length := Nat.mod_lt _ h2
        have e1 := idx_items hs (d := (k % l.length : Nat)) (v := .int l[k % l.length]) (by omega) (by
          rw [Int.toNat_natCast, List.getElem?_map, List.getElem?_eq_getElem r2]; rfl)
        rw [Int.natCast_emod] at e1
        obtain ⟨w, ew⟩ : ∃ w, w = Int.fmod (if l[k % l.length] < 0 then -l[k % l.length] else l[k % l.length]) 2147483629 := ⟨_, rfl⟩
        have w0 : 0 ≤ w := ew ▸ Int.fmod_nonneg_of_pos _ (by omega)
        have w1 : w < 2147483629 := ew ▸ Int.fmod_lt_of_pos _ (by omega)
        have l2 : w.natAbs.log2 + Nat.log2 60719 < 1000000 := by have := nlog (n := 60719) (k := 60) (by decide) (by decide); have := log_le (a := w) (k := 200) (by omega) (by omega) (by omega); omega
        have n1 : l.length ≠ 0 := by omega
        have n2 : l ≠ [] := by intro z; rw [z] at n1; exact n1 rfl
        refine ⟨7411 * k + 1304 + w * 60719, by omega, fun m => ?_⟩
        have b1 : ∀ i : Int, bl1 .abs (.int i) h = .ok (.int (if i < 0 then -i else i)) h := fun _ => rfl
        have b2 : ∀ i : Int, bl1 .int (.int i) h = .ok (.int i) h := fun _ => rfl
        simp [evSs, evS, evE, bin, binI, evT, keep, l1, hlen, cmpB, h1, h2, b1, b2, n1, n2, r1, e1, ← ew, l2]
      · refine ⟨7411 * k + 1304, by omega, fun m => ?_⟩
        simp [evSs, evS, evE, bin, binI, evT, keep, l1, hlen, cmpB, h1, h2]
  obtain ⟨w, ew⟩ : ∃ w, w = Int.fmod c 2147483629 := ⟨_, rfl⟩
  have w0 : 0 ≤ w := ew ▸ Int.fmod_nonneg_of_pos _ (by omega)
  have w1 : w < 2147483629 := ew ▸ Int.fmod_lt_of_pos _ (by omega)
  have l2 : w.natAbs.log2 + Nat.log2 48271 < 1000000 := by have := nlog (n := 48271) (k := 60) (by decide) (by decide); have := log_le (a := w) (k := 200) (by omega) (by omega) (by omega); omega
  have l3 : Nat.log2 30011 + k.log2 < 1000000 := by have := nlog (n := 30011) (k := 60) (by decide) (by decide); have := nlog (n := k) (k := 60) (by omega) (by decide); omega
  obtain ⟨y, ey⟩ : ∃ y, y = Int.fmod (w * 48271 + 30011 * k + 977) 2147483629 := ⟨_, rfl⟩
  have y0 : 0 ≤ y := ey ▸ Int.fmod_nonneg_of_pos _ (by omega)
  have y1 : y < 2147483629 := ey ▸ Int.fmod_lt_of_pos _ (by omega)
  have b2 : ∀ (i : Int) (h : Heap), bl1 .int (.int i) h = .ok (.int i) h := fun _ _ => rfl
  have b3 : ∀ (i : Bool) (h : Heap), bl1 .int (.bl i) h = .ok (.int (b2i i)) h := fun _ _ => rfl
  refine ⟨if 10 ^ 18 ≤ c then c else 0, y + 1, ⟨by split <;> omega, by omega, by omega, by omega, by omega⟩, ans_of hf rfl fun m hm => ?_⟩
  have s3 : evS (call P m) (runL P) (fun _ => .bad) (.asg (.name 3) (.b1 .int (.cmp .ge (.var 2) (.bin .pow (.cst (.int 10)) (.cst (.int 18)))))) [.v s, .v (.int k), .v (.int c), .no] h = .nx [.v s, .v (.int k), .v (.int c), .v (.int (b2i (decide ((10 : Int) ^ 18 ≤ c))))] h := by
    simp [evS, evE, bin, binI, evT, keep, cmpB, b3]
  have s4 : evS (call P m) (runL P) (fun _ => .bad) (.ret (.lst [(.idx (.lst [(.cst (.int 0)), (.var 2)]) (.var 3)), (.bin .add (.bin .mod (.b1 .int (.bin .add (.bin .add (.bin .mul (.bin .mod (.b1 .int (.var 2)) (.cst (.int 2147483629))) (.cst (.int 48271))) (.bin .mul (.cst (.int 30011)) (.var 1))) (.cst (.int 977)))) (.cst (.int 2147483629))) (.cst (.int 1))), (.cst (.int 0))])) [.v s, .v (.int k), .v (.int c), .v (.int (b2i (decide ((10 : Int) ^ 18 ≤ c))))] h = .rt (.ref h.length) (h ++ [bxL (if 10 ^ 18 ≤ c then c else 0) (y + 1) 0]) := by
    by_cases g : (1000000000000000000 : Int) ≤ c
    · simp [evS, evE, evEs, bin, binI, evT, keep, b2, b2i, g, ← ew, l2, l3, ← ey, idxV, items?, place]
    · simp [evS, evE, evEs, bin, binI, evT, keep, b2, b2i, g, ← ew, l2, l3, ← ey, idxV, items?, place]
  show fin h (evSs (call P m) (runL P) (fun _ => .bad) c__law_box.body [.v s, .v (.int k), .no, .no] h) = _
  rw [show evSs (call P m) (runL P) (fun _ => .bad) c__law_box.body [.v s, .v (.int k), .no, .no] h = .rt (.ref h.length) (h ++ [bxL (if 10 ^ 18 ≤ c then c else 0) (y + 1) 0]) from by
    have := ec m
    show evSs (call P m) (runL P) (fun _ => .bad) ([_, _] ++ [_, _]) _ _ = _
    rw [ss_app this]
    exact ss_nx s3 (ss_rt s4)]
  simp [fin]
end
end K03

set_option Elab.async false
set_option linter.all false
set_option maxRecDepth 10000
namespace K03
open PM
abbrev frV (p : Int × Int) : Val := .tup [.int p.1, .int p.2]
def leastF (b : Int × Int) (l : List (Int × Int)) : Int × Int := l.foldl (fun b x => if x.1 * b.2 < b.1 * x.2 then x else b) b
def greatF (b : Int × Int) (l : List (Int × Int)) : Int × Int := l.foldl (fun b x => if b.1 * x.2 < x.1 * b.2 then x else b) b
abbrev S2 (p : Int × Int) : Prop := S p.1 ∧ S p.2
section
variable {P : List Fn} {h : Heap} {f fc ft fp fl fi x : Nat}
theorem least_for (hl : P[fl]? = some c_less) {m : Nat} (hm : 1 ≤ m) {v0 : Sl} {gs : List (Nat × List Val)} (hd : holds h gs) : ∀ (l : List (Int × Int)) (b : Int × Int) (s2 : Sl), S2 b → (∀ p ∈ l, S2 p) → ∃ t2,
    forL (evT (call P m) (runL P) (fun _ => .bad) (.name 2)) (evSs (call P m) (runL P) (fun _ => .bad) [.ite (.call fl [0, 1] [(.var 2), (.var 1)]) [.asg (.name 1) (.var 2)] []]) gs (l.map frV) [v0, .v (frV b), s2] h = .nx [v0, .v (frV (leastF b l)), t2] h
  | [], b, s2, sb, sl => ⟨s2, by rw [List.map_nil, forL, if_pos hd]; rfl⟩
  | p :: l, b, s2, sb, sl => by
    have sp := sl p (List.mem_cons_self ..)
    have e := a_less hl (h := h) (sp.1.two sb.2) (sb.1.two sp.2) m hm
    by_cases c : p.1 * b.2 < b.1 * p.2
    · obtain ⟨t2, q⟩ := least_for hl hm (v0 := v0) hd l p (.v (frV p)) sp (fun y hy => sl y (List.mem_cons_of_mem _ hy))
      refine ⟨t2, ?_⟩
      rw [List.map_cons, forL, if_pos hd]
      have : leastF b (p :: l) = leastF p l := by simp [leastF, c]
      rw [this, ← q]
      simp [evT, evSs, evS, evE, evEs, permute, e, c, keep]
    · obtain ⟨t2, q⟩ := least_for hl hm (v0 := v0) hd l b (.v (frV p)) sb (fun y hy => sl y (List.mem_cons_of_mem _ hy))
      refine ⟨t2, ?_⟩
      rw [List.map_cons, forL, if_pos hd]
      have : leastF b (p :: l) = leastF b l := by simp [leastF, c]
      rw [this, ← q]
      simp [evT, evSs, evS, evE, evEs, permute, e, c, keep]
theorem great_for (hl : P[fl]? = some c_less) {m : Nat} (hm : 1 ≤ m) {v0 : Sl} {gs : List (Nat × List Val)} (hd : holds h gs) : ∀ (l : List (Int × Int)) (b : Int × Int) (s2 : Sl), S2 b → (∀ p ∈ l, S2 p) → ∃ t2,
    forL (evT (call P m) (runL P) (fun _ => .bad) (.name 2)) (evSs (call P m) (runL P) (fun _ => .bad) [.ite (.call fl [0, 1] [(.var 1), (.var 2)]) [.asg (.name 1) (.var 2)] []]) gs (l.map frV) [v0, .v (frV b), s2] h = .nx [v0, .v (frV (greatF b l)), t2] h
  | [], b, s2, sb, sl => ⟨s2, by rw [List.map_nil, forL, if_pos hd]; rfl⟩
  | p :: l, b, s2, sb, sl => by
    have sp := sl p (List.mem_cons_self ..)
    have e := a_less hl (h := h) (sb.1.two sp.2) (sp.1.two sb.2) m hm
    by_cases c : b.1 * p.2 < p.1 * b.2
    · obtain ⟨t2, q⟩ := great_for hl hm (v0 := v0) hd l p (.v (frV p)) sp (fun y hy => sl y (List.mem_cons_of_mem _ hy))
      refine ⟨t2, ?_⟩
      rw [List.map_cons, forL, if_pos hd]
      have : greatF b (p :: l) = greatF p l := by simp [greatF, c]
      rw [this, ← q]
      simp [evT, evSs, evS, evE, evEs, permute, e, c, keep]
    · obtain ⟨t2, q⟩ := great_for hl hm (v0 := v0) hd l b (.v (frV p)) sb (fun y hy => sl y (List.mem_cons_of_mem _ hy))
      refine ⟨t2, ?_⟩
      rw [List.map_cons, forL, if_pos hd]
      have : greatF b (p :: l) = greatF b l := by simp [greatF, c]
      rw [this, ← q]
      simp [evT, evSs, evS, evE, evEs, permute, e, c, keep]
theorem a_least_of (hf : P[f]? = some (c_least_of x fl)) (hl : P[fl]? = some c_less) {p : Int × Int} {l : List (Int × Int)} (sl : ∀ q ∈ p :: l, S2 q) : Ans P 2 f [.tup ((p :: l).map frV)] h (.ok (frV (leastF p (p :: l))) h) := by
  refine ans_of hf rfl fun m hm => ?_
  obtain ⟨gs, ei, hd⟩ := ex_src (cl := call P m) (clL := runL P) (act := fun _ => .bad) (e := .var 0) (ρ := [.v (.tup ((p :: l).map frV)), .v (frV p), .no]) (h := h) (v := .tup ((p :: l).map frV)) (by simp [evE]) rfl
  obtain ⟨t2, q⟩ := least_for hl hm (v0 := .v (.tup ((p :: l).map frV))) hd (p :: l) p .no (sl p (List.mem_cons_self ..)) sl
  have s1 : evS (call P m) (runL P) (fun _ => .bad) (.ite (.cmp .eq (.b1 .len (.var 0)) (.cst (.int 0))) [.raise x "word" (.cst (.str "none"))] []) [.v (.tup ((p :: l).map frV)), .no, .no] h = .nx [.v (.tup ((p :: l).map frV)), .no, .no] h := by
    simp [evS, evSs, evE, bl1, items?, cmpB, heq, Val.eqb, veq]
    omega
  have s2 : evS (call P m) (runL P) (fun _ => .bad) (.asg (.name 1) (.idx (.var 0) (.cst (.int 0)))) [.v (.tup ((p :: l).map frV)), .no, .no] h = .nx [.v (.tup ((p :: l).map frV)), .v (frV p), .no] h := by
    simp [evS, evE, idxV, items?, place, evT, keep]
  have s3 : evS (call P m) (runL P) (fun _ => .bad) (.for_ (.name 2) (.ex (.var 0)) [.ite (.call fl [0, 1] [(.var 2), (.var 1)]) [.asg (.name 1) (.var 2)] []]) [.v (.tup ((p :: l).map frV)), .v (frV p), .no] h = .nx [.v (.tup ((p :: l).map frV)), .v (frV (leastF p (p :: l))), t2] h := by
    simp only [evS, ei]
    exact q
  show fin h (evSs (call P m) (runL P) (fun _ => .bad) (c_least_of x fl).body [.v (.tup ((p :: l).map frV)), .no, .no] h) = _
  rw [show evSs (call P m) (runL P) (fun _ => .bad) (c_least_of x fl).body [.v (.tup ((p :: l).map frV)), .no, .no] h = .rt (frV (leastF p (p :: l))) h from ss_nx s1 (ss_nx s2 (ss_nx s3 (ss_rt (by simp [evS, evE]))))]
  simp [fin]
theorem a_greatest_of (hf : P[f]? = some (c_greatest_of x fl)) (hl : P[fl]? = some c_less) {p : Int × Int} {l : List (Int × Int)} (sl : ∀ q ∈ p :: l, S2 q) : Ans P 2 f [.tup ((p :: l).map frV)] h (.ok (frV (greatF p (p :: l))) h) := by
  refine ans_of hf rfl fun m hm => ?_
  obtain ⟨gs, ei, hd⟩ := ex_src (cl := call P m) (clL := runL P) (act := fun _ => .bad) (e := .var 0) (ρ := [.v (.tup ((p :: l).map frV)), .v (frV p), .no]) (h := h) (v := .tup ((p :: l).map frV)) (by simp [evE]) rfl
  obtain ⟨t2, q⟩ := great_for hl hm (v0 := .v (.tup ((p :: l).map frV))) hd (p :: l) p .no (sl p (List.mem_cons_self ..)) sl
  have s1 : evS (call P m) (runL P) (fun _ => .bad) (.ite (.cmp .eq (.b1 .len (.var 0)) (.cst (.int 0))) [.raise x "word" (.cst (.str "none"))] []) [.v (.tup ((p :: l).map frV)), .no, .no] h = .nx [.v (.tup ((p :: l).map frV)), .no, .no] h := by
    simp [evS, evSs, evE, bl1, items?, cmpB, heq, Val.eqb, veq]
    omega
  have s2 : evS (call P m) (runL P) (fun _ => .bad) (.asg (.name 1) (.idx (.var 0) (.cst (.int 0)))) [.v (.tup ((p :: l).map frV)), .no, .no] h = .nx [.v (.tup ((p :: l).map frV)), .v (frV p), .no] h := by
    simp [evS, evE, idxV, items?, place, evT, keep]
  have s3 : evS (call P m) (runL P) (fun _ => .bad) (.for_ (.name 2) (.ex (.var 0)) [.ite (.call fl [0, 1] [(.var 1), (.var 2)]) [.asg (.name 1) (.var 2)] []]) [.v (.tup ((p :: l).map frV)), .v (frV p), .no] h = .nx [.v (.tup ((p :: l).map frV)), .v (frV (greatF p (p :: l))), t2] h := by
    simp only [evS, ei]
    exact q
  show fin h (evSs (call P m) (runL P) (fun _ => .bad) (c_greatest_of x fl).body [.v (.tup ((p :: l).map frV)), .no, .no] h) = _
  rw [show evSs (call P m) (runL P) (fun _ => .bad) (c_greatest_of x fl).body [.v (.tup ((p :: l).map frV)), .no, .no] h = .rt (frV (greatF p (p :: l))) h from ss_nx s1 (ss_nx s2 (ss_nx s3 (ss_rt (by simp [evS, evE]))))]
  simp [fin]
theorem a_least_of0 (hf : P[f]? = some (c_least_of x fl)) : Ans P 1 f [.tup []] h (.exc ⟨x, "word", .str "none"⟩ h) := by
  refine ans_of hf rfl fun m hm => ?_
  simp [c_least_of, evSs, start, evS, evE, bl1, items?, cmpB, heq, Val.eqb, veq, fin]
theorem a_greatest_of0 (hf : P[f]? = some (c_greatest_of x fl)) : Ans P 1 f [.tup []] h (.exc ⟨x, "word", .str "none"⟩ h) := by
  refine ans_of hf rfl fun m hm => ?_
  simp [c_greatest_of, evSs, start, evS, evE, bl1, items?, cmpB, heq, Val.eqb, veq, fin]
end
end K03

set_option Elab.async false
set_option linter.all false
set_option maxRecDepth 10000
/-! plain: the least, the greatest, the simplest -/
namespace K03
open PM
theorem leastF_cons (b p : Int × Int) (l : List (Int × Int)) : leastF b (p :: l) = leastF (if p.1 * b.2 < b.1 * p.2 then p else b) l := rfl
theorem greatF_cons (b p : Int × Int) (l : List (Int × Int)) : greatF b (p :: l) = greatF (if b.1 * p.2 < p.1 * b.2 then p else b) l := rfl
theorem le_trans3 {a b c d e f : Int} (hb : 0 < b) (hd : 0 < d) (hf : 0 < f) (h1 : a * d ≤ c * b) (h2 : c * f ≤ e * d) : a * f ≤ e * b := by
  have q1 := Int.mul_le_mul_of_nonneg_right h1 (show (0 : Int) ≤ f by omega)
  have q2 := Int.mul_le_mul_of_nonneg_right h2 (show (0 : Int) ≤ b by omega)
  have e1 : a * d * f = a * f * d := by rw [Int.mul_assoc, Int.mul_comm d f, ← Int.mul_assoc]
  have e2 : c * b * f = c * f * b := by rw [Int.mul_assoc, Int.mul_comm b f, ← Int.mul_assoc]
  have e3 : e * d * b = e * b * d := by rw [Int.mul_assoc, Int.mul_comm d b, ← Int.mul_assoc]
  refine Int.le_of_mul_le_mul_right (a := d) ?_ hd
  omega
theorem leastF_spec : ∀ (l : List (Int × Int)) (b : Int × Int), 0 < b.2 → (∀ p ∈ l, 0 < p.2) → (leastF b l = b ∨ leastF b l ∈ l) ∧ 0 < (leastF b l).2 ∧ (leastF b l).1 * b.2 ≤ b.1 * (leastF b l).2 ∧ ∀ p ∈ l, (leastF b l).1 * p.2 ≤ p.1 * (leastF b l).2
  | [], b, hb, _ => ⟨.inl rfl, hb, Int.le_refl _, fun p hp => by cases hp⟩
  | p :: l, b, hb, hl => by
    have hp := hl p (List.mem_cons_self ..)
    have hl2 : ∀ q ∈ l, 0 < q.2 := fun q hq => hl q (List.mem_cons_of_mem _ hq)
    rw [leastF_cons]
    by_cases c : p.1 * b.2 < b.1 * p.2
    · rw [if_pos c]
      obtain ⟨i1, i2, i3, i4⟩ := leastF_spec l p hp hl2
      refine ⟨.inr ?_, i2, le_trans3 i2 hp hb i3 (by omega), fun q hq => ?_⟩
      · rcases i1 with i | i
        · rw [i]; exact List.mem_cons_self ..
        · exact List.mem_cons_of_mem _ i
      · rcases List.mem_cons.mp hq with r | r
        · rw [r]; exact i3
        · exact i4 q r
    · rw [if_neg c]
      obtain ⟨i1, i2, i3, i4⟩ := leastF_spec l b hb hl2
      refine ⟨?_, i2, i3, fun q hq => ?_⟩
      · rcases i1 with i | i
        · exact .inl i
        · exact .inr (List.mem_cons_of_mem _ i)
      · rcases List.mem_cons.mp hq with r | r
        · rw [r]; exact le_trans3 i2 hb hp i3 (by omega)
        · exact i4 q r
theorem greatF_spec : ∀ (l : List (Int × Int)) (b : Int × Int), 0 < b.2 → (∀ p ∈ l, 0 < p.2) → (greatF b l = b ∨ greatF b l ∈ l) ∧ 0 < (greatF b l).2 ∧ b.1 * (greatF b l).2 ≤ (greatF b l).1 * b.2 ∧ ∀ p ∈ l, p.1 * (greatF b l).2 ≤ (greatF b l).1 * p.2
  | [], b, hb, _ => ⟨.inl rfl, hb, Int.le_refl _, fun p hp => by cases hp⟩
  | p :: l, b, hb, hl => by
    have hp := hl p (List.mem_cons_self ..)
    have hl2 : ∀ q ∈ l, 0 < q.2 := fun q hq => hl q (List.mem_cons_of_mem _ hq)
    rw [greatF_cons]
    by_cases c : b.1 * p.2 < p.1 * b.2
    · rw [if_pos c]
      obtain ⟨i1, i2, i3, i4⟩ := greatF_spec l p hp hl2
      refine ⟨.inr ?_, i2, le_trans3 hb hp i2 (by omega) i3, fun q hq => ?_⟩
      · rcases i1 with i | i
        · rw [i]; exact List.mem_cons_self ..
        · exact List.mem_cons_of_mem _ i
      · rcases List.mem_cons.mp hq with r | r
        · rw [r]; exact i3
        · exact i4 q r
    · rw [if_neg c]
      obtain ⟨i1, i2, i3, i4⟩ := greatF_spec l b hb hl2
      refine ⟨?_, i2, i3, fun q hq => ?_⟩
      · rcases i1 with i | i
        · exact .inl i
        · exact .inr (List.mem_cons_of_mem _ i)
      · rcases List.mem_cons.mp hq with r | r
        · rw [r]; exact le_trans3 hp hb i2 (by omega) i3
        · exact i4 q r
/-! the simplest fraction of a range above 0 -/
/-- p/q lies in the range and has the least top and the least bottom there; no high: c = 1, d = 0 -/
def Spec (p q a b c d : Int) : Prop := Low p q ∧ 0 < p ∧ a * q ≤ p * b ∧ p * d ≤ c * q ∧ ∀ s t, 0 < t → a * t ≤ s * b → s * d ≤ c * t → p ≤ s ∧ q ≤ t
theorem gcd_one (z : Int) : Int.gcd z 1 = 1 := by simp
/-- the end of the walk -/
theorem spec_end {a b c d : Int} (ha : 0 < a) (hb : 0 < b) (hd : 0 ≤ d) (hc : 0 < c) (hs : ¬ (0 < d ∧ (c.fdiv d) * b < a)) : Spec (-((-a).fdiv b)) 1 a b c d := by
  obtain ⟨z, ez⟩ : ∃ z, z = -((-a).fdiv b) := ⟨_, rfl⟩
  rw [← ez]
  have e1 := Int.mul_fdiv_add_fmod (-a) b
  have e2 := Int.fmod_nonneg_of_pos (-a) hb
  have e3 := Int.fmod_lt_of_pos (-a) hb
  have hz : (-a).fdiv b = -z := by omega
  rw [hz] at e1
  have e4 : b * -z = -(z * b) := by rw [Int.mul_neg, Int.mul_comm]
  have k1 : a ≤ z * b := by omega
  have k2 : z * b < a + b := by omega
  have low : ∀ s t : Int, 0 < t → a * t ≤ s * b → z ≤ s := by
    intro s t ht h
    have h1 : a * 1 ≤ a * t := Int.mul_le_mul_of_nonneg_left (by omega) (by omega)
    have h2 : z * b < (s + 1) * b := by rw [Int.add_mul]; omega
    have := Int.lt_of_mul_lt_mul_right h2 (by omega)
    omega
  have zp : 0 < z := by
    refine Int.lt_of_mul_lt_mul_right (a := b) ?_ (by omega)
    omega
  refine ⟨⟨by decide, gcd_one z⟩, zp, by omega, ?_, fun s t ht h1 h2 => ⟨low s t ht h1, by omega⟩⟩
  by_cases d0 : 0 < d
  · have h1 : a ≤ (c.fdiv d) * b := by
      have := hs
      by_cases q : c.fdiv d * b < a
      · exact absurd ⟨d0, q⟩ hs
      · omega
    have h2 := low (c.fdiv d) 1 (by decide) (by omega)
    have f1 := Int.mul_fdiv_add_fmod c d
    have f2 := Int.fmod_nonneg_of_pos c d0
    have h3 : z * d ≤ c.fdiv d * d := Int.mul_le_mul_of_nonneg_right h2 (by omega)
    rw [Int.mul_comm d] at f1
    omega
  · have : d = 0 := by omega
    rw [this]; omega
/-- a step of the walk -/
theorem spec_step {a b c d n p q a' c' : Int} (hb : 0 < b) (hd : 0 < d) (e1 : a = n * b + a') (e2 : c = n * d + c') (n0 : 0 ≤ n) (ha : 0 < a') (hc : 0 < c')
    (sp : Spec p q d c' b a') : Spec (n * p + q) p a b c d := by
  obtain ⟨lo, p0, s1, s2, mn⟩ := sp
  have q0 := lo.1
  have np : 0 ≤ n * p := Int.mul_nonneg n0 (by omega)
  refine ⟨⟨p0, ?_⟩, by omega, ?_, ?_, fun s t ht h1 h2 => ?_⟩
  · have h := lo.2
    rw [Int.gcd_comm] at h
    have e : n * p + q = q + n * p := by omega
    rw [e, Int.gcd_add_mul_right_left]
    exact h
  · subst e1; grind
  · subst e2; grind
  · have g1 : a' * t ≤ (s - n * t) * b := by subst e1; grind
    have g2 : (s - n * t) * d ≤ c' * t := by subst e2; grind
    have g3 : 0 < (s - n * t) := by
      have : 0 < a' * t := Int.mul_pos ha ht
      refine Int.lt_of_mul_lt_mul_right (a := b) ?_ (by omega)
      omega
    obtain ⟨m1, m2⟩ := mn t (s - n * t) g3 (by grind) (by grind)
    have : n * p ≤ n * t := Int.mul_le_mul_of_nonneg_left m1 n0
    exact ⟨by omega, m1⟩
end K03
namespace K03
open PM
def unwF (ws : List Int) (b : Int × Int) : Int × Int := ws.foldr (fun w p => (w * p.1 + p.2, p.1)) b
def stepR (b : Int × Int) (w : Int) : Int × Int := (w * b.1 + b.2, b.1)
theorem unw_rev (ws : List Int) (b : Int × Int) : ws.reverse.foldl stepR b = unwF ws b := by
  rw [List.foldl_reverse]; rfl
/-- every step of the way back is small -/
def GoodR (K : Int) : List Int → Int × Int → Prop
  | [], b => Low b.1 b.2 ∧ 0 < b.1 ∧ b.1 ≤ K ∧ b.2 ≤ K
  | w :: r, b => (Low b.1 b.2 ∧ 0 < b.1 ∧ b.1 ≤ K ∧ b.2 ≤ K) ∧ 0 ≤ w ∧ w ≤ K ∧ GoodR K r (stepR b w)
theorem GoodR.snoc {K : Int} : ∀ {r : List Int} {b : Int × Int} {w : Int}, GoodR K r b → 0 ≤ w → w ≤ K → Low (stepR (r.foldl stepR b) w).1 (stepR (r.foldl stepR b) w).2 → 0 < (stepR (r.foldl stepR b) w).1 → (stepR (r.foldl stepR b) w).1 ≤ K → (stepR (r.foldl stepR b) w).2 ≤ K → GoodR K (r ++ [w]) b
  | [], b, w, g, w0, w1, h1, h2, h3, h4 => ⟨g, w0, w1, h1, h2, h3, h4⟩
  | v :: r, b, w, g, w0, w1, h1, h2, h3, h4 => ⟨g.1, g.2.1, g.2.2.1, GoodR.snoc g.2.2.2 w0 w1 h1 h2 h3 h4⟩
end K03

set_option Elab.async false
set_option linter.all false
set_option maxRecDepth 10000
namespace K03
open PM
theorem set_same {H : Heap} {w : Nat} {o : Ob} (e : H[w]? = some o) : H.set w o = H := by
  apply List.ext_getElem?
  intro i
  by_cases q : w = i
  · subst q
    rw [List.getElem?_set_self (List.getElem?_eq_some_iff.mp e).1, e]
  · rw [List.getElem?_set_ne q]
theorem red_same {a c : Int} (lo : Low a c) : red a c = .tup [.int a, .int c] := by
  have n : ¬ c < 0 := by have := lo.1; omega
  simp [red, n, lo.2]
structure Inv (K a b c d : Int) : Prop where
  l1 : Low a b
  a0 : 0 < a
  l2 : Low c d
  le : a * d ≤ c * b
  ka : a ≤ K
  kb : b ≤ K
  kc : c ≤ K
  kd : d ≤ K
theorem Low.sub {a b n : Int} (lo : Low a b) : Int.gcd (a - n * b) b = 1 := by
  have e : a - n * b = a + (-n) * b := by rw [Int.neg_mul]; omega
  rw [e, Int.gcd_add_mul_right_left]
  exact lo.2
theorem inv_step {K a b c d : Int} (i : Inv K a b c d) (h : c.fdiv d * b < a) :
    0 ≤ a.fdiv b ∧ a.fdiv b ≤ K ∧ 0 < c ∧ 0 < a - a.fdiv b * b ∧ a - a.fdiv b * b < b ∧ 0 < c - a.fdiv b * d ∧ c - a.fdiv b * d < d ∧ Inv K d (c - a.fdiv b * d) b (a - a.fdiv b * b) := by
  obtain ⟨l1, a0, l2, le, ka, kb, kc, kd⟩ := i
  have b0 := l1.1
  have d0 := l2.1
  have c0 : 0 < c := by
    have : 0 < a * d := Int.mul_pos a0 d0
    refine Int.lt_of_mul_lt_mul_right (a := b) ?_ (by omega)
    omega
  obtain ⟨n, en⟩ : ∃ n, n = a.fdiv b := ⟨_, rfl⟩
  rw [← en]
  have e1 := Int.mul_fdiv_add_fmod a b
  have e2 := Int.fmod_nonneg_of_pos a b0
  have e3 := Int.fmod_lt_of_pos a b0
  have f1 := Int.mul_fdiv_add_fmod c d
  have f2 := Int.fmod_nonneg_of_pos c d0
  have f3 := Int.fmod_lt_of_pos c d0
  rw [← en, Int.mul_comm] at e1
  obtain ⟨f, ef⟩ : ∃ f, f = c.fdiv d := ⟨_, rfl⟩
  rw [← ef, Int.mul_comm] at f1
  rw [← ef] at h
  have n0 : 0 ≤ n := en ▸ Int.fdiv_nonneg (by omega) (by omega)
  have fn : f = n := by
    have g1 : f ≤ n := by
      have : f * b < (n + 1) * b := by rw [Int.add_mul]; omega
      have := Int.lt_of_mul_lt_mul_right this (by omega)
      omega
    have g2 : n ≤ f := by
      have : n * b * d ≤ c * b := by
        have : n * b * d ≤ a * d := Int.mul_le_mul_of_nonneg_right (by omega) (by omega)
        omega
      have h2 : n * d * b ≤ c * b := by grind
      have h3 := Int.le_of_mul_le_mul_right h2 b0
      have h4 : n * d < (f + 1) * d := by rw [Int.add_mul]; omega
      have := Int.lt_of_mul_lt_mul_right h4 (by omega)
      omega
    omega
  subst fn
  have a1 : 0 < a - f * b := by omega
  have c1 : 0 < c - f * d := by
    have h1 : (a - f * b) * d ≤ (c - f * d) * b := by grind
    have h2 : 0 < (a - f * b) * d := Int.mul_pos a1 d0
    refine Int.lt_of_mul_lt_mul_right (a := b) ?_ (by omega)
    omega
  have nd : 0 ≤ f * d := Int.mul_nonneg n0 (by omega)
  have nb : 0 ≤ f * b := Int.mul_nonneg n0 (by omega)
  have nk : f ≤ f * b := by
    have : f * 1 ≤ f * b := Int.mul_le_mul_of_nonneg_left (by omega) n0
    omega
  refine ⟨n0, by omega, c0, a1, by omega, c1, by omega, ⟨⟨c1, by rw [Int.gcd_comm]; exact l2.sub⟩, d0, ⟨a1, by rw [Int.gcd_comm]; exact l1.sub⟩, by grind, kd, by omega, kb, by omega⟩⟩
theorem S_of {z K : Int} (h0 : 0 ≤ z) (h : z ≤ K) (hK : K < 2 ^ 200) : S z := by
  have : (z.natAbs : Int) < 2 ^ 200 := by omega
  have : z.natAbs < 2 ^ 200 := by exact_mod_cast this
  exact Nat.lt_of_lt_of_le this (Nat.pow_le_pow_right (by omega) (by omega))
end K03

set_option Elab.async false
set_option linter.all false
set_option maxRecDepth 10000
namespace K03
open PM
section
variable {P : List Fn} {h : Heap} {f fo fm fr fpl ff fd x : Nat}
abbrev wCond (fo : Nat) : Ex := .and (.cmp .isnot (.var 1) (.cst .non)) (.cmp .lt (.bin .mul (.call fo [0] [(.var 1)]) (.idx (.var 0) (.cst (.int 1)))) (.idx (.var 0) (.cst (.int 0))))
abbrev wBody (fo fm fr : Nat) : List St := [.asg (.name 3) (.call fo [0] [(.var 0)]),
      .ex (.meth .append (.var 2) [(.var 3)]),
      .asg (.tup [(.name 0), (.name 1)]) (.tup [(.call fr [0, 1] [(.glob "ONE" (.tup [(.int 1), (.int 1)])), (.call fm [0, 1] [(.var 1), (.tup [(.var 3), (.cst (.int 1))])])]), (.call fr [0, 1] [(.glob "ONE" (.tup [(.int 1), (.int 1)])), (.call fm [0, 1] [(.var 0), (.tup [(.var 3), (.cst (.int 1))])])])])]
theorem w_cond {m : Nat} (hm : 3 ≤ m) (ho : P[fo]? = some c_floor_of) {K a b c d : Int} (hK : K < 2 ^ 200) (i : Inv K a b c d) (c0 : 0 < c) {s2 s3 s4 : Sl} :
    toB (trim h (evE (call P m) (runL P) (fun _ => .bad) (wCond fo) [.v (frV (a, b)), .v (frV (c, d)), s2, s3, s4] h)) = .ok (decide (c.fdiv d * b < a)) h := by
  have b0 := i.l1.1
  have d0 := i.l2.1
  have e := a_floor ho (h := h) (a := c) (b := d) (S_of (by omega) i.kd hK) (by omega) m (by omega)
  have q1 : 0 ≤ c.fdiv d := Int.fdiv_nonneg (by omega) (by omega)
  have q2 : c.fdiv d ≤ c := by
    have e1 := Int.mul_fdiv_add_fmod c d
    have e2 := Int.fmod_nonneg_of_pos c d0
    have : 1 * c.fdiv d ≤ d * c.fdiv d := Int.mul_le_mul_of_nonneg_right (by omega) q1
    omega
  have l := log_sum q1 (by omega : 0 ≤ b) (by have := i.kc; omega) (by have := i.kb; omega)
  simp [evE, evEs, cmpB, permute, e, idxV, items?, place, bin, binI, l]
theorem w_body {m : Nat} (hm : 3 ≤ m) (ho : P[fo]? = some c_floor_of) (hmi : P[fm]? = some (c_minus ff)) (hra : P[fr]? = some (c_ratio ff)) (hff : P[ff]? = some (c_fraction_of x fd)) (hd : P[fd]? = some c_divisor_of)
    {K a b c d : Int} (hK : K < 2 ^ 200) (i : Inv K a b c d) (hc : c.fdiv d * b < a) {w : Nat} {acc : List Val} (hw : h[w]? = some (.lst acc)) (hl : acc.length < 16777216) {s3 s4 : Sl} :
    evSs (call P m) (runL P) (fun _ => .bad) (wBody fo fm fr) [.v (frV (a, b)), .v (frV (c, d)), .v (.ref w), s3, s4] h
      = .nx [.v (frV (d, c - a.fdiv b * d)), .v (frV (b, a - a.fdiv b * b)), .v (.ref w), .v (.int (a.fdiv b)), s4] (h.set w (.lst (acc ++ [.int (a.fdiv b)]))) := by
  obtain ⟨n0, nk, c0, a1, a2, c1, c2, i2⟩ := inv_step i hc
  have b0 := i.l1.1
  have d0 := i.l2.1
  have e := a_floor ho (h := h) (a := a) (b := b) (S_of (by omega) i.kb hK) (by omega) m (by omega)
  obtain ⟨n, en⟩ : ∃ n, n = a.fdiv b := ⟨_, rfl⟩
  rw [← en] at n0 nk a1 a2 c1 c2 i2 e ⊢
  have S1 : S 1 := S_of (K := 1) (by decide) (by decide) (by decide)
  have Sa := S_of (by have := i.a0; omega) i.ka hK
  have Sb := S_of (by omega) i.kb hK
  have Sc := S_of (by omega) i.kc hK
  have Sd := S_of (by omega) i.kd hK
  have Sn := S_of n0 nk hK
  obtain ⟨H, eH⟩ : ∃ H, H = h.set w (.lst (acc ++ [.int n])) := ⟨_, rfl⟩
  have m1 := a_minus hmi hff hd (h := H) (a := c) (b := d) (c := n) (d := 1) Sc Sd Sn S1 (by omega) (by decide) m hm
  have m2 := a_minus hmi hff hd (h := H) (a := a) (b := b) (c := n) (d := 1) Sa Sb Sn S1 (by omega) (by decide) m hm
  rw [Int.mul_one, Int.mul_one, red_same ⟨d0, i.l2.sub⟩] at m1
  rw [Int.mul_one, Int.mul_one, red_same ⟨b0, i.l1.sub⟩] at m2
  have r1 := a_ratio hra hff hd (h := H) (a := 1) (b := 1) (c := c - n * d) (d := d) S1 S1 (S_of (by omega) i2.kb hK) Sd (by decide) (by omega) m hm
  have r2 := a_ratio hra hff hd (h := H) (a := 1) (b := 1) (c := a - n * b) (d := b) S1 S1 (S_of (by omega) i2.kd hK) Sb (by decide) (by omega) m hm
  rw [Int.one_mul, Int.one_mul, red_same i2.l1] at r1
  rw [Int.one_mul, Int.one_mul, red_same i2.l2] at r2
  have s1 : evS (call P m) (runL P) (fun _ => .bad) (.asg (.name 3) (.call fo [0] [(.var 0)])) [.v (frV (a, b)), .v (frV (c, d)), .v (.ref w), s3, s4] h = .nx [.v (frV (a, b)), .v (frV (c, d)), .v (.ref w), .v (.int n), s4] h := by
    simp [evS, evE, evEs, permute, e, evT, keep]
  have s2 : evS (call P m) (runL P) (fun _ => .bad) (.ex (.meth .append (.var 2) [(.var 3)])) [.v (frV (a, b)), .v (frV (c, d)), .v (.ref w), .v (.int n), s4] h = .nx [.v (frV (a, b)), .v (frV (c, d)), .v (.ref w), .v (.int n), s4] H := by
    simp [evS, evE, evEs, recv, lst?, hw, methV, appV, hl, ← eH]
    rw [eH, trim_len (by simp), trim_len (by simp)]
    rfl
  have s3 : evS (call P m) (runL P) (fun _ => .bad) (.asg (.tup [(.name 0), (.name 1)]) (.tup [(.call fr [0, 1] [(.glob "ONE" (.tup [(.int 1), (.int 1)])), (.call fm [0, 1] [(.var 1), (.tup [(.var 3), (.cst (.int 1))])])]), (.call fr [0, 1] [(.glob "ONE" (.tup [(.int 1), (.int 1)])), (.call fm [0, 1] [(.var 0), (.tup [(.var 3), (.cst (.int 1))])])])])) [.v (frV (a, b)), .v (frV (c, d)), .v (.ref w), .v (.int n), s4] H = .nx [.v (frV (d, c - n * d)), .v (frV (b, a - n * b)), .v (.ref w), .v (.int n), s4] H := by
    simp [evS, evE, evEs, permute, m1, m2, r1, r2, evT, evTs, keep]
  exact ss_nx s1 (ss_nx s2 (ss_nx s3 (by rw [← eH]; rfl)))
end
end K03

set_option Elab.async false
set_option linter.all false
set_option maxRecDepth 10000
namespace K03
open PM
theorem Spec.le {p q a b c d : Int} (s : Spec p q a b c d) (hb : 0 < b) (h : a * d ≤ c * b) : p ≤ a ∧ q ≤ b := s.2.2.2.2 a b hb (by omega) h
/-- the ceiling of a fraction -/
abbrev ceilP (a b : Int) : Int × Int := (-((-a).fdiv b), 1)
section
variable {P : List Fn} {h : Heap} {f fo fm fr fpl ff fd x : Nat}
theorem walk (ho : P[fo]? = some c_floor_of) (hmi : P[fm]? = some (c_minus ff)) (hra : P[fr]? = some (c_ratio ff)) (hff : P[ff]? = some (c_fraction_of x fd)) (hd : P[fd]? = some c_divisor_of)
    {K : Int} (hK : K < 2 ^ 200) : ∀ (N : Nat) (a b c d : Int), Inv K a b c d → 0 < c → b + d ≤ N → ∃ (ws : List Int) (af bf : Int) (hf : Val), GoodR K ws.reverse (ceilP af bf) ∧ Spec (unwF ws (ceilP af bf)).1 (unwF ws (ceilP af bf)).2 a b c d ∧ 0 < bf ∧ af ≤ K ∧ 0 < af ∧ bf ≤ K ∧ ws.length ≤ N ∧
      ∀ (m : Nat), 3 ≤ m → ∀ (w : Nat) (acc : List Val) (s3 s4 : Sl) (h : Heap), h[w]? = some (.lst acc) → acc.length + N < 16777216 → ∃ t3, whL (fun ρ h => toB (trim h (evE (call P m) (runL P) (fun _ => .bad) (wCond fo) ρ h))) (evSs (call P m) (runL P) (fun _ => .bad) (wBody fo fm fr)) [.v (frV (a, b)), .v (frV (c, d)), .v (.ref w), s3, s4] h
        = .nx [.v (frV (af, bf)), .v hf, .v (.ref w), t3, s4] (h.set w (.lst (acc ++ ws.map .int))) := by
  intro N
  induction N using Nat.strongRecOn with
  | _ N ih =>
    intro a b c d i c0 hN
    have b0 := i.l1.1
    have d0 := i.l2.1
    by_cases q : c.fdiv d * b < a
    · obtain ⟨n0, nk, _, a1, a2, c1, c2, i2⟩ := inv_step i q
      obtain ⟨ws, af, bf, hf, g, sp, b1, ak, a1', bk, wl, ev⟩ := ih (N - 2) (by omega) d (c - a.fdiv b * d) b (a - a.fdiv b * b) i2 b0 (by omega)
      have sp2 := spec_step (a := a) (b := b) (c := c) (d := d) (n := a.fdiv b) b0 d0 (by omega : a = a.fdiv b * b + (a - a.fdiv b * b)) (by omega : c = a.fdiv b * d + (c - a.fdiv b * d)) n0 a1 c1 sp
      have le := sp2.le b0 i.le
      have e1 : unwF (a.fdiv b :: ws) (ceilP af bf) = (a.fdiv b * (unwF ws (ceilP af bf)).1 + (unwF ws (ceilP af bf)).2, (unwF ws (ceilP af bf)).1) := rfl
      refine ⟨a.fdiv b :: ws, af, bf, hf, ?_, by rw [e1]; exact sp2, b1, ak, a1', bk, by simp; omega, fun m hm w acc s3 s4 h hw hl => ?_⟩
      · rw [List.reverse_cons]
        have e2 : stepR (List.foldl stepR (ceilP af bf) ws.reverse) (a.fdiv b) = unwF (a.fdiv b :: ws) (ceilP af bf) := by rw [unw_rev, e1]; rfl
        refine GoodR.snoc g n0 nk ?_ ?_ ?_ ?_
        · rw [e2, e1]; exact sp2.1
        · rw [e2, e1]; exact sp2.2.1
        · rw [e2, e1]; exact Int.le_trans le.1 i.ka
        · rw [e2, e1]; exact Int.le_trans le.2 i.kb
      · obtain ⟨t3, e⟩ := ev m hm w (acc ++ [.int (a.fdiv b)]) (.v (.int (a.fdiv b))) s4 (h.set w (.lst (acc ++ [.int (a.fdiv b)]))) (List.getElem?_set_self (List.getElem?_eq_some_iff.mp hw).1) (by simp; omega)
        refine ⟨t3, ?_⟩
        have hc := w_cond (h := h) hm ho hK i c0 (s2 := .v (.ref w)) (s3 := s3) (s4 := s4)
        rw [decide_eq_true q] at hc
        refine whL_step hc (w_body hm ho hmi hra hff hd hK i q hw (by omega)) ?_
        rw [e, List.set_set, List.append_assoc]
        rfl
    · have sp := spec_end i.a0 b0 (by omega : 0 ≤ d) c0 (fun z => q z.2)
      have le := sp.le b0 i.le
      refine ⟨[], a, b, frV (c, d), ⟨sp.1, sp.2.1, Int.le_trans le.1 i.ka, Int.le_trans le.2 i.kb⟩, sp, b0, i.ka, i.a0, i.kb, by simp, fun m hm w acc s3 s4 h hw hl => ⟨s3, ?_⟩⟩
      have hc := w_cond (h := h) hm ho hK i c0 (s2 := .v (.ref w)) (s3 := s3) (s4 := s4)
      rw [decide_eq_false q] at hc
      rw [whL_stop hc, List.map_nil, List.append_nil, set_same hw]
theorem back {m : Nat} (hm : 3 ≤ m) (hpl : P[fpl]? = some (c_plus ff)) (hra : P[fr]? = some (c_ratio ff)) (hff : P[ff]? = some (c_fraction_of x fd)) (hdi : P[fd]? = some c_divisor_of)
    {K : Int} (hK : K < 2 ^ 200) {v0 v1 v2 : Sl} {gs : List (Nat × List Val)} (hd : holds h gs) : ∀ (r : List Int) (p : Int × Int) (s3 : Sl), GoodR K r p → ∃ t3,
    forL (evT (call P m) (runL P) (fun _ => .bad) (.name 3)) (evSs (call P m) (runL P) (fun _ => .bad) [.asg (.name 4) (.call fpl [0, 1] [(.tup [(.var 3), (.cst (.int 1))]), (.call fr [0, 1] [(.glob "ONE" (.tup [(.int 1), (.int 1)])), (.var 4)])])]) gs (r.map .int) [v0, v1, v2, s3, .v (frV p)] h = .nx [v0, v1, v2, t3, .v (frV (r.foldl stepR p))] h
  | [], p, s3, _ => ⟨s3, by rw [List.map_nil, forL, if_pos hd]; rfl⟩
  | w :: r, p, s3, g => by
    obtain ⟨⟨lo, p0, pk, qk⟩, w0, wk, g2⟩ := g
    have q0 := lo.1
    obtain ⟨t3, e⟩ := back hm hpl hra hff hdi hK (v0 := v0) (v1 := v1) (v2 := v2) hd r (stepR p w) (.v (.int w)) g2
    refine ⟨t3, ?_⟩
    have S1 : S 1 := S_of (K := 1) (by decide) (by decide) (by decide)
    have Sp := S_of (by omega) pk hK
    have Sq := S_of (by omega) qk hK
    have Sw := S_of w0 wk hK
    have lo' : Low p.2 p.1 := ⟨p0, by rw [Int.gcd_comm]; exact lo.2⟩
    have r1 := a_ratio hra hff hdi (h := h) (a := 1) (b := 1) (c := p.1) (d := p.2) S1 S1 Sp Sq (by decide) (by omega) m hm
    rw [Int.one_mul, Int.one_mul, red_same lo'] at r1
    have r2 := a_plus hpl hff hdi (h := h) (a := w) (b := 1) (c := p.2) (d := p.1) Sw S1 Sq Sp (by decide) (by omega) m hm
    have g3 : Low (w * p.1 + p.2) p.1 := by
      cases r with
      | nil => exact g2.1
      | cons v r => exact g2.1.1
    rw [Int.one_mul, Int.mul_one, red_same g3] at r2
    rw [List.map_cons, forL, if_pos hd, List.foldl_cons, ← e]
    simp [evT, evSs, evS, evE, evEs, permute, r1, r2, keep, stepR]
end
end K03

set_option Elab.async false
set_option linter.all false
set_option maxRecDepth 10000
namespace K03
open PM
theorem flats_ints : ∀ l : List Int, flats (l.map .int) = true
  | [] => rfl
  | x :: l => by rw [List.map_cons, flats_cons, flats_ints l]; rfl
section
variable {P : List Fn} {h : Heap} {f fo fm fr fpl ff fd x : Nat}
theorem a_above (hf : P[f]? = some (c_simplest_above fo fm fr fpl)) (ho : P[fo]? = some c_floor_of) (hmi : P[fm]? = some (c_minus ff)) (hra : P[fr]? = some (c_ratio ff)) (hpl : P[fpl]? = some (c_plus ff)) (hff : P[ff]? = some (c_fraction_of x fd)) (hdi : P[fd]? = some c_divisor_of)
    {K : Int} (hK : K < 2 ^ 200) {a b c d : Int} (i : Inv K a b c d) (c0 : 0 < c) (hN : b + d < 16777216) :
    ∃ p q, Spec p q a b c d ∧ Ans P 4 f [frV (a, b), frV (c, d)] h (.ok (frV (p, q)) h) := by
  have b0 := i.l1.1
  have d0 := i.l2.1
  obtain ⟨ws, af, bf, hf', g, sp, b1, ak, a1, bk, wl, ev⟩ := walk ho hmi hra hff hdi hK (b + d).toNat a b c d i c0 (by omega)
  obtain ⟨H, eH⟩ : ∃ H, H = h ++ [.lst (ws.map .int)] := ⟨_, rfl⟩
  refine ⟨_, _, sp, ans_of hf rfl fun m hm => ?_⟩
  obtain ⟨t3, e⟩ := ev m hm h.length [] .no .no (h ++ [.lst []]) (by simp) (by simp; omega)
  rw [show (h ++ [Ob.lst []]).set h.length (.lst ([] ++ ws.map .int)) = H from by rw [eH]; simp] at e
  have s1 : evS (call P m) (runL P) (fun _ => .bad) (.asg (.name 2) (.lst [])) [.v (frV (a, b)), .v (frV (c, d)), .no, .no, .no] h = .nx [.v (frV (a, b)), .v (frV (c, d)), .v (.ref h.length), .no, .no] (h ++ [.lst []]) := by
    simp [evS, evE, evEs, evT, keep]
  have s2 : evS (call P m) (runL P) (fun _ => .bad) (.while_ (wCond fo) (wBody fo fm fr)) [.v (frV (a, b)), .v (frV (c, d)), .v (.ref h.length), .no, .no] (h ++ [.lst []]) = .nx [.v (frV (af, bf)), .v hf', .v (.ref h.length), t3, .no] H := e
  have efl := a_floor ho (h := H) (a := -af) (b := bf) (S_of (by omega) bk hK) (by omega) m (by omega)
  have s3 : evS (call P m) (runL P) (fun _ => .bad) (.asg (.name 4) (.tup [(.neg (.call fo [0] [(.tup [(.neg (.idx (.var 0) (.cst (.int 0)))), (.idx (.var 0) (.cst (.int 1)))])])), (.cst (.int 1))])) [.v (frV (af, bf)), .v hf', .v (.ref h.length), t3, .no] H = .nx [.v (frV (af, bf)), .v hf', .v (.ref h.length), t3, .v (frV (ceilP af bf))] H := by
    simp [evS, evE, evEs, idxV, items?, place, permute, efl, evT, keep]
  have er := ex_tmp (cl := call P m) (clL := runL P) (act := fun _ => .bad) (e := .rev (.var 2)) (ρ := [.v (frV (af, bf)), .v hf', .v (.ref h.length), t3, .v (frV (ceilP af bf))]) (h := H) (vs := ws.reverse.map .int) (by
    have : lst? H (.ref h.length) = some (ws.map .int) := by rw [eH]; simp [lst?]
    simp [evE, this, List.map_reverse]) (flats_ints _)
  obtain ⟨t4, eb⟩ := back (m := m) hm hpl hra hff hdi hK (h := H) (v0 := .v (frV (af, bf))) (v1 := .v hf') (v2 := .v (.ref h.length)) (gs := []) (fun g hg => by cases hg) ws.reverse (ceilP af bf) t3 g
  rw [unw_rev] at eb
  have s4 : evS (call P m) (runL P) (fun _ => .bad) (.for_ (.name 3) (.ex (.rev (.var 2))) [.asg (.name 4) (.call fpl [0, 1] [(.tup [(.var 3), (.cst (.int 1))]), (.call fr [0, 1] [(.glob "ONE" (.tup [(.int 1), (.int 1)])), (.var 4)])])]) [.v (frV (af, bf)), .v hf', .v (.ref h.length), t3, .v (frV (ceilP af bf))] H = .nx [.v (frV (af, bf)), .v hf', .v (.ref h.length), t4, .v (frV (unwF ws (ceilP af bf)))] H := by
    simp only [evS, er]
    exact eb
  show fin h (evSs (call P m) (runL P) (fun _ => .bad) (c_simplest_above fo fm fr fpl).body [.v (frV (a, b)), .v (frV (c, d)), .no, .no, .no] h) = _
  rw [show evSs (call P m) (runL P) (fun _ => .bad) (c_simplest_above fo fm fr fpl).body [.v (frV (a, b)), .v (frV (c, d)), .no, .no, .no] h = .rt (frV (unwF ws (ceilP af bf))) H from ss_nx s1 (ss_nx s2 (ss_nx s3 (ss_nx s4 (ss_rt (by simp [evS, evE])))))]
  rw [eH]
  simp [fin]
theorem a_aboveN (hf : P[f]? = some (c_simplest_above fo fm fr fpl)) (ho : P[fo]? = some c_floor_of) {K : Int} (hK : K < 2 ^ 200) {a b : Int} (a0 : 0 < a) (b0 : 0 < b) (bk : b ≤ K) :
    Ans P 2 f [frV (a, b), .non] h (.ok (frV (ceilP a b)) h) := by
  refine ans_of hf rfl fun m hm => ?_
  obtain ⟨H, eH⟩ : ∃ H, H = h ++ [Ob.lst []] := ⟨_, rfl⟩
  have s1 : evS (call P m) (runL P) (fun _ => .bad) (.asg (.name 2) (.lst [])) [.v (frV (a, b)), .v .non, .no, .no, .no] h = .nx [.v (frV (a, b)), .v .non, .v (.ref h.length), .no, .no] H := by
    rw [eH]
    simp [evS, evE, evEs, evT, keep]
  have s2 : evS (call P m) (runL P) (fun _ => .bad) (.while_ (wCond fo) (wBody fo fm fr)) [.v (frV (a, b)), .v .non, .v (.ref h.length), .no, .no] H = .nx [.v (frV (a, b)), .v .non, .v (.ref h.length), .no, .no] H := by
    simp only [evS]
    exact whL_stop (by simp [evE, cmpB])
  have efl := a_floor ho (h := H) (a := -a) (b := b) (S_of (by omega) bk hK) (by omega) m (by omega)
  have s3 : evS (call P m) (runL P) (fun _ => .bad) (.asg (.name 4) (.tup [(.neg (.call fo [0] [(.tup [(.neg (.idx (.var 0) (.cst (.int 0)))), (.idx (.var 0) (.cst (.int 1)))])])), (.cst (.int 1))])) [.v (frV (a, b)), .v .non, .v (.ref h.length), .no, .no] H = .nx [.v (frV (a, b)), .v .non, .v (.ref h.length), .no, .v (frV (ceilP a b))] H := by
    simp [evS, evE, evEs, idxV, items?, place, permute, efl, evT, keep]
  have er := ex_tmp (cl := call P m) (clL := runL P) (act := fun _ => .bad) (e := .rev (.var 2)) (ρ := [.v (frV (a, b)), .v .non, .v (.ref h.length), .no, .v (frV (ceilP a b))]) (h := H) (vs := []) (by
    have : lst? H (.ref h.length) = some [] := by rw [eH]; simp [lst?]
    simp [evE, this]) rfl
  have s4 : evS (call P m) (runL P) (fun _ => .bad) (.for_ (.name 3) (.ex (.rev (.var 2))) [.asg (.name 4) (.call fpl [0, 1] [(.tup [(.var 3), (.cst (.int 1))]), (.call fr [0, 1] [(.glob "ONE" (.tup [(.int 1), (.int 1)])), (.var 4)])])]) [.v (frV (a, b)), .v .non, .v (.ref h.length), .no, .v (frV (ceilP a b))] H = .nx [.v (frV (a, b)), .v .non, .v (.ref h.length), .no, .v (frV (ceilP a b))] H := by
    simp only [evS, er]
    rw [forL, if_pos (show holds H [] from fun g hg => by cases hg)]
  show fin h (evSs (call P m) (runL P) (fun _ => .bad) (c_simplest_above fo fm fr fpl).body [.v (frV (a, b)), .v .non, .no, .no, .no] h) = _
  rw [show evSs (call P m) (runL P) (fun _ => .bad) (c_simplest_above fo fm fr fpl).body [.v (frV (a, b)), .v .non, .no, .no, .no] h = .rt (frV (ceilP a b)) H from ss_nx s1 (ss_nx s2 (ss_nx s3 (ss_nx s4 (ss_rt (by simp [evS, evE])))))]
  rw [eH]
  simp [fin]
end
end K03

set_option Elab.async false
set_option linter.all false
set_option maxRecDepth 10000
namespace K03
open PM
section
variable {h : Heap}
theorem log2S {a b K : Int} (h0 : 0 ≤ b) (hb : b ≤ K) (ha0 : -K ≤ a) (ha : a ≤ K) (hK : K < 2 ^ 200) : a.natAbs.log2 + b.natAbs.log2 < 1000000 := by
  have h1 := log_le h0 (Int.lt_of_le_of_lt hb hK) (by omega)
  have h2 : a.natAbs.log2 < 200 := log_lt (by have : (a.natAbs : Int) < 2 ^ 200 := by omega
                                              exact_mod_cast this) (by omega)
  omega
theorem z_above {K : Int} (hK : K < 2 ^ 200) {a b c d : Int} (i : Inv K a b c d) (c0 : 0 < c) (hN : b + d < 16777216) :
    ∃ p q, Spec p q a b c d ∧ Ans prog 5 i_simplest [frV (a, b), frV (c, d)] h (.ok (frV (p, q)) h) := by
  obtain ⟨p, q, sp, e⟩ := a_above (P := prog) (f := i_simplest_above) (h := h) rfl rfl rfl rfl rfl rfl rfl hK i c0 hN
  have b0 := i.l1.1
  have d0 := i.l2.1
  have el := a_less (P := prog) (f := i_less) (h := h) rfl (a := c) (b := d) (c := a) (d := b) (log2S (by omega) i.kb (by have := i.ka; have := i.a0; omega) i.kc hK) (log2S (by omega) i.kd (by have := i.a0; have := i.ka; omega) i.ka hK)
  rw [decide_eq_false (by have := i.le; omega)] at el
  refine ⟨p, q, sp, ans_of rfl rfl fun m hm => ?_⟩
  have e1 := e m hm
  have e2 := el m (by omega)
  simp [c_simplest, evSs, evS, evE, evEs, start, cmpB, permute, e1, e2, idxV, items?, place, i.a0, fin]
theorem z_aboveN {K : Int} (hK : K < 2 ^ 200) {a b : Int} (a0 : 0 < a) (b0 : 0 < b) (bk : b ≤ K) : Ans prog 3 i_simplest [frV (a, b), .non] h (.ok (frV (ceilP a b)) h) := by
  have e := a_aboveN (P := prog) (f := i_simplest_above) (fm := i_minus) (fr := i_ratio) (fpl := i_plus) (h := h) rfl rfl hK a0 b0 bk
  refine ans_of rfl rfl fun m hm => ?_
  have e1 := e m hm
  simp [c_simplest, evSs, evS, evE, evEs, start, cmpB, permute, e1, idxV, items?, place, a0, fin]
theorem z_below {K : Int} (hK : K < 2 ^ 200) {a b c d : Int} (i : Inv K a b c d) (c0 : 0 < c) (hN : b + d < 16777216) :
    ∃ p q, Spec p q a b c d ∧ Ans prog 5 i_simplest [frV (-c, d), frV (-a, b)] h (.ok (frV (-p, q)) h) := by
  obtain ⟨p, q, sp, e⟩ := a_above (P := prog) (f := i_simplest_above) (h := h) rfl rfl rfl rfl rfl rfl rfl hK i c0 hN
  have b0 := i.l1.1
  have d0 := i.l2.1
  have a0 := i.a0
  have el := a_less (P := prog) (f := i_less) (h := h) rfl (a := -a) (b := b) (c := -c) (d := d) (log2S (by omega) i.kd (by have := i.ka; omega) (by have := i.ka; omega) hK) (log2S (by omega) i.kb (by have := i.kc; omega) (by have := i.kc; omega) hK)
  rw [decide_eq_false (by have := i.le; rw [Int.neg_mul, Int.neg_mul]; omega)] at el
  refine ⟨p, q, sp, ans_of rfl rfl fun m hm => ?_⟩
  have e1 := e m hm
  have e2 := el m (by omega)
  have c1 : ¬ 0 < -c := by omega
  have c2 : ¬ c < 0 := by omega
  have a2 : -a < 0 := by omega
  simp [c_simplest, evSs, evS, evE, evEs, start, cmpB, permute, e1, e2, idxV, items?, place, a0, c0, c1, c2, a2, fin, evT, keep]
theorem z_belowN {K : Int} (hK : K < 2 ^ 200) {a b : Int} (a0 : 0 < a) (b0 : 0 < b) (bk : b ≤ K) : Ans prog 3 i_simplest [.non, frV (-a, b)] h (.ok (frV (-(ceilP a b).1, 1)) h) := by
  have e := a_aboveN (P := prog) (f := i_simplest_above) (fm := i_minus) (fr := i_ratio) (fpl := i_plus) (h := h) rfl rfl hK a0 b0 bk
  refine ans_of rfl rfl fun m hm => ?_
  have e1 := e m hm
  have a2 : -a < 0 := by omega
  simp [c_simplest, evSs, evS, evE, evEs, start, cmpB, permute, e1, idxV, items?, place, a0, a2, fin, evT, keep]
/-- 0 lies in the range -/
theorem z_zero {K : Int} (hK : K < 2 ^ 200) {a b c d : Int} (ha : a ≤ 0) (hc : 0 ≤ c) (b0 : 0 < b) (d0 : 0 < d) (ka : -K ≤ a) (kb : b ≤ K) (kc : c ≤ K) (kd : d ≤ K) : Ans prog 3 i_simplest [frV (a, b), frV (c, d)] h (.ok (frV (0, 1)) h) := by
  have el := a_less (P := prog) (f := i_less) (h := h) rfl (a := c) (b := d) (c := a) (d := b) (log2S (by omega) kb (by omega) kc hK) (log2S (by omega) kd (by omega) (by omega) hK)
  rw [decide_eq_false (by have := Int.mul_nonneg hc (by omega : 0 ≤ b); have := Int.mul_nonneg (by omega : 0 ≤ -a) (by omega : 0 ≤ d); rw [Int.neg_mul] at this; omega)] at el
  refine ans_of rfl rfl fun m hm => ?_
  have e2 := el m (by omega)
  have c1 : ¬ 0 < a := by omega
  have c2 : ¬ c < 0 := by omega
  simp [c_simplest, evSs, evS, evE, evEs, start, cmpB, permute, e2, idxV, items?, place, c1, c2, fin]
theorem z_zeroL {c d : Int} (hc : 0 ≤ c) : Ans prog 3 i_simplest [.non, frV (c, d)] h (.ok (frV (0, 1)) h) := by
  refine ans_of rfl rfl fun m hm => ?_
  have c2 : ¬ c < 0 := by omega
  simp [c_simplest, evSs, evS, evE, evEs, start, cmpB, permute, idxV, items?, place, c2, fin]
theorem z_zeroR {a b : Int} (ha : a ≤ 0) : Ans prog 3 i_simplest [frV (a, b), .non] h (.ok (frV (0, 1)) h) := by
  refine ans_of rfl rfl fun m hm => ?_
  have c1 : ¬ 0 < a := by omega
  simp [c_simplest, evSs, evS, evE, evEs, start, cmpB, permute, idxV, items?, place, c1, fin]
theorem z_zeroN : Ans prog 3 i_simplest [.non, .non] h (.ok (frV (0, 1)) h) := by
  refine ans_of rfl rfl fun m hm => ?_
  simp [c_simplest, evSs, evS, evE, evEs, start, cmpB, permute, idxV, items?, place, fin]
/-- the range is empty -/
theorem z_none {K : Int} (hK : K < 2 ^ 200) {a b c d : Int} (b0 : 0 < b) (d0 : 0 < d) (ka : -K ≤ a) (ka2 : a ≤ K) (kb : b ≤ K) (kc : -K ≤ c) (kc2 : c ≤ K) (kd : d ≤ K) (e : c * b < a * d) : Ans prog 2 i_simplest [frV (a, b), frV (c, d)] h (.exc ⟨x_Refused, "word", .str "none"⟩ h) := by
  have el := a_less (P := prog) (f := i_less) (h := h) rfl (a := c) (b := d) (c := a) (d := b) (log2S (by omega) kb (by omega) kc2 hK) (log2S (by omega) kd (by omega) (by omega) hK)
  rw [decide_eq_true e] at el
  refine ans_of rfl rfl fun m hm => ?_
  have e2 := el m (by omega)
  simp [c_simplest, evSs, evS, evE, evEs, start, cmpB, permute, e2, fin]
end
end K03

set_option Elab.async false
set_option linter.all false
set_option maxRecDepth 10000
namespace K03
open PM
abbrev Tm := Int × (Int × Int)
/-- the law's own sum, not reduced -/
def lawTB (s : Int × Int) (L : List Tm) : Int × Int := L.foldl (fun s p => (s.1 * p.2.2 + p.1 * p.2.1 * s.2, s.2 * p.2.2)) s
theorem S_nat {a : Int} {k : Nat} (h : a.natAbs ≤ 2 ^ k) (hk : k < 400) : S a := Nat.lt_of_le_of_lt h (Nat.pow_lt_pow_right (by omega) hk)
theorem grow {T c m a B : Int} {n : Nat} (h1 : T.natAbs ≤ 2 ^ (60 * n)) (h2 : B.natAbs ≤ 2 ^ (30 * n)) (hc : c.natAbs ≤ 1000000000) (hm : m.natAbs ≤ 4) (ha : a.natAbs ≤ 1000000000) :
    (T * c + m * a * B).natAbs ≤ 2 ^ (60 * (n + 1)) ∧ (B * c).natAbs ≤ 2 ^ (30 * (n + 1)) := by
  have e1 : (2 : Nat) ^ (60 * (n + 1)) = 2 ^ (60 * n) * 2 ^ 60 := by rw [← Nat.pow_add]; rfl
  have e2 : (2 : Nat) ^ (30 * (n + 1)) = 2 ^ (30 * n) * 2 ^ 30 := by rw [← Nat.pow_add]; rfl
  have p : (2 : Nat) ^ (30 * n) ≤ 2 ^ (60 * n) := Nat.pow_le_pow_right (by omega) (by omega)
  constructor
  · refine Nat.le_trans (Int.natAbs_add_le _ _) ?_
    rw [Int.natAbs_mul, Int.natAbs_mul, Int.natAbs_mul, e1]
    have q1 : T.natAbs * c.natAbs ≤ 2 ^ (60 * n) * 1000000000 := Nat.mul_le_mul h1 hc
    have q2 : m.natAbs * a.natAbs * B.natAbs ≤ 4 * 1000000000 * 2 ^ (60 * n) := Nat.mul_le_mul (Nat.mul_le_mul hm ha) (Nat.le_trans h2 p)
    omega
  · rw [Int.natAbs_mul, e2]
    exact Nat.mul_le_mul h2 (Nat.le_trans hc (by decide))
section
variable {h : Heap}
abbrev tmV (p : Tm) : Val := .tup [.int p.1, frV p.2]
theorem weighed_for {v0 v1 : Sl} {gs : List (Nat × List Val)} (hd : holds h gs) : ∀ (L : List Tm) (n : Nat) (T B t b : Int), Low T B → T * b = t * B → T.natAbs ≤ 2 ^ (60 * n) → B.natAbs ≤ 2 ^ (30 * n) → n + L.length ≤ 6 → (∀ p ∈ L, p.1.natAbs ≤ 4 ∧ Fr p.2.1 p.2.2) →
    ∃ T' B', Low T' B' ∧ T' * (lawTB (t, b) L).2 = (lawTB (t, b) L).1 * B' ∧ T'.natAbs ≤ 2 ^ 360 ∧ B'.natAbs ≤ 2 ^ 180 ∧ ∀ m, 3 ≤ m → ∀ s3 s4, ∃ t3 t4,
    forL (evT (call prog m) (runL prog) (fun _ => .bad) (.tup [(.name 3), (.name 4)])) (evSs (call prog m) (runL prog) (fun _ => .bad) [.ite (.cmp .ne (.var 3) (.cst (.int 0))) [.asg (.name 2) (.call i_plus [0, 1] [(.var 2), (.tup [(.bin .mul (.var 3) (.idx (.var 4) (.cst (.int 0)))), (.idx (.var 4) (.cst (.int 1)))])])] []]) gs (L.map tmV) [v0, v1, .v (frV (T, B)), s3, s4] h = .nx [v0, v1, .v (frV (T', B')), t3, t4] h
  | [], n, T, B, t, b, lo, e, h1, h2, hn, _ => ⟨T, B, lo, e, Nat.le_trans h1 (Nat.pow_le_pow_right (by omega) (by simp at hn; omega)), Nat.le_trans h2 (Nat.pow_le_pow_right (by omega) (by simp at hn; omega)), fun m hm s3 s4 => ⟨s3, s4, by rw [List.map_nil, forL, if_pos hd]⟩⟩
  | (k, (a, c)) :: L, n, T, B, t, b, lo, e, h1, h2, hn, hL => by
    obtain ⟨k4, fr⟩ := hL (k, (a, c)) (List.mem_cons_self ..)
    have hL2 : ∀ p ∈ L, p.1.natAbs ≤ 4 ∧ Fr p.2.1 p.2.2 := fun p hp => hL p (List.mem_cons_of_mem _ hp)
    dsimp only at k4 fr
    obtain ⟨lf, fa, fc⟩ := fr
    have c0 := lf.1
    have B0 := lo.1
    have hn2 : n + 1 + L.length ≤ 6 := by rw [List.length_cons] at hn; omega
    obtain ⟨g1, g2⟩ := grow h1 h2 (by omega : c.natAbs ≤ 1000000000) k4 fa
    by_cases z : k = 0
    · subst z
      obtain ⟨T', B', lo', e', b1, b2, ev⟩ := weighed_for (v0 := v0) (v1 := v1) hd L (n + 1) T B (t * c + 0 * a * b) (b * c) lo (by grind) (Nat.le_trans h1 (Nat.pow_le_pow_right (by omega) (by omega))) (Nat.le_trans h2 (Nat.pow_le_pow_right (by omega) (by omega))) hn2 hL2
      refine ⟨T', B', lo', e', b1, b2, fun m hm s3 s4 => ?_⟩
      obtain ⟨t3, t4, q⟩ := ev m hm (.v (.int 0)) (.v (frV (a, c)))
      refine ⟨t3, t4, ?_⟩
      rw [List.map_cons, forL, if_pos hd, ← q]
      simp [evT, evTs, evSs, evS, evE, cmpB, heq, Val.eqb, veq]
    · obtain ⟨T1, B1, er, lo1, e1, m1, m2⟩ := red_low (t := T * c + k * a * B) (b := B * c) (Int.mul_ne_zero (by omega) (by omega))
      obtain ⟨T', B', lo', e', b1, b2, ev⟩ := weighed_for (v0 := v0) (v1 := v1) hd L (n + 1) T1 B1 (t * c + k * a * b) (b * c) lo1 (by
        have hB : B ≠ 0 := by omega
        refine Int.eq_of_mul_eq_mul_right hB ?_
        grind) (Nat.le_trans m1 g1) (Nat.le_trans m2 g2) hn2 hL2
      refine ⟨T', B', lo', e', b1, b2, fun m hm s3 s4 => ?_⟩
      obtain ⟨t3, t4, q⟩ := ev m hm (.v (.int k)) (.v (frV (a, c)))
      refine ⟨t3, t4, ?_⟩
      have ska : S (k * a) := S_nat (k := 32) (by rw [Int.natAbs_mul]; exact Nat.le_trans (Nat.mul_le_mul k4 fa) (by decide)) (by omega)
      have sk : S k := S_nat (k := 3) (by omega) (by omega)
      have sa : S a := S_nat (k := 30) (by omega) (by omega)
      have ep := a_plus (P := prog) (f := i_plus) (ff := i_fraction_of) (fd := i_divisor_of) (x := x_InvalidNumber) (h := h) rfl rfl rfl (a := T) (b := B) (c := k * a) (d := c) (S_nat h1 (by omega)) (S_nat h2 (by omega)) ska (S_nat (k := 30) (by omega) (by omega)) (by omega) (by omega) m hm
      rw [er] at ep
      rw [List.map_cons, forL, if_pos hd, ← q]
      simp [evT, evTs, evSs, evS, evE, evEs, cmpB, heq, Val.eqb, veq, z, idxV, items?, place, bin, binI, sk.two sa, permute, ep, keep]
end
end K03

set_option Elab.async false
set_option linter.all false
set_option maxRecDepth 10000
namespace K03
open PM
theorem pairUp_map : ∀ L : List Tm, pairUp (L.map fun p => Val.int p.1) (L.map fun p => frV p.2) = L.map tmV
  | [] => rfl
  | p :: L => by rw [List.map_cons, List.map_cons, pairUp, pairUp_map L]; rfl
section
variable {h : Heap}
theorem a_weighed (L : List Tm) (hn : L.length ≤ 6) (hL : ∀ p ∈ L, p.1.natAbs ≤ 4 ∧ Fr p.2.1 p.2.2) : ∃ T B, Low T B ∧ T * (lawTB (0, 1) L).2 = (lawTB (0, 1) L).1 * B ∧ T.natAbs ≤ 2 ^ 360 ∧ B.natAbs ≤ 2 ^ 180 ∧
    Ans prog 4 i_weighed [.tup (L.map fun p => .int p.1), .tup (L.map fun p => frV p.2)] h (.ok (frV (T, B)) h) := by
  have hd : holds h [] := fun g hg => by cases hg
  obtain ⟨T, B, lo, e, b1, b2, ev⟩ := weighed_for (h := h) (v0 := .v (.tup (L.map fun p => .int p.1))) (v1 := .v (.tup (L.map fun p => frV p.2))) hd L 0 0 1 0 1 ⟨by decide, by decide⟩ rfl (by decide) (by decide) (by omega) hL
  refine ⟨T, B, lo, e, b1, b2, ans_of rfl rfl fun m hm => ?_⟩
  obtain ⟨t3, t4, q⟩ := ev m hm .no .no
  obtain ⟨gs, ed, hg⟩ := drop_same (h := h) (s := ((L.map fun p => Val.int p.1) ++ (L.map fun p => frV p.2), []))
  have ei : evI (call prog m) (runL prog) (fun _ => .bad) (.zip (.var 0) (.var 1)) [.v (.tup (L.map fun p => .int p.1)), .v (.tup (L.map fun p => frV p.2)), .v (frV (0, 1)), .no, .no] h = .ok (L.map tmV, []) h := by
    have ed' : dropSrc h ((L.map fun p => Val.int p.1) ++ (L.map fun p => frV p.2), []) h = .ok ((L.map fun p => Val.int p.1) ++ (L.map fun p => frV p.2), []) h := by
      unfold dropSrc
      simp
    simp [evI, evE, alike, src1, ed', pairUp_map]
  have s1 : evS (call prog m) (runL prog) (fun _ => .bad) (.asg (.name 2) (.glob "ZERO" (.tup [(.int 0), (.int 1)]))) [.v (.tup (L.map fun p => .int p.1)), .v (.tup (L.map fun p => frV p.2)), .no, .no, .no] h = .nx [.v (.tup (L.map fun p => .int p.1)), .v (.tup (L.map fun p => frV p.2)), .v (frV (0, 1)), .no, .no] h := by
    simp [evS, evE, evT, keep]
  have s2 : evS (call prog m) (runL prog) (fun _ => .bad) (.for_ (.tup [(.name 3), (.name 4)]) (.zip (.var 0) (.var 1)) [.ite (.cmp .ne (.var 3) (.cst (.int 0))) [.asg (.name 2) (.call i_plus [0, 1] [(.var 2), (.tup [(.bin .mul (.var 3) (.idx (.var 4) (.cst (.int 0)))), (.idx (.var 4) (.cst (.int 1)))])])] []]) [.v (.tup (L.map fun p => .int p.1)), .v (.tup (L.map fun p => frV p.2)), .v (frV (0, 1)), .no, .no] h = .nx [.v (.tup (L.map fun p => .int p.1)), .v (.tup (L.map fun p => frV p.2)), .v (frV (T, B)), t3, t4] h := by
    simp only [evS, ei]
    exact q
  show fin h (evSs (call prog m) (runL prog) (fun _ => .bad) (c_weighed i_plus).body [.v (.tup (L.map fun p => .int p.1)), .v (.tup (L.map fun p => frV p.2)), .no, .no, .no] h) = _
  rw [show evSs (call prog m) (runL prog) (fun _ => .bad) (c_weighed i_plus).body [.v (.tup (L.map fun p => .int p.1)), .v (.tup (L.map fun p => frV p.2)), .no, .no, .no] h = .rt (frV (T, B)) h from ss_nx s1 (ss_nx s2 (ss_rt (by simp [evS, evE])))]
  simp [fin]
end
end K03

set_option Elab.async false
set_option linter.all false
set_option maxRecDepth 10000
namespace K03
open PM
section
variable {h : Heap}
def isFr (a b : Int) : Bool := decide (0 < b) && decide (Int.gcd a b = 1)
theorem a_is2 (a b : Int) : Ans prog 2 i__law_is [frV (a, b)] h (.ok (.bl (isFr a b)) h) := by
  refine ans_of rfl rfl fun m hm => ?_
  have e := a_common (P := prog) (f := i__law_common) rfl (h := h) (s := .tup [.int a, .int b]) (l := [a, b]) rfl m hm
  rw [gcdL2] at e
  obtain ⟨gs, ei, hd⟩ := ex_src (cl := call prog m) (clL := runL prog) (act := fun _ => .bad) (e := .var 0) (ρ := [.v (frV (a, b)), .no]) (h := h) (v := frV (a, b)) (by simp [evE]) rfl
  have ec := comp_ev (own := [1]) (t := .name 1) (cond := .cst (.bl true)) (elt := .and (.isa (.var 1) .int) (.not (.isa (.var 1) .bool))) ei hd (f := fun _ => .bl true) (fun v hv => by
    obtain ⟨z, rfl⟩ : ∃ z, v = .int z := by simp at hv; rcases hv with r | r <;> exact ⟨_, r⟩
    exact ⟨_, by simp [evT, wipe]; rfl, by simp [evE], by simp [evE, isaB]⟩) (by simp)
  simp only [List.map_cons, List.map_nil] at ec
  by_cases hp : 0 < b
  · have t2 : isFr a b = decide (Int.gcd a b = 1) := by simp [isFr, hp]
    rw [t2]
    simp [c__law_is, evSs, evS, start, fin, ↓ec, evE, evEs, isaB, items?, lst?, bl1, cmpB, heq, Val.eqb, veq, permute, e, place, idxV, hp, blOf]
    by_cases q : Int.gcd a b = 1
    · simp [q]
    · have q2 : ¬ ((Int.gcd a b : Int) = 1) := by omega
      simp [q, q2]
  · have t2 : isFr a b = false := by simp [isFr, hp]
    rw [t2]
    simp [c__law_is, evSs, evS, start, fin, ↓ec, evE, evEs, isaB, items?, lst?, bl1, cmpB, heq, Val.eqb, veq, permute, e, place, idxV, hp, blOf]
theorem a_isint {P : List Fn} {f : Nat} (hf : P[f]? = some c_is_integer) (z : Int) : Ans P 1 f [.int z] h (.ok (.bl true) h) := by
  refine ans_of hf rfl fun m hm => ?_
  simp [c_is_integer, evSs, start, evS, evE, isaB, fin]
theorem a_isf2' {P : List Fn} {f fi fd : Nat} (hf : P[f]? = some (c_is_fraction fi fd)) (hi : P[fi]? = some c_is_integer) (hd : P[fd]? = some c_divisor_of) (a b : Int) : Ans P 2 f [frV (a, b)] h (.ok (.bl (isFr a b)) h) := by
  refine ans_of hf rfl fun m hm => ?_
  have e := a_div hd (h := h) (a := a) (b := b) m hm
  obtain ⟨gs, ei, hg⟩ := ex_src (cl := call P m) (clL := runL P) (act := fun _ => .bad) (e := .var 0) (ρ := [.v (frV (a, b)), .no]) (h := h) (v := frV (a, b)) (by simp [evE]) rfl
  have ec := comp_ev (own := [1]) (t := .name 1) (cond := .cst (.bl true)) (elt := .call fi [0] [(.var 1)]) ei hg (f := fun _ => .bl true) (fun v hv => by
    obtain ⟨z, rfl⟩ : ∃ z, v = .int z := by simp at hv; rcases hv with r | r <;> exact ⟨_, r⟩
    exact ⟨_, by simp [evT, wipe]; rfl, by simp [evE], by simp [evE, evEs, permute, a_isint hi z m (by omega)]⟩) (by simp)
  simp only [List.map_cons, List.map_nil] at ec
  have s1 : evS (call P m) (runL P) (fun _ => .bad) (.ite (.or (.not (.isa (.var 0) .tuple)) (.or (.cmp .ne (.b1 .len (.var 0)) (.cst (.int 2))) (.not (.b1 .all (.comp [1] (.name 1) (.ex (.var 0)) (.cst (.bl true)) (.call fi [0] [(.var 1)])))))) [.ret (.cst (.bl false))] []) [.v (frV (a, b)), .no] h = .nx [.v (frV (a, b)), .no] h :=
    ite_f (or_f (h1 := h) (by simp [evE, isaB]) (or_f (h1 := h) (by simp [evE, bl1, items?, cmpB, heq, Val.eqb, veq]) (by simp [evE, ↓ec, bl1, lst?, blOf])))
  show fin h (evSs (call P m) (runL P) (fun _ => .bad) (c_is_fraction fi fd).body [.v (frV (a, b)), .no] h) = _
  rw [show evSs (call P m) (runL P) (fun _ => .bad) (c_is_fraction fi fd).body [.v (frV (a, b)), .no] h = .rt (.bl (isFr a b)) h from ss_nx s1 (ss_rt (by
    by_cases hp : 0 < b
    · have t2 : isFr a b = decide (Int.gcd a b = 1) := by simp [isFr, hp]
      rw [t2]
      simp [evS, evE, evEs, cmpB, heq, Val.eqb, veq, permute, e, place, idxV, items?, hp]
      by_cases q : Int.gcd a b = 1
      · simp [q]
      · have q2 : ¬ ((Int.gcd a b : Int) = 1) := by omega
        simp [q, q2]
    · have t2 : isFr a b = false := by simp [isFr, hp]
      rw [t2]
      simp [evS, evE, evEs, cmpB, place, idxV, items?, hp]))]
  simp [fin]
theorem a_isf2 (a b : Int) : Ans prog 2 i_is_fraction [frV (a, b)] h (.ok (.bl (isFr a b)) h) := a_isf2' rfl rfl rfl a b
end
end K03

set_option Elab.async false
set_option linter.all false
set_option maxRecDepth 10000
namespace K03
open PM
section
variable {h : Heap}
/-- told alike by the two -/
def Both (h : Heap) (v : Val) : Prop := ∃ t : Bool, Ans prog 2 i__law_is [v] h (.ok (.bl t) h) ∧ Ans prog 2 i_is_fraction [v] h (.ok (.bl t) h)
theorem both_pair (a b : Int) : Both h (frV (a, b)) := ⟨isFr a b, a_is2 a b, a_isf2 a b⟩
theorem both_no {v : Val} (hv : isaB h v .tuple = some false) : Both h v := by
  refine ⟨false, ans_of rfl rfl fun m hm => ?_, ans_of rfl rfl fun m hm => ?_⟩
  · simp [c__law_is, evSs, evS, start, fin, evE, hv]
  · simp [c_is_fraction, evSs, evS, start, fin, evE, hv]
theorem both_len {vs : List Val} (hv : vs.length ≠ 2) : Both h (.tup vs) := by
  have h2 : ¬ ((vs.length : Int) = 2) := by omega
  refine ⟨false, ans_of rfl rfl fun m hm => ?_, ans_of rfl rfl fun m hm => ?_⟩
  · simp [c__law_is, evSs, evS, start, fin, evE, isaB, bl1, items?, cmpB, heq, Val.eqb, veq, h2]
  · simp [c_is_fraction, evSs, evS, start, fin, evE, isaB, bl1, items?, cmpB, heq, Val.eqb, veq, h2]
def isI : Val → Bool
  | .int _ => true
  | _ => false
def noRef : Val → Bool
  | .ref _ => false
  | .scr _ => false
  | _ => true
theorem a_isI {P : List Fn} {f : Nat} (hf : P[f]? = some c_is_integer) (v : Val) (nv : noRef v = true) : Ans P 1 f [v] h (.ok (.bl (isI v)) h) := by
  refine ans_of hf rfl fun m hm => ?_
  cases v with
  | ref _ => cases nv
  | scr _ => cases nv
  | _ => simp [c_is_integer, evSs, start, evS, evE, isaB, fin, isI]
theorem both_mixed {v w : Val} (nv : noRef v = true) (nw : noRef w = true) (hn : (isI v && isI w) = false) : Both h (.tup [v, w]) := by
  refine ⟨false, ans_of rfl rfl fun m hm => ?_, ans_of rfl rfl fun m hm => ?_⟩
  · obtain ⟨gs, ei, hd⟩ := ex_src (cl := call prog m) (clL := runL prog) (act := fun _ => .bad) (e := .var 0) (ρ := [.v (.tup [v, w]), .no]) (h := h) (v := .tup [v, w]) (by simp [evE]) rfl
    have ec := comp_ev (own := [1]) (t := .name 1) (cond := .cst (.bl true)) (elt := .and (.isa (.var 1) .int) (.not (.isa (.var 1) .bool))) ei hd (f := fun v => .bl (isI v)) (fun u hu => by
      have nu : noRef u = true := by simp at hu; rcases hu with r | r <;> rw [r] <;> assumption
      refine ⟨_, by simp [evT, wipe]; rfl, by simp [evE], ?_⟩
      cases u with
      | ref _ => cases nu
      | scr _ => cases nu
      | _ => simp [evE, isaB, isI]) (by simp)
    simp only [List.map_cons, List.map_nil] at ec
    simp [c__law_is, evSs, evS, start, fin, ↓ec, evE, isaB, items?, lst?, bl1, cmpB, heq, Val.eqb, veq, blOf, hn]
  · obtain ⟨gs, ei, hd⟩ := ex_src (cl := call prog m) (clL := runL prog) (act := fun _ => .bad) (e := .var 0) (ρ := [.v (.tup [v, w]), .no]) (h := h) (v := .tup [v, w]) (by simp [evE]) rfl
    have ec := comp_ev (own := [1]) (t := .name 1) (cond := .cst (.bl true)) (elt := .call i_is_integer [0] [(.var 1)]) ei hd (f := fun v => .bl (isI v)) (fun u hu => by
      have nu : noRef u = true := by simp at hu; rcases hu with r | r <;> rw [r] <;> assumption
      exact ⟨_, by simp [evT, wipe]; rfl, by simp [evE], by simp [evE, evEs, permute, a_isI (P := prog) (f := i_is_integer) rfl u nu m (by omega)]⟩) (by simp)
    simp only [List.map_cons, List.map_nil] at ec
    have s1 : evS (call prog m) (runL prog) (fun _ => .bad) (.ite (.or (.not (.isa (.var 0) .tuple)) (.or (.cmp .ne (.b1 .len (.var 0)) (.cst (.int 2))) (.not (.b1 .all (.comp [1] (.name 1) (.ex (.var 0)) (.cst (.bl true)) (.call i_is_integer [0] [(.var 1)])))))) [.ret (.cst (.bl false))] []) [.v (.tup [v, w]), .no] h = .rt (.bl false) h := by
      have ec2 : evE (call prog m) (runL prog) (fun _ => .bad) (.or (.not (.isa (.var 0) .tuple)) (.or (.cmp .ne (.b1 .len (.var 0)) (.cst (.int 2))) (.not (.b1 .all (.comp [1] (.name 1) (.ex (.var 0)) (.cst (.bl true)) (.call i_is_integer [0] [(.var 1)])))))) [.v (.tup [v, w]), .no] h = .ok (.bl true) h :=
        or_f (h1 := h) (by simp [evE, isaB]) (or_f (h1 := h) (by simp [evE, bl1, items?, cmpB, heq, Val.eqb, veq]) (by simp [evE, ↓ec, bl1, lst?, blOf, hn]))
      simp only [evS, ec2]
      simp [evSs, evS, evE]
    show fin h (evSs (call prog m) (runL prog) (fun _ => .bad) (c_is_fraction i_is_integer i_divisor_of).body [.v (.tup [v, w]), .no] h) = _
    rw [show evSs (call prog m) (runL prog) (fun _ => .bad) (c_is_fraction i_is_integer i_divisor_of).body [.v (.tup [v, w]), .no] h = .rt (.bl false) h from ss_rt s1]
    simp [fin]
end
end K03

set_option Elab.async false
set_option linter.all false
set_option maxRecDepth 10000
namespace K03
open PM
/-- an end of a range as a value: no end is 1/0 -/
def endV (c d : Int) : Val := if d = 0 then .non else frV (c, d)
section
variable {h : Heap}
abbrev nlB1 : List St := [.asg (.name 4) (.bin .sub (.cst (.int 0)) (.bin .fdiv (.bin .sub (.cst (.int 0)) (.bin .mul (.idx (.var 1) (.cst (.int 0))) (.var 3))) (.idx (.var 1) (.cst (.int 1))))),
      .ite (.or (.cmp .is_ (.var 2) (.cst .non)) (.cmp .le (.bin .mul (.var 4) (.idx (.var 2) (.cst (.int 1)))) (.bin .mul (.idx (.var 2) (.cst (.int 0))) (.var 3)))) [.ret (.cst (.bl false))] []]
abbrev nlB2 : List St := [.asg (.name 6) (.bin .fdiv (.bin .mul (.var 5) (.idx (.var 1) (.cst (.int 1)))) (.idx (.var 1) (.cst (.int 0)))),
      .ite (.and (.cmp .gt (.var 6) (.cst (.int 0))) (.or (.cmp .is_ (.var 2) (.cst .non)) (.cmp .le (.bin .mul (.var 5) (.idx (.var 2) (.cst (.int 1)))) (.bin .mul (.idx (.var 2) (.cst (.int 0))) (.var 6))))) [.ret (.cst (.bl false))] []]
theorem ceil_facts {a b z : Int} (hb : 0 < b) : a * z ≤ -((-(a * z)).fdiv b) * b ∧ -((-(a * z)).fdiv b) * b < a * z + b := by
  have e1 := Int.mul_fdiv_add_fmod (-(a * z)) b
  have e2 := Int.fmod_nonneg_of_pos (-(a * z)) hb
  have e3 := Int.fmod_lt_of_pos (-(a * z)) hb
  have e4 : -((-(a * z)).fdiv b) * b = -(b * (-(a * z)).fdiv b) := by rw [Int.neg_mul, Int.mul_comm]
  omega
theorem nl1 {m : Nat} {p q a b c d K : Int} (hK : K < 2 ^ 100) (sp : Spec p q a b c d) (a0 : 0 < a) (b0 : 0 < b) (c0 : 0 < c) (d0 : 0 ≤ d) (ka : a ≤ K) (kb : b ≤ K) (kc : c ≤ K) (kd : d ≤ K) {s5 s6 : Sl} :
    ∀ (l : List Int) (s3 s4 : Sl), (∀ z ∈ l, 1 ≤ z ∧ z < q ∧ z < 9) → ∃ t3 t4,
    forL (evT (call prog m) (runL prog) (fun _ => .bad) (.name 3)) (evSs (call prog m) (runL prog) (fun _ => .bad) nlB1) [] (l.map .int) [.v (frV (p, q)), .v (frV (a, b)), .v (endV c d), s3, s4, s5, s6] h = .nx [.v (frV (p, q)), .v (frV (a, b)), .v (endV c d), t3, t4, s5, s6] h
  | [], s3, s4, _ => ⟨s3, s4, by rw [List.map_nil, forL, if_pos (show holds h [] from fun g hg => by cases hg)]⟩
  | z :: l, s3, s4, hl => by
    obtain ⟨z1, zq, z9⟩ := hl z (List.mem_cons_self ..)
    obtain ⟨f, ef⟩ : ∃ f, f = -((-(a * z)).fdiv b) := ⟨_, rfl⟩
    obtain ⟨f1, f2⟩ := ceil_facts (a := a) (z := z) b0
    rw [← ef] at f1 f2
    have az : 0 < a * z := Int.mul_pos a0 (by omega)
    have az2 : a * z ≤ K * 9 := Int.mul_le_mul ka (by omega) (by omega) (by omega)
    have fp : 0 < f := by
      refine Int.lt_of_mul_lt_mul_right (a := b) ?_ (by omega)
      omega
    have fk : f ≤ K * 9 + K := by
      have : f * 1 ≤ f * b := Int.mul_le_mul_of_nonneg_left (by omega) (by omega)
      omega
    have out : ¬ (f * d ≤ c * z) := fun y => by
      have := (sp.2.2.2.2 f z (by omega) f1 y).2
      omega
    obtain ⟨t3, t4, e⟩ := nl1 (m := m) (s5 := s5) (s6 := s6) hK sp a0 b0 c0 d0 ka kb kc kd l (.v (.int z)) (.v (.int f)) (fun y hy => hl y (List.mem_cons_of_mem _ hy))
    refine ⟨t3, t4, ?_⟩
    rw [List.map_cons, forL, if_pos (show holds h [] from fun g hg => by cases hg), ← e]
    have l1 := log_sum (a := a) (b := z) (by omega) (by omega) (by omega) (by omega)
    have l2 := log_sum (a := f) (b := d) (by omega) (by omega) (by omega) (by omega)
    have l3 := log_sum (a := c) (b := z) (by omega) (by omega) (by omega) (by omega)
    have l4 : b.natAbs.log2 < 9000 := by have := log_le (a := b) (k := 200) (by omega) (by omega) (by omega); omega
    have b1 : b ≠ 0 := by omega
    have e2 : -((-(a * z)).fdiv b) = f := ef.symm
    by_cases dz : d = 0
    · exact absurd (by rw [dz, Int.mul_zero]; exact Int.le_of_lt (Int.mul_pos c0 (by omega))) out
    · have s1 : evS (call prog m) (runL prog) (fun _ => .bad) (.asg (.name 4) (.bin .sub (.cst (.int 0)) (.bin .fdiv (.bin .sub (.cst (.int 0)) (.bin .mul (.idx (.var 1) (.cst (.int 0))) (.var 3))) (.idx (.var 1) (.cst (.int 1)))))) [.v (frV (p, q)), .v (frV (a, b)), .v (endV c d), .v (.int z), s4, s5, s6] h = .nx [.v (frV (p, q)), .v (frV (a, b)), .v (endV c d), .v (.int z), .v (.int f), s5, s6] h := by
        simp [evS, evE, bin, binI, idxV, items?, place, l1, b1, l4, evT, keep, e2]
      have s2 : evS (call prog m) (runL prog) (fun _ => .bad) (.ite (.or (.cmp .is_ (.var 2) (.cst .non)) (.cmp .le (.bin .mul (.var 4) (.idx (.var 2) (.cst (.int 1)))) (.bin .mul (.idx (.var 2) (.cst (.int 0))) (.var 3)))) [.ret (.cst (.bl false))] []) [.v (frV (p, q)), .v (frV (a, b)), .v (endV c d), .v (.int z), .v (.int f), s5, s6] h = .nx [.v (frV (p, q)), .v (frV (a, b)), .v (endV c d), .v (.int z), .v (.int f), s5, s6] h := by
        simp only [endV, if_neg dz]
        refine ite_f (or_f (h1 := h) (by simp [evE, cmpB]) ?_)
        simp [evE, bin, binI, idxV, items?, place, cmpB, l2, l3]
        omega
      have e0 : evT (call prog m) (runL prog) (fun _ => .bad) (.name 3) (.int z) [.v (frV (p, q)), .v (frV (a, b)), .v (endV c d), s3, s4, s5, s6] h = .ok [.v (frV (p, q)), .v (frV (a, b)), .v (endV c d), .v (.int z), s4, s5, s6] h := by simp [evT]
      rw [e0]
      dsimp only
      rw [ss_nx s1 (ss_nx s2 rfl)]
      rfl
theorem nl2 {m : Nat} {p q a b c d K : Int} (hK : K < 2 ^ 100) (sp : Spec p q a b c d) (a0 : 0 < a) (b0 : 0 < b) (c0 : 0 < c) (d0 : 0 ≤ d) (ka : a ≤ K) (kb : b ≤ K) (kc : c ≤ K) (kd : d ≤ K) {s3 s4 : Sl} :
    ∀ (l : List Int) (s5 s6 : Sl), (∀ z ∈ l, 1 ≤ z ∧ z < p ∧ z < 9) → ∃ t5 t6,
    forL (evT (call prog m) (runL prog) (fun _ => .bad) (.name 5)) (evSs (call prog m) (runL prog) (fun _ => .bad) nlB2) [] (l.map .int) [.v (frV (p, q)), .v (frV (a, b)), .v (endV c d), s3, s4, s5, s6] h = .nx [.v (frV (p, q)), .v (frV (a, b)), .v (endV c d), s3, s4, t5, t6] h
  | [], s5, s6, _ => ⟨s5, s6, by rw [List.map_nil, forL, if_pos (show holds h [] from fun g hg => by cases hg)]⟩
  | z :: l, s5, s6, hl => by
    obtain ⟨z1, zp, z9⟩ := hl z (List.mem_cons_self ..)
    obtain ⟨f, ef⟩ : ∃ f, f = (z * b).fdiv a := ⟨_, rfl⟩
    have e1 := Int.mul_fdiv_add_fmod (z * b) a
    have e2 := Int.fmod_nonneg_of_pos (z * b) a0
    rw [← ef] at e1
    have zb : 0 ≤ z * b := Int.mul_nonneg (by omega) (by omega)
    have zb2 : z * b ≤ 9 * K := Int.mul_le_mul (by omega) kb (by omega) (by omega)
    have f0 : 0 ≤ f := ef ▸ Int.fdiv_nonneg zb (by omega)
    have fk : f ≤ 9 * K := by
      have : 1 * f ≤ a * f := Int.mul_le_mul_of_nonneg_right (by omega) f0
      omega
    have out : 0 < f → ¬ (z * d ≤ c * f) := fun fp y => by
      have := (sp.2.2.2.2 z f fp (by omega) y).1
      omega
    obtain ⟨t5, t6, e⟩ := nl2 (m := m) (s3 := s3) (s4 := s4) hK sp a0 b0 c0 d0 ka kb kc kd l (.v (.int z)) (.v (.int f)) (fun y hy => hl y (List.mem_cons_of_mem _ hy))
    refine ⟨t5, t6, ?_⟩
    rw [List.map_cons, forL, if_pos (show holds h [] from fun g hg => by cases hg), ← e]
    have l1 := log_sum (a := z) (b := b) (by omega) (by omega) (by omega) (by omega)
    have l2 := log_sum (a := z) (b := d) (by omega) (by omega) (by omega) (by omega)
    have l3 := log_sum (a := c) (b := f) (by omega) (by omega) (by omega) (by omega)
    have l4 : a.natAbs.log2 < 9000 := by have := log_le (a := a) (k := 200) (by omega) (by omega) (by omega); omega
    have a1 : a ≠ 0 := by omega
    have s1 : evS (call prog m) (runL prog) (fun _ => .bad) (.asg (.name 6) (.bin .fdiv (.bin .mul (.var 5) (.idx (.var 1) (.cst (.int 1)))) (.idx (.var 1) (.cst (.int 0))))) [.v (frV (p, q)), .v (frV (a, b)), .v (endV c d), s3, s4, .v (.int z), s6] h = .nx [.v (frV (p, q)), .v (frV (a, b)), .v (endV c d), s3, s4, .v (.int z), .v (.int f)] h := by
      simp [evS, evE, bin, binI, idxV, items?, place, l1, a1, l4, evT, keep, ← ef]
    have s2 : evS (call prog m) (runL prog) (fun _ => .bad) (.ite (.and (.cmp .gt (.var 6) (.cst (.int 0))) (.or (.cmp .is_ (.var 2) (.cst .non)) (.cmp .le (.bin .mul (.var 5) (.idx (.var 2) (.cst (.int 1)))) (.bin .mul (.idx (.var 2) (.cst (.int 0))) (.var 6))))) [.ret (.cst (.bl false))] []) [.v (frV (p, q)), .v (frV (a, b)), .v (endV c d), s3, s4, .v (.int z), .v (.int f)] h = .nx [.v (frV (p, q)), .v (frV (a, b)), .v (endV c d), s3, s4, .v (.int z), .v (.int f)] h := by
      by_cases fp : 0 < f
      · have dz : ¬ d = 0 := fun dz => out fp (by rw [dz, Int.mul_zero]; exact Int.mul_nonneg (by omega) f0)
        simp only [endV, if_neg dz]
        refine ite_f (and_t (h1 := h) (by simp [evE, cmpB, fp]) (or_f (h1 := h) (by simp [evE, cmpB]) ?_))
        simp [evE, bin, binI, idxV, items?, place, cmpB, l2, l3]
        have := out fp
        omega
      · exact ite_f (and_f (h1 := h) (by simp [evE, cmpB]; omega))
    have e0 : evT (call prog m) (runL prog) (fun _ => .bad) (.name 5) (.int z) [.v (frV (p, q)), .v (frV (a, b)), .v (endV c d), s3, s4, s5, s6] h = .ok [.v (frV (p, q)), .v (frV (a, b)), .v (endV c d), s3, s4, .v (.int z), s6] h := by simp [evT]
    rw [e0]
    dsimp only
    rw [ss_nx s1 (ss_nx s2 rfl)]
    rfl
theorem rangeV_map (i : Int) (n : Nat) : rangeV i n = (((List.range n).map fun k : Nat => i + (k : Int))).map .int := by simp [rangeV]
theorem a_none_less {p q a b c d K : Int} (hK : K < 2 ^ 60) (sp : Spec p q a b c d) (a0 : 0 < a) (b0 : 0 < b) (c0 : 0 < c) (d0 : 0 ≤ d) (ka : a ≤ K) (kb : b ≤ K) (kc : c ≤ K) (kd : d ≤ K) (kp : p ≤ K) (kq : q ≤ K) :
    Ans prog 1 i__law_none_less [frV (p, q), frV (a, b), endV c d] h (.ok (.bl true) h) := by
  refine ans_of rfl rfl fun m hm => ?_
  have p0 := sp.2.1
  have q0 := sp.1.1
  obtain ⟨M, eM⟩ : ∃ M, M = if 9 < q then 9 else q := ⟨_, rfl⟩
  have M1 : M ≤ 9 ∧ M ≤ q ∧ 0 ≤ M := by rw [eM]; split <;> omega
  have M2 : (-4611686018427387904 ≤ M) = True := by simp; omega
  have M3 : (M < 4611686018427387904) = True := by simp; omega
  obtain ⟨N, eN⟩ : ∃ N, N = if 9 < p then 9 else p := ⟨_, rfl⟩
  have N1 : N ≤ 9 ∧ N ≤ p ∧ 0 ≤ N := by rw [eN]; split <;> omega
  have N2 : (-4611686018427387904 ≤ N) = True := by simp; omega
  have N3 : (N < 4611686018427387904) = True := by simp; omega
  obtain ⟨t3, t4, f1⟩ := nl1 (h := h) (m := m) (K := K) (by omega) sp a0 b0 c0 d0 ka kb kc kd (s5 := .no) (s6 := .no) ((List.range (M - 1).toNat).map fun k : Nat => 1 + (k : Int)) .no .no (fun z hz => by
    obtain ⟨k, hk, rfl⟩ := List.mem_map.mp hz
    have := List.mem_range.mp hk
    omega)
  obtain ⟨t5, t6, f2⟩ := nl2 (h := h) (m := m) (K := K) (by omega) sp a0 b0 c0 d0 ka kb kc kd (s3 := t3) (s4 := t4) ((List.range (N - 1).toNat).map fun k : Nat => 1 + (k : Int)) .no .no (fun z hz => by
    obtain ⟨k, hk, rfl⟩ := List.mem_map.mp hz
    have := List.mem_range.mp hk
    omega)
  rw [← rangeV_map] at f1 f2
  have s1 : evS (call prog m) (runL prog) (fun _ => .bad) (.for_ (.name 3) (.range2 (.cst (.int 1)) (.b2 .min (.idx (.var 0) (.cst (.int 1))) (.cst (.int 9)))) nlB1) [.v (frV (p, q)), .v (frV (a, b)), .v (endV c d), .no, .no, .no, .no] h = .nx [.v (frV (p, q)), .v (frV (a, b)), .v (endV c d), t3, t4, .no, .no] h := by
    rw [← f1]
    simp [evS, evI, evE, idxV, items?, place, bl2, ← eM, M2, M3]
  have s2 : evS (call prog m) (runL prog) (fun _ => .bad) (.for_ (.name 5) (.range2 (.cst (.int 1)) (.b2 .min (.idx (.var 0) (.cst (.int 0))) (.cst (.int 9)))) nlB2) [.v (frV (p, q)), .v (frV (a, b)), .v (endV c d), t3, t4, .no, .no] h = .nx [.v (frV (p, q)), .v (frV (a, b)), .v (endV c d), t3, t4, t5, t6] h := by
    rw [← f2]
    simp [evS, evI, evE, idxV, items?, place, bl2, ← eN, N2, N3]
  show fin h (evSs (call prog m) (runL prog) (fun _ => .bad) c__law_none_less.body [.v (frV (p, q)), .v (frV (a, b)), .v (endV c d), .no, .no, .no, .no] h) = _
  rw [show evSs (call prog m) (runL prog) (fun _ => .bad) c__law_none_less.body [.v (frV (p, q)), .v (frV (a, b)), .v (endV c d), .no, .no, .no, .no] h = .rt (.bl true) h from ss_nx s1 (ss_nx s2 (ss_rt (by simp [evS, evE])))]
  simp [fin]
end
end K03

set_option Elab.async false
set_option linter.all false
set_option maxRecDepth 10000
namespace K03
open PM
/-- two neighbours after k runs -/
structure W (k : Nat) (la lb ra rb : Int) : Prop where
  l0 : 0 ≤ la
  l1 : 0 < lb
  r0 : 0 < ra
  r1 : 0 ≤ rb
  det : ra * lb - la * rb = 1
  b1 : la ≤ 1001 * 9 ^ k
  b2 : ra ≤ 1001 * 9 ^ k
  b3 : lb ≤ 9 ^ k
  b4 : rb ≤ 9 ^ k
theorem W.left {k : Nat} {la lb ra rb run : Int} (w : W k la lb ra rb) (h1 : 1 ≤ run) (h2 : run ≤ 8) : W (k + 1) (la + run * ra) (lb + run * rb) ra rb := by
  obtain ⟨l0, l1, r0, r1, det, b1, b2, b3, b4⟩ := w
  have e : (9 : Int) ^ (k + 1) = 9 * 9 ^ k := by rw [Int.pow_succ, Int.mul_comm]
  have q1 : run * ra ≤ 8 * ra := Int.mul_le_mul_of_nonneg_right h2 (by omega)
  have q2 : run * rb ≤ 8 * rb := Int.mul_le_mul_of_nonneg_right h2 (by omega)
  have q3 : 0 ≤ run * ra := Int.mul_nonneg (by omega) (by omega)
  have q4 : 0 ≤ run * rb := Int.mul_nonneg (by omega) (by omega)
  refine ⟨by omega, by omega, r0, r1, by grind, ?_, ?_, ?_, ?_⟩ <;> rw [e] <;> omega
theorem W.right {k : Nat} {la lb ra rb run : Int} (w : W k la lb ra rb) (h1 : 1 ≤ run) (h2 : run ≤ 8) : W (k + 1) la lb (ra + run * la) (rb + run * lb) := by
  obtain ⟨l0, l1, r0, r1, det, b1, b2, b3, b4⟩ := w
  have e : (9 : Int) ^ (k + 1) = 9 * 9 ^ k := by rw [Int.pow_succ, Int.mul_comm]
  have q1 : run * la ≤ 8 * la := Int.mul_le_mul_of_nonneg_right h2 (by omega)
  have q2 : run * lb ≤ 8 * lb := Int.mul_le_mul_of_nonneg_right h2 (by omega)
  have q3 : 0 ≤ run * la := Int.mul_nonneg (by omega) (by omega)
  have q4 : 0 ≤ run * lb := Int.mul_nonneg (by omega) (by omega)
  refine ⟨l0, l1, by omega, by omega, by grind, ?_, ?_, ?_, ?_⟩ <;> rw [e] <;> omega
section
variable {h : Heap}
abbrev wayB : List St := [.asg (.name 5) (.bin .add (.cst (.int 1)) (.call i__law_take [0, 1] [(.var 0), (.idx (.lst [(.cst (.int 8)), (.cst (.int 1000))]) (.b1 .int (.and (.cmp .eq (.var 4) (.cst (.int 0))) (.cmp .eq (.call i__law_take [0, 1] [(.var 0), (.cst (.int 4))]) (.cst (.int 0))))))])),
      .ite (.cmp .eq (.bin .mod (.b1 .int (.var 4)) (.cst (.int 2))) (.cst (.int 0))) [.asg (.name 1) (.tup [(.bin .add (.idx (.var 1) (.cst (.int 0))) (.bin .mul (.var 5) (.idx (.var 2) (.cst (.int 0))))), (.bin .add (.idx (.var 1) (.cst (.int 1))) (.bin .mul (.var 5) (.idx (.var 2) (.cst (.int 1)))))])] [.asg (.name 2) (.tup [(.bin .add (.idx (.var 2) (.cst (.int 0))) (.bin .mul (.var 5) (.idx (.var 1) (.cst (.int 0))))), (.bin .add (.idx (.var 2) (.cst (.int 1))) (.bin .mul (.var 5) (.idx (.var 1) (.cst (.int 1)))))])]]
theorem p9 : ∀ k, k ≤ 6 → (9 : Int) ^ k ≤ 531441
  | 0, _ => by decide
  | 1, _ => by decide
  | 2, _ => by decide
  | 3, _ => by decide
  | 4, _ => by decide
  | 5, _ => by decide
  | 6, _ => by decide
  | k + 7, h => by omega
theorem way_for {b n : Nat} {s3 : Sl} : ∀ (r k : Nat) (h : Heap) (la lb ra rb x y z : Int), 1 ≤ k → k + r ≤ 6 → W k la lb ra rb → h[b]? = some (bxL x y z) → Bx (n + r) x y z →
    ∃ la' lb' ra' rb' x' y' z', W (k + r) la' lb' ra' rb' ∧ Bx n x' y' z' ∧ ∀ m, 1 ≤ m → ∀ s4 s5, ∃ t4 t5,
      forL (evT (call prog m) (runL prog) (fun _ => .bad) (.name 4)) (evSs (call prog m) (runL prog) (fun _ => .bad) wayB) [] ((List.range' k r).map fun j : Nat => Val.int j) [.v (.ref b), .v (frV (la, lb)), .v (frV (ra, rb)), s3, s4, s5] h
        = .nx [.v (.ref b), .v (frV (la', lb')), .v (frV (ra', rb')), s3, t4, t5] (h.set b (bxL x' y' z'))
  | 0, k, h, la, lb, ra, rb, x, y, z, k1, kr, w, hb, bx => ⟨la, lb, ra, rb, x, y, z, w, bx, fun m hm s4 s5 => ⟨s4, s5, by
      rw [set_same hb, List.range'_zero, List.map_nil, forL, if_pos (show holds h [] from fun g hg => by cases hg)]⟩⟩
  | r + 1, k, h, la, lb, ra, rb, x, y, z, k1, kr, w, hb, bx => by
    obtain ⟨d, x1, y1, z1, d0, d1, bx1, e1⟩ := a_take (P := prog) (f := i__law_take) rfl (h := h) (n := n + r) (q := 8) hb bx (by decide) (by decide)
    have pk := p9 k (by omega)
    have h1 : ((List.set h b (bxL x1 y1 z1))[b]?) = some (bxL x1 y1 z1) := List.getElem?_set_self (List.getElem?_eq_some_iff.mp hb).1
    have k0 : ¬ k = 0 := by omega
    have s1 : ∀ m, 1 ≤ m → ∀ s5, evS (call prog m) (runL prog) (fun _ => .bad) (.asg (.name 5) (.bin .add (.cst (.int 1)) (.call i__law_take [0, 1] [(.var 0), (.idx (.lst [(.cst (.int 8)), (.cst (.int 1000))]) (.b1 .int (.and (.cmp .eq (.var 4) (.cst (.int 0))) (.cmp .eq (.call i__law_take [0, 1] [(.var 0), (.cst (.int 4))]) (.cst (.int 0))))))]))) [.v (.ref b), .v (frV (la, lb)), .v (frV (ra, rb)), s3, .v (.int k), s5] h = .nx [.v (.ref b), .v (frV (la, lb)), .v (frV (ra, rb)), s3, .v (.int k), .v (.int (1 + d))] (h.set b (bxL x1 y1 z1)) := fun m hm s5 => by
      have e1' := e1 m hm
      have b3 : ∀ (i : Bool) (h : Heap), bl1 .int (.bl i) h = .ok (.int (b2i i)) h := fun _ _ => rfl
      simp [evS, evE, evEs, cmpB, heq, Val.eqb, veq, k0, b3, b2i, idxV, items?, place, permute, e1', bin, binI, evT, keep]
    have e0 : ∀ m s4 s5, evT (call prog m) (runL prog) (fun _ => .bad) (.name 4) (.int k) [.v (.ref b), .v (frV (la, lb)), .v (frV (ra, rb)), s3, s4, s5] h = .ok [.v (.ref b), .v (frV (la, lb)), .v (frV (ra, rb)), s3, .v (.int k), s5] h := fun m s4 s5 => by simp [evT]
    have f2 : (k : Int).fmod 2 = ((k % 2 : Nat) : Int) := by rw [Int.fmod_eq_emod_of_nonneg _ (by omega)]; rfl
    have bi : ∀ (i : Int) (h : Heap), bl1 .int (.int i) h = .ok (.int i) h := fun _ _ => rfl
    have W1 := w.b1
    have W2 := w.b2
    have W3 := w.b3
    have W4 := w.b4
    have l1 := log_sum (a := 1 + d) (b := ra) (by omega) (by have := w.r0; omega) (by omega) (by omega)
    have l2 := log_sum (a := 1 + d) (b := rb) (by omega) (by have := w.r1; omega) (by omega) (by omega)
    have l3 := log_sum (a := 1 + d) (b := la) (by omega) (by have := w.l0; omega) (by omega) (by omega)
    have l4 := log_sum (a := 1 + d) (b := lb) (by omega) (by have := w.l1; omega) (by omega) (by omega)
    by_cases ev : k % 2 = 0
    · have w1 := w.left (run := 1 + d) (by omega) (by omega)
      obtain ⟨la', lb', ra', rb', x', y', z', w2, bx2, q⟩ := way_for (n := n) (s3 := s3) r (k + 1) (h.set b (bxL x1 y1 z1)) _ _ _ _ x1 y1 z1 (by omega) (by omega) w1 h1 bx1
      refine ⟨la', lb', ra', rb', x', y', z', by rw [show k + (r + 1) = k + 1 + r by omega]; exact w2, bx2, fun m hm s4 s5 => ?_⟩
      obtain ⟨t4, t5, e⟩ := q m hm (.v (.int k)) (.v (.int (1 + d)))
      refine ⟨t4, t5, ?_⟩
      rw [List.set_set] at e
      rw [List.range'_succ, List.map_cons, forL, if_pos (show holds h [] from fun g hg => by cases hg), e0, ← e]
      dsimp only
      rw [ss_nx (s1 m hm s5) (ss_nx (ρ1 := [.v (.ref b), .v (frV (la + (1 + d) * ra, lb + (1 + d) * rb)), .v (frV (ra, rb)), s3, .v (.int k), .v (.int (1 + d))]) (h1 := h.set b (bxL x1 y1 z1)) (by
        simp [evS, evSs, evE, evEs, cmpB, heq, Val.eqb, veq, bi, bin, binI, idxV, items?, place, (show (k : Int).fmod 2 = 0 by rw [f2, ev]; rfl), l1, l2, evT, keep]) rfl)]
      rfl
    · have w1 := w.right (run := 1 + d) (by omega) (by omega)
      obtain ⟨la', lb', ra', rb', x', y', z', w2, bx2, q⟩ := way_for (n := n) (s3 := s3) r (k + 1) (h.set b (bxL x1 y1 z1)) _ _ _ _ x1 y1 z1 (by omega) (by omega) w1 h1 bx1
      refine ⟨la', lb', ra', rb', x', y', z', by rw [show k + (r + 1) = k + 1 + r by omega]; exact w2, bx2, fun m hm s4 s5 => ?_⟩
      obtain ⟨t4, t5, e⟩ := q m hm (.v (.int k)) (.v (.int (1 + d)))
      refine ⟨t4, t5, ?_⟩
      rw [List.set_set] at e
      rw [List.range'_succ, List.map_cons, forL, if_pos (show holds h [] from fun g hg => by cases hg), e0, ← e]
      dsimp only
      rw [ss_nx (s1 m hm s5) (ss_nx (ρ1 := [.v (.ref b), .v (frV (la, lb)), .v (frV (ra + (1 + d) * la, rb + (1 + d) * lb)), s3, .v (.int k), .v (.int (1 + d))]) (h1 := h.set b (bxL x1 y1 z1)) (by
        simp [evS, evSs, evE, evEs, cmpB, heq, Val.eqb, veq, bi, bin, binI, idxV, items?, place, (show (k : Int).fmod 2 = 1 by rw [f2]; omega), l3, l4, evT, keep]) rfl)]
      rfl
end
end K03

set_option Elab.async false
set_option linter.all false
set_option maxRecDepth 10000
/-! PMsy: the evaluator with named continuations, so that simp runs it in order. -/
namespace PM
open PySem
section
variable (cl : Nat → List Val → Heap → Out Val) (clL : Nat → (Heap → Out Val) → Heap → Out Val) (act : Heap → Out Val)
noncomputable def kBin (o : BOp) (b : Ex) (ρ : Env) (x : Val) (h1 : Heap) : Out Val := (evE cl clL act b ρ h1).bind (bin o x)
def kNeg (x : Val) (h1 : Heap) : Out Val := match x with
  | .int i => .ok (.int (-i)) h1
  | _ => .bad
def kCmp2 (o : COp) (x y : Val) (h2 : Heap) : Out Val := ofO ((cmpB o x y h2).map Val.bl) h2
noncomputable def kCmp (o : COp) (b : Ex) (ρ : Env) (x : Val) (h1 : Heap) : Out Val := (evE cl clL act b ρ h1).bind (kCmp2 o x)
noncomputable def kCh3 (p : COp) (y : Val) (c : Ex) (ρ : Env) (h2 : Heap) (t : Option Bool) : Out Val := match t with
  | some true => (evE cl clL act c ρ h2).bind (kCmp2 p y)
  | some false => .ok (.bl false) h2
  | none => .bad
noncomputable def kCh2 (o p : COp) (c : Ex) (ρ : Env) (x y : Val) (h2 : Heap) : Out Val := kCh3 cl clL act p y c ρ h2 (cmpB o x y h2)
noncomputable def kCh (o p : COp) (b c : Ex) (ρ : Env) (x : Val) (h1 : Heap) : Out Val := (evE cl clL act b ρ h1).bind (kCh2 cl clL act o p c ρ x)
noncomputable def kAnd (b : Ex) (ρ : Env) (t : Bool) (h1 : Heap) : Out Val := if t then evE cl clL act b ρ h1 else .ok (.bl false) h1
noncomputable def kOr (b : Ex) (ρ : Env) (t : Bool) (h1 : Heap) : Out Val := if t then .ok (.bl true) h1 else evE cl clL act b ρ h1
def kNot (t : Bool) (h1 : Heap) : Out Val := .ok (.bl !t) h1
noncomputable def kIte (a b : Ex) (ρ : Env) (t : Bool) (h1 : Heap) : Out Val := if t then evE cl clL act a ρ h1 else evE cl clL act b ρ h1
def kTup (vs : List Val) (h1 : Heap) : Out Val := .ok (.tup vs) h1
def kLst (vs : List Val) (h1 : Heap) : Out Val := .ok (.ref h1.length) (h1 ++ [.lst vs])
def kCall2 (f : Nat) (h1 : Heap) (ws : Option (List Val)) : Out Val := match ws with
  | some ws => cl f ws h1
  | none => .bad
def kCall (f : Nat) (perm : List Nat) (vs : List Val) (h1 : Heap) : Out Val := kCall2 cl f h1 (permute perm vs)
noncomputable def kB2 (o : B2) (b : Ex) (ρ : Env) (x : Val) (h1 : Heap) : Out Val := (evE cl clL act b ρ h1).bind (bl2 o x)
def kIsa (t : Ty) (x : Val) (h1 : Heap) : Out Val := ofO ((isaB h1 x t).map Val.bl) h1
noncomputable def kIdx (i : Ex) (ρ : Env) (x : Val) (h1 : Heap) : Out Val := (evE cl clL act i ρ h1).bind (idxV x)
noncomputable def kSl2 (hi : Ex) (ρ : Env) (x y : Val) (h2 : Heap) : Out Val := (partW hi.absent h2 (evE cl clL act hi ρ h2)).bind (sliceV x y)
noncomputable def kSl (lo hi : Ex) (ρ : Env) (x : Val) (h1 : Heap) : Out Val := (partW lo.absent h1 (evE cl clL act lo ρ h1)).bind (kSl2 cl clL act hi ρ x)
def kRev (x : Val) (h1 : Heap) : Out Val := match lst? h1 x with
  | some vs => .ok (.ref h1.length) (h1 ++ [.lst vs.reverse])
  | none => .bad
noncomputable def kMeth2 (m : Mt) (es : List Ex) (ρ : Env) (x : Val) (h1 : Heap) (t : Bool) : Out Val := if t then (evEs cl clL act es ρ h1).bind (methV m x) else .bad
noncomputable def kMeth (m : Mt) (es : List Ex) (ρ : Env) (x : Val) (h1 : Heap) : Out Val := kMeth2 cl clL act m es ρ x h1 (recv m x h1)
def kEs2 (v : Val) (vs : List Val) (h2 : Heap) : Out (List Val) := .ok (v :: vs) h2
noncomputable def kEs (es : List Ex) (ρ : Env) (v : Val) (h1 : Heap) : Out (List Val) := (evEs cl clL act es ρ h1).bind (kEs2 v)
def kSub3 (ρ : Env) (_ : Unit) (h3 : Heap) : Out Env := .ok ρ h3
def kSub2 (v : Val) (ρ : Env) (x y : Val) (h2 : Heap) : Out Env := (setIx x y v h2).bind (kSub3 ρ)
noncomputable def kSub (i : Ex) (v : Val) (ρ : Env) (x : Val) (h1 : Heap) : Out Env := (noX (evE cl clL act i ρ h1)).bind (kSub2 v ρ x)
noncomputable def kAsg (t : Tg) (ρ : Env) (v : Val) (h1 : Heap) : SOut := keep ρ (evT cl clL act t v ρ h1)
def kEx (ρ : Env) (_ : Val) (h1 : Heap) : SOut := .nx ρ h1
noncomputable def kIf (a b : List St) (ρ : Env) (v : Val) (h1 : Heap) : SOut := match v with
  | .bl t => if t then evSs cl clL act a ρ h1 else evSs cl clL act b ρ h1
  | _ => .bad
def kRaise (c : Nat) (f : Str) (ρ : Env) (v : Val) (h1 : Heap) : SOut := .exc ⟨c, f, v⟩ ρ h1
def kAug2 (i : Nat) (ρ : Env) (h1 : Heap) (v : Option Val) : SOut := match v with
  | some v => .nx (ρ.set i (.v v)) h1
  | none => .bad
def kAug (i : Nat) (o : BOp) (ρ : Env) (x y : Val) (h1 : Heap) : SOut := kAug2 i ρ h1 (augV o x y)
def andN (r : SOut) (k : Env → Heap → SOut) : SOut := match r with
  | .nx ρ h => k ρ h
  | r => r
end
section
variable {cl : Nat → List Val → Heap → Out Val} {clL : Nat → (Heap → Out Val) → Heap → Out Val} {act : Heap → Out Val}
@[simp] theorem kAnd_t {b ρ h} : kAnd cl clL act b ρ true h = evE cl clL act b ρ h := rfl
@[simp] theorem kAnd_f {b ρ h} : kAnd cl clL act b ρ false h = .ok (.bl false) h := rfl
@[simp] theorem kOr_t {b ρ h} : kOr cl clL act b ρ true h = .ok (.bl true) h := rfl
@[simp] theorem kOr_f {b ρ h} : kOr cl clL act b ρ false h = evE cl clL act b ρ h := rfl
@[simp] theorem kIte_t {a b ρ h} : kIte cl clL act a b ρ true h = evE cl clL act a ρ h := rfl
@[simp] theorem kIte_f {a b ρ h} : kIte cl clL act a b ρ false h = evE cl clL act b ρ h := rfl
@[simp] theorem kIf_t {a b ρ h} : kIf cl clL act a b ρ (.bl true) h = evSs cl clL act a ρ h := rfl
@[simp] theorem kIf_f {a b ρ h} : kIf cl clL act a b ρ (.bl false) h = evSs cl clL act b ρ h := rfl
@[simp] theorem kNot_e {t h} : kNot t h = .ok (.bl !t) h := rfl
@[simp] theorem kNeg_e {i h} : kNeg (.int i) h = .ok (.int (-i)) h := rfl
@[simp] theorem kTup_e {vs h} : kTup vs h = .ok (.tup vs) h := rfl
@[simp] theorem kLst_e {vs} {h : Heap} : kLst vs h = .ok (.ref h.length) (h ++ [.lst vs]) := rfl
@[simp] theorem kCall2_e {f h ws} : kCall2 cl f h (some ws) = cl f ws h := rfl
@[simp] theorem kCall_e {f perm vs h} : kCall cl f perm vs h = kCall2 cl f h (permute perm vs) := rfl
@[simp] theorem kBin_e {o b ρ x h} : kBin cl clL act o b ρ x h = (evE cl clL act b ρ h).bind (bin o x) := rfl
@[simp] theorem kCmp_e {o b ρ x h} : kCmp cl clL act o b ρ x h = (evE cl clL act b ρ h).bind (kCmp2 o x) := rfl
@[simp] theorem kCmp2_e {o x y h} : kCmp2 o x y h = ofO ((cmpB o x y h).map Val.bl) h := rfl
@[simp] theorem kCh_e {o p b c ρ x h} : kCh cl clL act o p b c ρ x h = (evE cl clL act b ρ h).bind (kCh2 cl clL act o p c ρ x) := rfl
@[simp] theorem kCh2_e {o p c ρ x y h} : kCh2 cl clL act o p c ρ x y h = kCh3 cl clL act p y c ρ h (cmpB o x y h) := rfl
@[simp] theorem kCh3_t {p y c ρ h} : kCh3 cl clL act p y c ρ h (some true) = (evE cl clL act c ρ h).bind (kCmp2 p y) := rfl
@[simp] theorem kCh3_f {p y c ρ h} : kCh3 cl clL act p y c ρ h (some false) = .ok (.bl false) h := rfl
@[simp] theorem kB2_e {o b ρ x h} : kB2 cl clL act o b ρ x h = (evE cl clL act b ρ h).bind (bl2 o x) := rfl
@[simp] theorem kIsa_e {t x h} : kIsa t x h = ofO ((isaB h x t).map Val.bl) h := rfl
@[simp] theorem kIdx_e {i ρ x h} : kIdx cl clL act i ρ x h = (evE cl clL act i ρ h).bind (idxV x) := rfl
@[simp] theorem kSl_e {lo hi ρ x h} : kSl cl clL act lo hi ρ x h = (partW lo.absent h (evE cl clL act lo ρ h)).bind (kSl2 cl clL act hi ρ x) := rfl
@[simp] theorem kSl2_e {hi ρ x y h} : kSl2 cl clL act hi ρ x y h = (partW hi.absent h (evE cl clL act hi ρ h)).bind (sliceV x y) := rfl
@[simp] theorem kMeth_e {m es ρ x h} : kMeth cl clL act m es ρ x h = kMeth2 cl clL act m es ρ x h (recv m x h) := rfl
@[simp] theorem kMeth2_t {m es ρ x h} : kMeth2 cl clL act m es ρ x h true = (evEs cl clL act es ρ h).bind (methV m x) := rfl
@[simp] theorem kEs_e {es ρ v h} : kEs cl clL act es ρ v h = (evEs cl clL act es ρ h).bind (kEs2 v) := rfl
@[simp] theorem kEs2_e {v vs h} : kEs2 v vs h = .ok (v :: vs) h := rfl
@[simp] theorem kSub_e {i v ρ x h} : kSub cl clL act i v ρ x h = (noX (evE cl clL act i ρ h)).bind (kSub2 v ρ x) := rfl
@[simp] theorem kSub2_e {v ρ x y h} : kSub2 v ρ x y h = (setIx x y v h).bind (kSub3 ρ) := rfl
@[simp] theorem kSub3_e {ρ u h} : kSub3 ρ u h = .ok ρ h := rfl
@[simp] theorem kAsg_e {t ρ v h} : kAsg cl clL act t ρ v h = keep ρ (evT cl clL act t v ρ h) := rfl
@[simp] theorem kEx_e {ρ v h} : kEx ρ v h = .nx ρ h := rfl
@[simp] theorem kRaise_e {c f ρ v h} : kRaise c f ρ v h = .exc ⟨c, f, v⟩ ρ h := rfl
@[simp] theorem kAug_e {i o ρ x y h} : kAug i o ρ x y h = kAug2 i ρ h (augV o x y) := rfl
@[simp] theorem kAug2_e {i ρ v h} : kAug2 i ρ h (some v) = .nx (ρ.set i (.v v)) h := rfl
@[simp] theorem andN_nx {ρ h k} : andN (.nx ρ h) k = k ρ h := rfl
@[simp] theorem andN_rt {v h k} : andN (.rt v h) k = .rt v h := rfl
@[simp] theorem andN_exc {x ρ h k} : andN (.exc x ρ h) k = .exc x ρ h := rfl
@[simp] theorem andN_bk {ρ h k} : andN (.bk ρ h) k = .bk ρ h := rfl
@[simp] theorem andN_ct {ρ h k} : andN (.ct ρ h) k = .ct ρ h := rfl
@[simp] theorem keepR_ok {ρ ρ1 h} : keep ρ (.ok ρ1 h) = .nx ρ1 h := rfl
def slot (s : Option Sl) (h : Heap) : Out Val := match s with
  | some (.v v) => .ok v h
  | _ => .bad
@[simp] theorem slot_v {v h} : slot (some (.v v)) h = .ok v h := rfl
@[simp] theorem x_var {i ρ h} : evE cl clL act (.var i) ρ h = slot ρ[i]? h := rfl
@[simp] theorem x_cst {v ρ h} : evE cl clL act (.cst v) ρ h = .ok v h := rfl
@[simp] theorem x_glob {x v ρ h} : evE cl clL act (.glob x v) ρ h = .ok v h := rfl
@[simp] theorem x_bin {o a b ρ h} : evE cl clL act (.bin o a b) ρ h = (evE cl clL act a ρ h).bind (kBin cl clL act o b ρ) := rfl
@[simp] theorem x_neg {a ρ h} : evE cl clL act (.neg a) ρ h = (evE cl clL act a ρ h).bind kNeg := rfl
@[simp] theorem x_cmp {o a b ρ h} : evE cl clL act (.cmp o a b) ρ h = trim h ((evE cl clL act a ρ h).bind (kCmp cl clL act o b ρ)) := rfl
@[simp] theorem x_chain {o p a b c ρ h} : evE cl clL act (.chain o p a b c) ρ h = trim h ((evE cl clL act a ρ h).bind (kCh cl clL act o p b c ρ)) := by
  rfl
@[simp] theorem x_and {a b ρ h} : evE cl clL act (.and a b) ρ h = (toB (evE cl clL act a ρ h)).bind (kAnd cl clL act b ρ) := rfl
@[simp] theorem x_or {a b ρ h} : evE cl clL act (.or a b) ρ h = (toB (evE cl clL act a ρ h)).bind (kOr cl clL act b ρ) := rfl
@[simp] theorem x_not {a ρ h} : evE cl clL act (.not a) ρ h = (toB (evE cl clL act a ρ h)).bind kNot := rfl
@[simp] theorem x_ite {c a b ρ h} : evE cl clL act (.ite c a b) ρ h = (toB (evE cl clL act c ρ h)).bind (kIte cl clL act a b ρ) := rfl
@[simp] theorem x_tup {es ρ h} : evE cl clL act (.tup es) ρ h = (evEs cl clL act es ρ h).bind kTup := rfl
@[simp] theorem x_lst {es ρ h} : evE cl clL act (.lst es) ρ h = (evEs cl clL act es ρ h).bind kLst := rfl
@[simp] theorem x_call {f perm es ρ h} : evE cl clL act (.call f perm es) ρ h = trim h ((evEs cl clL act es ρ h).bind (kCall cl f perm)) := rfl
@[simp] theorem x_b1 {o a ρ h} : evE cl clL act (.b1 o a) ρ h = trim h ((evE cl clL act a ρ h).bind (bl1 o)) := rfl
@[simp] theorem x_b2 {o a b ρ h} : evE cl clL act (.b2 o a b) ρ h = trim h ((evE cl clL act a ρ h).bind (kB2 cl clL act o b ρ)) := rfl
@[simp] theorem x_isa {a t ρ h} : evE cl clL act (.isa a t) ρ h = trim h ((evE cl clL act a ρ h).bind (kIsa t)) := rfl
@[simp] theorem x_idx {a i ρ h} : evE cl clL act (.idx a i) ρ h = trim h ((evE cl clL act a ρ h).bind (kIdx cl clL act i ρ)) := rfl
@[simp] theorem x_slice {a lo hi ρ h} : evE cl clL act (.slice a lo hi) ρ h = trim h ((evE cl clL act a ρ h).bind (kSl cl clL act lo hi ρ)) := rfl
@[simp] theorem x_rev {a ρ h} : evE cl clL act (.rev a) ρ h = trim h ((evE cl clL act a ρ h).bind kRev) := rfl
@[simp] theorem x_meth {m o es ρ h} : evE cl clL act (.meth m o es) ρ h = trim h ((evE cl clL act o ρ h).bind (kMeth cl clL act m es ρ)) := rfl
@[simp] theorem x_dict0 {ρ h} : evE cl clL act (.dict [] []) ρ h = .ok (.ref h.length) (h ++ [.dct []]) := rfl
@[simp] theorem xs_nil {ρ h} : evEs cl clL act [] ρ h = .ok [] h := rfl
@[simp] theorem xs_cons {e es ρ h} : evEs cl clL act (e :: es) ρ h = (evE cl clL act e ρ h).bind (kEs cl clL act es ρ) := rfl
@[simp] theorem t_name {i v ρ h} : evT cl clL act (.name i) v ρ h = if i < ρ.length then .ok (ρ.set i (.v v)) h else .bad := rfl
@[simp] theorem t_tup {ts vs ρ h} : evT cl clL act (.tup ts) (.tup vs) ρ h = evTs cl clL act ts vs ρ h := rfl
@[simp] theorem t_sub {o i v ρ h} : evT cl clL act (.sub o i) v ρ h = (noX (evE cl clL act o ρ h)).bind (kSub cl clL act i v ρ) := rfl
@[simp] theorem ts_nil {ρ h} : evTs cl clL act [] [] ρ h = .ok ρ h := rfl
@[simp] theorem ts_cons {t ts v vs ρ h} : evTs cl clL act (t :: ts) (v :: vs) ρ h = (evT cl clL act t v ρ h).bind (evTs cl clL act ts vs) := rfl
@[simp] theorem s_asg {t e ρ h} : evS cl clL act (.asg t e) ρ h = thenS ρ (trim h (evE cl clL act e ρ h)) (kAsg cl clL act t ρ) := rfl
def kAugS (i : Nat) (o : BOp) (ρ : Env) (y : Out Val) (s : Option Sl) : SOut := match s with
  | some (.v x) => thenS ρ y (kAug i o ρ x)
  | _ => .bad
@[simp] theorem kAugS_e {i o ρ y x} : kAugS i o ρ y (some (.v x)) = thenS ρ y (kAug i o ρ x) := rfl
@[simp] theorem s_aug {i o e ρ h} : evS cl clL act (.aug i o e) ρ h = kAugS i o ρ (trim h (evE cl clL act e ρ h)) ρ[i]? := by
  rfl
@[simp] theorem s_ex {e ρ h} : evS cl clL act (.ex e) ρ h = thenS ρ (trim h (evE cl clL act e ρ h)) (kEx ρ) := rfl
@[simp] theorem s_ret {e ρ h} : evS cl clL act (.ret e) ρ h = thenS ρ (trim h (evE cl clL act e ρ h)) SOut.rt := rfl
@[simp] theorem s_retn {ρ h} : evS cl clL act .retn ρ h = .rt .non h := rfl
@[simp] theorem s_ite {c a b ρ h} : evS cl clL act (.ite c a b) ρ h = thenS ρ (trim h (evE cl clL act c ρ h)) (kIf cl clL act a b ρ) := rfl
@[simp] theorem s_pass {ρ h} : evS cl clL act .pass ρ h = .nx ρ h := rfl
@[simp] theorem s_brk {ρ h} : evS cl clL act .brk ρ h = .bk ρ h := rfl
@[simp] theorem s_cont {ρ h} : evS cl clL act .cont ρ h = .ct ρ h := rfl
@[simp] theorem s_raise {c f e ρ h} : evS cl clL act (.raise c f e) ρ h = thenS ρ (trim h (evE cl clL act e ρ h)) (kRaise c f ρ) := rfl
@[simp] theorem ss_nil {ρ h} : evSs cl clL act [] ρ h = .nx ρ h := rfl
@[simp] theorem ss_cons {s ss ρ h} : evSs cl clL act (s :: ss) ρ h = andN (evS cl clL act s ρ h) (evSs cl clL act ss) := rfl
@[simp] theorem fin_nx {h ρ k} : fin h (.nx ρ k) = trim h (.ok .non k) := rfl
@[simp] theorem fin_rt {h v k} : fin h (.rt v k) = trim h (.ok v k) := rfl
@[simp] theorem fin_exc {h x ρ k} : fin h (.exc x ρ k) = trim h (.exc x k) := rfl
noncomputable def kFor (t : Tg) (b : List St) (ρ : Env) : Out Src → SOut
  | .ok s h1 => forL (evT cl clL act t) (evSs cl clL act b) s.2 s.1 ρ h1
  | .exc x k => .exc x ρ k
  | .bad => .bad
@[simp] theorem kFor_ok {t b ρ s h} : kFor (cl := cl) (clL := clL) (act := act) t b ρ (.ok s h) = forL (evT cl clL act t) (evSs cl clL act b) s.2 s.1 ρ h := rfl
@[simp] theorem s_for {t it b ρ h} : evS cl clL act (.for_ t it b) ρ h = kFor (cl := cl) (clL := clL) (act := act) t b ρ (evI cl clL act it ρ h) := by
  show (match evI cl clL act it ρ h with | .ok s h1 => forL _ _ s.2 s.1 ρ h1 | .exc x k => .exc x ρ k | .bad => .bad) = _
  cases evI cl clL act it ρ h <;> rfl
def kR1 (v : Val) (k : Heap) : Out Src := match v with
  | .int j => if -(2 ^ 62) ≤ j ∧ j < 2 ^ 62 then .ok (rangeV 0 j.toNat, []) k else .bad
  | _ => .bad
def kR3 (v w : Val) (k : Heap) : Out Src := match v, w with
  | .int i, .int j => if -(2 ^ 62) ≤ i ∧ i < 2 ^ 62 ∧ -(2 ^ 62) ≤ j ∧ j < 2 ^ 62 then .ok (rangeV i (j - i).toNat, []) k else .bad
  | _, _ => .bad
noncomputable def kR2 (b : Ex) (ρ : Env) (v : Val) (k : Heap) : Out Src := (trim k (evE cl clL act b ρ k)).bind (kR3 v)
@[simp] theorem kR1_e {j : Int} {k} (h1 : -(2 ^ 62) ≤ j) (h2 : j < 2 ^ 62) : kR1 (.int j) k = .ok (rangeV 0 j.toNat, []) k := if_pos ⟨h1, h2⟩
@[simp] theorem kR3_e {i j : Int} {k} (h1 : -(2 ^ 62) ≤ i ∧ i < 2 ^ 62) (h2 : -(2 ^ 62) ≤ j ∧ j < 2 ^ 62) : kR3 (.int i) (.int j) k = .ok (rangeV i (j - i).toNat, []) k := if_pos ⟨h1.1, h1.2, h2.1, h2.2⟩
@[simp] theorem kR2_e {b ρ v k} : kR2 (cl := cl) (clL := clL) (act := act) b ρ v k = (trim k (evE cl clL act b ρ k)).bind (kR3 v) := rfl
@[simp] theorem i_range1 {b ρ h} : evI cl clL act (.range1 b) ρ h = (trim h (evE cl clL act b ρ h)).bind kR1 := rfl
@[simp] theorem i_range2 {a b ρ h} : evI cl clL act (.range2 a b) ρ h = (trim h (evE cl clL act a ρ h)).bind (kR2 (cl := cl) (clL := clL) (act := act) b ρ) := rfl
theorem for_nil {tgt : Val → Env → Heap → Out Env} {body : Env → Heap → SOut} {ρ : Env} {h : Heap} : forL tgt body [] [] ρ h = .nx ρ h := by
  rw [forL, if_pos (show holds h [] from fun g hg => by cases hg)]
/-! builtins at their values -/
@[simp] theorem bl1_abs {i h} : bl1 .abs (.int i) h = .ok (.int (if i < 0 then -i else i)) h := rfl
@[simp] theorem bl1_int {i h} : bl1 .int (.int i) h = .ok (.int i) h := rfl
@[simp] theorem bl1_intb {b h} : bl1 .int (.bl b) h = .ok (.int (b2i b)) h := rfl
@[simp] theorem bl1_bool {b h} : bl1 .bool (.bl b) h = .ok (.bl b) h := rfl
@[simp] theorem bl1_lent {vs} {h : Heap} : bl1 .len (.tup vs) h = .ok (.int vs.length) h := rfl
@[simp] theorem bl1_tupt {vs h} : bl1 .tuple (.tup vs) h = .ok (.tup vs) h := rfl
@[simp] theorem b2i_t : b2i true = 1 := rfl
@[simp] theorem b2i_f : b2i false = 0 := rfl
@[simp] theorem idx_t {vs} {i : Int} {h : Heap} : idxV (.tup vs) (.int i) h = (match (place vs.length i).bind fun k => vs[k]? with | some v => .ok v h | none => .bad) := rfl
@[simp] theorem bin_int {o i j h} : bin o (.int i) (.int j) h = ofO (binI o i j) h := by
  cases o <;> rfl
@[simp] theorem binI_add {i j} : binI .add i j = some (.int (i + j)) := rfl
@[simp] theorem binI_sub {i j} : binI .sub i j = some (.int (i - j)) := rfl
theorem binI_mul {i j : Int} (l : i.natAbs.log2 + j.natAbs.log2 < 1000000) : binI .mul i j = some (.int (i * j)) := if_pos l
theorem binI_fdiv {i j : Int} (l : j ≠ 0 ∧ j.natAbs.log2 < 9000) : binI .fdiv i j = some (.int (i.fdiv j)) := if_pos l
theorem binI_mod {i j : Int} (l : j ≠ 0) : binI .mod i j = some (.int (i.fmod j)) := if_pos l
@[simp] theorem cmpB_eq {x y h} : cmpB .eq x y h = heq h x y := by
  rfl
@[simp] theorem cmpB_ne {x y h} : cmpB .ne x y h = (heq h x y).map (!·) := by
  rfl
@[simp] theorem cmpB_lt {i j h} : cmpB .lt (.int i) (.int j) h = some (decide (i < j)) := by rfl
@[simp] theorem cmpB_le {i j h} : cmpB .le (.int i) (.int j) h = some (decide (i ≤ j)) := by rfl
@[simp] theorem cmpB_gt {i j h} : cmpB .gt (.int i) (.int j) h = some (decide (j < i)) := by rfl
@[simp] theorem cmpB_ge {i j h} : cmpB .ge (.int i) (.int j) h = some (decide (j ≤ i)) := by rfl
@[simp] theorem cmpB_is0 {h} : cmpB .is_ .non .non h = some true := by rfl
@[simp] theorem cmpB_isi {i h} : cmpB .is_ (.int i) .non h = some false := by rfl
@[simp] theorem cmpB_ist {vs h} : cmpB .is_ (.tup vs) .non h = some false := by rfl
@[simp] theorem cmpB_isr {r h} : cmpB .is_ (.ref r) .non h = some false := by rfl
@[simp] theorem cmpB_iss {s h} : cmpB .is_ (.str s) .non h = some false := by rfl
@[simp] theorem cmpB_no0 {h} : cmpB .isnot .non .non h = some false := by rfl
@[simp] theorem cmpB_noi {i h} : cmpB .isnot (.int i) .non h = some true := by rfl
@[simp] theorem cmpB_not {vs h} : cmpB .isnot (.tup vs) .non h = some true := by rfl
@[simp] theorem cmpB_nor {r h} : cmpB .isnot (.ref r) .non h = some true := by rfl
@[simp] theorem cmpB_nos {s h} : cmpB .isnot (.str s) .non h = some true := by rfl
@[simp] theorem cmpB_isb {a b h} : cmpB .is_ (.bl a) (.bl b) h = some (a == b) := by rfl
@[simp] theorem cmpB_nob {a b h} : cmpB .isnot (.bl a) (.bl b) h = some (a != b) := by rfl
@[simp] theorem heq_int {i j h} : heq h (.int i) (.int j) = some (i == j) := by rfl
@[simp] theorem heq_int2 {i j k l h} : heq h (.tup [.int i, .int j]) (.tup [.int k, .int l]) = some ((i == k) && (j == l)) := by
  simp [heq, Val.eqb, eqbs, veq, veqs]
@[simp] theorem trim_app1 (h g : Heap) (a : Ob) (v : Val) (f : v.flat = true) : trim (h ++ [a]) (.ok v (h ++ a :: g)) = .ok v (h ++ [a]) := by
  have := trim_app (h ++ [a]) g v f
  rwa [List.append_assoc] at this
@[simp] theorem trim_app2 (h g : Heap) (a b : Ob) (v : Val) (f : v.flat = true) : trim (h ++ [a, b]) (.ok v (h ++ a :: b :: g)) = .ok v (h ++ [a, b]) := by
  have := trim_app (h ++ [a, b]) g v f
  rwa [List.append_assoc] at this
@[simp] theorem trim_app3 (h g : Heap) (a b c : Ob) (v : Val) (f : v.flat = true) : trim (h ++ [a, b, c]) (.ok v (h ++ a :: b :: c :: g)) = .ok v (h ++ [a, b, c]) := by
  have := trim_app (h ++ [a, b, c]) g v f
  rwa [List.append_assoc] at this
@[simp] theorem trim_new1 (h : Heap) (a o : Ob) : trim (h ++ [a]) (.ok (.ref (h.length + 1)) (h ++ [a, o])) = .ok (.ref (h.length + 1)) (h ++ [a, o]) := by
  have := trim_new (h ++ [a]) o
  rwa [List.append_assoc, List.length_append] at this
@[simp] theorem trim_new2 (h : Heap) (a b o : Ob) : trim (h ++ [a, b]) (.ok (.ref (h.length + 2)) (h ++ [a, b, o])) = .ok (.ref (h.length + 2)) (h ++ [a, b, o]) := by
  have := trim_new (h ++ [a, b]) o
  rwa [List.append_assoc, List.length_append] at this
@[simp] theorem ibeq_f {i j : Int} (h : ¬ i = j) : (i == j) = false := by simp [h]
theorem lam_ev {f : Nat} {body : Ex} {ρ : Env} {h : Heap} {v : Val} (e : clL f (fun k => evE cl clL act body ρ k) h = .ok v h) : evE cl clL act (.lam f body) ρ h = .ok v h := by
  show trim h (clL f (fun k => evE cl clL act body ρ k) h) = _
  rw [e, trim_same]
end
theorem ans_run {P : List Fn} {d f : Nat} {fn : Fn} {vs : List Val} {h k : Heap} {v : Val} {r : Out Val} (e : P[f]? = some fn) (l : vs.length = fn.np) (t : fin h (.rt v k) = r)
    (hb : ∀ m, d ≤ m → evSs (call P m) (runL P) (fun _ => .bad) fn.body (start fn.ns vs) h = .rt v k) : Ans P (d + 1) f vs h r := ans_of e l fun m hm => by rw [hb m hm, t]
end PM

set_option Elab.async false
set_option linter.all false
set_option maxRecDepth 10000
namespace K03
open PM
abbrev wayA : St := .asg (.name 5) (.bin .add (.cst (.int 1)) (.call i__law_take [0, 1] [(.var 0), (.idx (.lst [(.cst (.int 8)), (.cst (.int 1000))]) (.b1 .int (.and (.cmp .eq (.var 4) (.cst (.int 0))) (.cmp .eq (.call i__law_take [0, 1] [(.var 0), (.cst (.int 4))]) (.cst (.int 0))))))]))
section
variable {h : Heap}
theorem way_first {b n : Nat} {x y z : Int} (hb : h[b]? = some (bxL x y z)) (bx : Bx (n + 2) x y z) :
    ∃ d x' y' z', 0 ≤ d ∧ d < 1000 ∧ Bx n x' y' z' ∧ ∀ m, 1 ≤ m → ∀ s1 s2 s3 s5, evS (call prog m) (runL prog) (fun _ => .bad) wayA [.v (.ref b), s1, s2, s3, .v (.int 0), s5] h = .nx [.v (.ref b), s1, s2, s3, .v (.int 0), .v (.int (1 + d))] (h.set b (bxL x' y' z')) := by
  have hbl : b < h.length := (List.getElem?_eq_some_iff.mp hb).1
  have sa : ∀ (o : Ob) (l : Heap), (h ++ l).set b o = h.set b o ++ l := fun o l => List.set_append_left _ _ hbl
  have hs : ∀ o : Ob, (h.set b o)[b]? = some o := fun o => List.getElem?_set_self hbl
  obtain ⟨d4, x1, y1, z1, d40, d41, bx1, e1⟩ := a_take (P := prog) (f := i__law_take) rfl (h := h ++ [.lst [.int 8, .int 1000]]) (n := n + 1) (q := 4) (at_old hb) bx (by decide) (by decide)
  have b3 : ∀ (i : Bool) (h : Heap), bl1 .int (.bl i) h = .ok (.int (b2i i)) h := fun _ _ => rfl
  have nw : ∀ o o2 : Ob, (h.set b o ++ [o2])[h.length]? = some o2 := fun o o2 => by have := at_new0 (h.set b o) [o2]; rw [List.length_set] at this; simpa using this
  by_cases q : d4 = 0
  · obtain ⟨d, x2, y2, z2, d0, d1, bx2, e2⟩ := a_take (P := prog) (f := i__law_take) rfl (h := h.set b (bxL x1 y1 z1)) (n := n) (q := 1000) (hs _) bx1 (by decide) (by decide)
    refine ⟨d, x2, y2, z2, d0, d1, bx2, fun m hm s1 s2 s3 s5 => ?_⟩
    have e1' := e1 m hm
    have e2' := e2 m hm
    have ei : evE (call prog m) (runL prog) (fun _ => .bad) (.idx (.lst [(.cst (.int 8)), (.cst (.int 1000))]) (.b1 .int (.and (.cmp .eq (.var 4) (.cst (.int 0))) (.cmp .eq (.call i__law_take [0, 1] [(.var 0), (.cst (.int 4))]) (.cst (.int 0)))))) [.v (.ref b), s1, s2, s3, .v (.int 0), s5] h = .ok (.int 1000) (h.set b (bxL x1 y1 z1)) := by
      simp [cmpB, heq, Val.eqb, veq, permute, e1', sa, q, b3, b2i, idxV, items?, place, nw]
    simp [↓ei, permute, e2', bin, binI]
  · obtain ⟨d, x2, y2, z2, d0, d1, bx2, e2⟩ := a_take (P := prog) (f := i__law_take) rfl (h := h.set b (bxL x1 y1 z1)) (n := n) (q := 8) (hs _) bx1 (by decide) (by decide)
    refine ⟨d, x2, y2, z2, d0, by omega, bx2, fun m hm s1 s2 s3 s5 => ?_⟩
    have e1' := e1 m hm
    have e2' := e2 m hm
    have ei : evE (call prog m) (runL prog) (fun _ => .bad) (.idx (.lst [(.cst (.int 8)), (.cst (.int 1000))]) (.b1 .int (.and (.cmp .eq (.var 4) (.cst (.int 0))) (.cmp .eq (.call i__law_take [0, 1] [(.var 0), (.cst (.int 4))]) (.cst (.int 0)))))) [.v (.ref b), s1, s2, s3, .v (.int 0), s5] h = .ok (.int 8) (h.set b (bxL x1 y1 z1)) := by
      simp [cmpB, heq, Val.eqb, veq, permute, e1', sa, q, b3, b2i, idxV, items?, place, nw]
    simp [↓ei, permute, e2', bin, binI]
theorem a_way {b n : Nat} {x y z : Int} (hb : h[b]? = some (bxL x y z)) (bx : Bx (n + 7) x y z) :
    ∃ k la lb ra rb x' y' z', k ≤ 5 ∧ W k la lb ra rb ∧ Bx n x' y' z' ∧ Ans prog 2 i__law_way [.ref b] h (.ok (.tup [frV (la + ra, lb + rb), frV (la, lb), frV (ra, rb)]) (h.set b (bxL x' y' z'))) := by
  have hbl : b < h.length := (List.getElem?_eq_some_iff.mp hb).1
  have hs : ∀ o : Ob, (h.set b o)[b]? = some o := fun o => List.getElem?_set_self hbl
  obtain ⟨d, x1, y1, z1, d0, d1, bx1, e1⟩ := a_take (P := prog) (f := i__law_take) rfl (h := h) (n := n + 6) (q := 6) hb bx (by decide) (by decide)
  obtain ⟨H, eH⟩ : ∃ H, H = h.set b (bxL x1 y1 z1) := ⟨_, rfl⟩
  have s1 : ∀ m, 1 ≤ m → evS (call prog m) (runL prog) (fun _ => .bad) (.asg (.tup [(.name 1), (.name 2), (.name 3)]) (.tup [(.tup [(.cst (.int 0)), (.cst (.int 1))]), (.tup [(.cst (.int 1)), (.cst (.int 0))]), (.call i__law_take [0, 1] [(.var 0), (.cst (.int 6))])])) [.v (.ref b), .no, .no, .no, .no, .no] h = .nx [.v (.ref b), .v (frV (0, 1)), .v (frV (1, 0)), .v (.int d), .no, .no] H := fun m hm => by
    have e1' := e1 m hm
    rw [eH]
    simp [permute, e1']
  obtain ⟨r, rfl⟩ : ∃ r : Nat, d = r := ⟨d.toNat, by omega⟩
  have h2 : -4611686018427387904 ≤ (r : Int) := by omega
  have h3 : (r : Int) < 4611686018427387904 := by omega
  -- the loop
  obtain ⟨k, la, lb, ra, rb, x', y', z', hk, w, bx', ev⟩ : ∃ k la lb ra rb x' y' z', k ≤ 5 ∧ W k la lb ra rb ∧ Bx n x' y' z' ∧ ∀ m, 1 ≤ m → ∃ t4 t5,
      evS (call prog m) (runL prog) (fun _ => .bad) (.for_ (.name 4) (.range1 (.var 3)) wayB) [.v (.ref b), .v (frV (0, 1)), .v (frV (1, 0)), .v (.int r), .no, .no] H = .nx [.v (.ref b), .v (frV (la, lb)), .v (frV (ra, rb)), .v (.int r), t4, t5] (h.set b (bxL x' y' z')) := by
    by_cases r0 : r = 0
    · subst r0
      refine ⟨0, 0, 1, 1, 0, x1, y1, z1, by omega, ⟨by decide, by decide, by decide, by decide, by decide, by decide, by decide, by decide, by decide⟩, bx1.mono (by omega), fun m hm => ⟨.no, .no, ?_⟩⟩
      simp [rangeV, for_nil, eH]
    · obtain ⟨r, rfl⟩ : ∃ k, r = k + 1 := ⟨r - 1, by omega⟩
      obtain ⟨d, x2, y2, z2, d0, d1, bx2, e2⟩ := way_first (h := H) (b := b) (n := n + 4) (by rw [eH]; exact hs _) bx1
      have w1 : W 1 (0 + (1 + d) * 1) (1 + (1 + d) * 0) 1 0 := ⟨by omega, by omega, by omega, by omega, by omega, by omega, by omega, by omega, by omega⟩
      obtain ⟨la, lb, ra, rb, x', y', z', w, bx', q⟩ := way_for (n := n + (4 - r)) (s3 := .v (.int ((r + 1 : Nat) : Int))) r 1 (h.set b (bxL x2 y2 z2)) _ _ _ _ x2 y2 z2 (by omega) (by omega) w1 (hs _) (by rw [show n + (4 - r) + r = n + 4 by omega]; exact bx2)
      refine ⟨1 + r, la, lb, ra, rb, x', y', z', by omega, w, bx'.mono (by omega), fun m hm => ?_⟩
      obtain ⟨t4, t5, e⟩ := q m hm (.v (.int 0)) (.v (.int (1 + d)))
      refine ⟨t4, t5, ?_⟩
      have er : rangeV 0 (r + 1) = .int 0 :: (List.range' 1 r).map fun j : Nat => Val.int j := by
        unfold rangeV
        rw [List.range_eq_range', List.range'_succ, List.map_cons]
        simp
      rw [List.set_set] at e
      have e2' := e2 m hm
      have ei : evI (call prog m) (runL prog) (fun _ => .bad) (.range1 (.var 3)) [.v (.ref b), .v (frV (0, 1)), .v (frV (1, 0)), .v (.int ((r + 1 : Nat) : Int)), .no, .no] H = .ok (.int 0 :: (List.range' 1 r).map fun j : Nat => Val.int j, []) H := by
        rw [← er, i_range1, show trim H (evE (call prog m) (runL prog) (fun _ => .bad) (.var 3) [.v (.ref b), .v (frV (0, 1)), .v (frV (1, 0)), .v (.int ((r + 1 : Nat) : Int)), .no, .no] H) = .ok (.int ((r + 1 : Nat) : Int)) H by simp]
        have q := kR1_e (j := ((r + 1 : Nat) : Int)) (k := H) (by omega) (by omega)
        rw [Int.toNat_natCast] at q
        rw [Out.bind_ok, q]
      have eS : H.set b (bxL x2 y2 z2) = h.set b (bxL x2 y2 z2) := by rw [eH, List.set_set]
      simp only [evS, ei]
      rw [forL, if_pos (show holds H [] from fun g hg => by cases hg), ← e]
      have e0 : evT (call prog m) (runL prog) (fun _ => .bad) (.name 4) (.int 0) [.v (.ref b), .v (frV (0, 1)), .v (frV (1, 0)), .v (.int ((r + 1 : Nat) : Int)), .no, .no] H = .ok [.v (.ref b), .v (frV (0, 1)), .v (frV (1, 0)), .v (.int ((r + 1 : Nat) : Int)), .v (.int 0), .no] H := by simp 
      rw [e0]
      dsimp only
      have l0 : (1 + d).natAbs.log2 + Nat.log2 1 < 1000000 := log_sum (a := 1 + d) (b := 1) (by omega) (by omega) (by omega) (by omega)
      have l00 : (1 + d).natAbs.log2 + Nat.log2 1 < 1000000 := l0
      have l000 : (1 + d).natAbs.log2 < 1000000 := by omega
      rw [ss_nx (e2' _ _ _ _) (ss_nx (ρ1 := [.v (.ref b), .v (frV (0 + (1 + d) * 1, 1 + (1 + d) * 0)), .v (frV (1, 0)), .v (.int ((r + 1 : Nat) : Int)), .v (.int 0), .v (.int (1 + d))]) (h1 := h.set b (bxL x2 y2 z2)) (by
        have bi : ∀ (i : Int) (h : Heap), bl1 .int (.int i) h = .ok (.int i) h := fun _ _ => rfl
        rw [eS]
        simp [cmpB, heq, Val.eqb, veq, bi, bin, binI, idxV, items?, place, l00, l000]) rfl)]
      rfl
  have w' := w
  refine ⟨k, la, lb, ra, rb, x', y', z', hk, w, bx', ans_of rfl rfl fun m hm => ?_⟩
  obtain ⟨t4, t5, e⟩ := ev m hm
  show fin h (evSs (call prog m) (runL prog) (fun _ => .bad) (c__law_way i__law_take).body [.v (.ref b), .no, .no, .no, .no, .no] h) = _
  rw [show evSs (call prog m) (runL prog) (fun _ => .bad) (c__law_way i__law_take).body [.v (.ref b), .no, .no, .no, .no, .no] h = .rt (.tup [frV (la + ra, lb + rb), frV (la, lb), frV (ra, rb)]) (h.set b (bxL x' y' z')) from ss_nx (s1 m hm) (ss_nx e (ss_rt (by simp [bin, binI, idxV, items?, place])))]
  simp 
theorem a_end {b n : Nat} {x y z : Int} (hb : h[b]? = some (bxL x y z)) (bx : Bx (n + 2) x y z) {m0 m1 l0 l1 : Int} (hm0 : 0 ≤ m0) (hm1 : 0 < m1) (hl0 : 0 ≤ l0) (hl1 : 0 ≤ l1) (km0 : m0 < 2 ^ 60) (km1 : m1 < 2 ^ 60) (kl0 : l0 < 2 ^ 60) (kl1 : l1 < 2 ^ 60) :
    ∃ s o a c g x' y' z', 1 ≤ s ∧ s ≤ 4 ∧ 0 ≤ o ∧ o ≤ 4 ∧ Low a c ∧ 0 < g ∧ s * m0 + o * l0 = a * g ∧ s * m1 + o * l1 = c * g ∧ Bx n x' y' z' ∧ Ans prog 3 i__law_end [.ref b, frV (m0, m1), frV (l0, l1)] h (.ok (frV (a, c)) (h.set b (bxL x' y' z'))) := by
  have hbl : b < h.length := (List.getElem?_eq_some_iff.mp hb).1
  have hs : ∀ o : Ob, (h.set b o)[b]? = some o := fun o => List.getElem?_set_self hbl
  obtain ⟨d, x1, y1, z1, d0, d1, bx1, e1⟩ := a_take (P := prog) (f := i__law_take) rfl (h := h) (n := n + 1) (q := 4) hb bx (by decide) (by decide)
  obtain ⟨o, x2, y2, z2, o0, o1, bx2, e2⟩ := a_take (P := prog) (f := i__law_take) rfl (h := h.set b (bxL x1 y1 z1)) (n := n) (q := 5) (hs _) bx1 (by decide) (by decide)
  have q1 : 1 * m1 ≤ (1 + d) * m1 := Int.mul_le_mul_of_nonneg_right (by omega) (by omega)
  have q2 : 0 ≤ o * l1 := Int.mul_nonneg o0 hl1
  have q3 : (1 + d) * m1 ≤ 4 * m1 := Int.mul_le_mul_of_nonneg_right (by omega) (by omega)
  have q4 : o * l1 ≤ 4 * l1 := Int.mul_le_mul_of_nonneg_right (by omega) (by omega)
  obtain ⟨a, c, g, f1, f2, lo, g0, w1, w2⟩ := low_terms (x := (1 + d) * m0 + o * l0) (B := (1 + d) * m1 + o * l1) (by omega)
  have e4 := a_least (P := prog) (f := i__law_least) (fc := i__law_common) rfl rfl (h := h.set b (bxL x2 y2 z2) ++ [.lst [.int ((1 + d) * m0 + o * l0)]]) (s := .ref h.length) (x := (1 + d) * m0 + o * l0) (B := (1 + d) * m1 + o * l1) (by have := at_new0 (h.set b (bxL x2 y2 z2)) [.lst [.int ((1 + d) * m0 + o * l0)]]; rw [List.length_set] at this; simp [lst?, this]) (by omega) (by
    have : ((1 + d) * m1 + o * l1).natAbs < 2 ^ 70 := by omega
    exact Nat.lt_of_lt_of_le this (Nat.pow_le_pow_right (by omega) (by omega)))
  rw [lowT, f1, f2] at e4
  refine ⟨1 + d, o, a, c, g, x2, y2, z2, by omega, by omega, o0, by omega, lo, g0, w1, w2, bx2, ans_of rfl rfl fun m hm => ?_⟩
  have e1' := e1 m (by omega)
  have e2' := e2 m (by omega)
  have e4' := e4 m (by omega)
  have k1 := log_sum (a := 1 + d) (b := m0) (by omega) (by omega) (by omega) (by omega)
  have k2 := log_sum (a := 1 + d) (b := m1) (by omega) (by omega) (by omega) (by omega)
  have k3 := log_sum (a := o) (b := l0) (by omega) (by omega) (by omega) (by omega)
  have k4 := log_sum (a := o) (b := l1) (by omega) (by omega) (by omega) (by omega)
  have s1 : evS (call prog m) (runL prog) (fun _ => .bad) (.asg (.tup [(.name 3), (.name 4)]) (.tup [(.bin .add (.cst (.int 1)) (.call i__law_take [0, 1] [(.var 0), (.cst (.int 4))])), (.call i__law_take [0, 1] [(.var 0), (.cst (.int 5))])])) [.v (.ref b), .v (frV (m0, m1)), .v (frV (l0, l1)), .no, .no, .no] h = .nx [.v (.ref b), .v (frV (m0, m1)), .v (frV (l0, l1)), .v (.int (1 + d)), .v (.int o), .no] (h.set b (bxL x2 y2 z2)) := by
    simp [permute, e1', e2', bin, binI]
  have s2 : evS (call prog m) (runL prog) (fun _ => .bad) (.asg (.name 5) (.call i__law_least [0, 1] [(.lst [(.bin .add (.bin .mul (.var 3) (.idx (.var 1) (.cst (.int 0)))) (.bin .mul (.var 4) (.idx (.var 2) (.cst (.int 0)))))]), (.bin .add (.bin .mul (.var 3) (.idx (.var 1) (.cst (.int 1)))) (.bin .mul (.var 4) (.idx (.var 2) (.cst (.int 1)))))])) [.v (.ref b), .v (frV (m0, m1)), .v (frV (l0, l1)), .v (.int (1 + d)), .v (.int o), .no] (h.set b (bxL x2 y2 z2)) = .nx [.v (.ref b), .v (frV (m0, m1)), .v (frV (l0, l1)), .v (.int (1 + d)), .v (.int o), .v (.tup [.tup [.int a], .int c])] (h.set b (bxL x2 y2 z2)) := by
    simp [bin, binI, idxV, items?, place, k1, k2, k3, k4, permute, e4']
  show fin h (evSs (call prog m) (runL prog) (fun _ => .bad) (c__law_end i__law_take i__law_least).body [.v (.ref b), .v (frV (m0, m1)), .v (frV (l0, l1)), .no, .no, .no] h) = _
  rw [show evSs (call prog m) (runL prog) (fun _ => .bad) (c__law_end i__law_take i__law_least).body [.v (.ref b), .v (frV (m0, m1)), .v (frV (l0, l1)), .no, .no, .no] h = .rt (frV (a, c)) (h.set b (bxL x2 y2 z2)) from ss_nx s1 (ss_nx s2 (ss_rt (by simp [idxV, items?, place])))]
  simp 
end
end K03

set_option Elab.async false
set_option linter.all false
set_option maxRecDepth 10000
namespace K03
open PM
theorem low_of_det {p q x y : Int} (hq : 0 < q) (e : p * x - y * q = 1) : Low p q := by
  refine ⟨hq, ?_⟩
  have d1 : (Int.gcd p q : Int) ∣ 1 := by
    rw [← e]
    exact Int.dvd_sub (Int.dvd_mul_of_dvd_left (Int.gcd_dvd_left p q)) (Int.dvd_mul_of_dvd_right (Int.gcd_dvd_right p q))
  have d2 : Int.gcd p q ∣ 1 := Int.natCast_dvd_natCast.mp (by simpa using d1)
  exact Nat.dvd_one.mp d2
/-- what a drawn range is -/
structure Rg (p q a b c d : Int) : Prop where
  lm : Low p q
  p0 : 0 < p
  lo : Low a b
  a0 : 0 < a
  c0 : 0 < c
  hi : (c = 1 ∧ d = 0) ∨ Low c d
  h1 : a * q ≤ p * b
  h2 : p * d ≤ c * q
  le : a * d ≤ c * b
  un : ∀ s t, Spec s t a b c d → s = p ∧ t = q
  kp : p ≤ 2 ^ 30
  kq : q ≤ 1000000
  ka : a ≤ 2 ^ 30
  kb : b ≤ 1000000
  kc : c ≤ 2 ^ 30
  kd : d ≤ 1000000
theorem pos_of_mul {x g : Int} (hg : 0 < g) (h : 0 < x * g) : 0 < x := Int.lt_of_mul_lt_mul_right (a := g) (by omega) (by omega)
theorem le_mul_self {x g : Int} (hg : 0 < g) (hx : 0 ≤ x) : x ≤ x * g := by
  have : x * 1 ≤ x * g := Int.mul_le_mul_of_nonneg_left (by omega) hx
  omega
theorem le_of_mul {x y g : Int} (hg : 0 < g) (h : x * g ≤ y * g) : x ≤ y := Int.le_of_mul_le_mul_right h hg
/-- an end on the left, an end on the right -/
theorem rg_of {k : Nat} {la lb ra rb a b c d s o g : Int} (hk : k ≤ 5) (w : W k la lb ra rb) (s1 : 1 ≤ s) (s4 : s ≤ 4) (o0 : 0 ≤ o) (o4 : o ≤ 4) (lo : Low a b) (g0 : 0 < g)
    (e1 : s * (la + ra) + o * la = a * g) (e2 : s * (lb + rb) + o * lb = b * g)
    (hi : (c = 1 ∧ d = 0 ∧ rb = 0) ∨ ∃ s o g : Int, 1 ≤ s ∧ s ≤ 4 ∧ 0 ≤ o ∧ o ≤ 4 ∧ Low c d ∧ 0 < g ∧ s * (la + ra) + o * ra = c * g ∧ s * (lb + rb) + o * rb = d * g) : Rg (la + ra) (lb + rb) a b c d := by
  obtain ⟨l0, l1, r0, r1, det, b1, b2, b3, b4⟩ := w
  have p9 : (9 : Int) ^ k ≤ 59049 := by
    have : ∀ k, k ≤ 5 → (9 : Int) ^ k ≤ 59049 := by decide
    exact this k hk
  have dm : (la + ra) * lb - la * (lb + rb) = 1 := by grind
  have dm2 : ra * (lb + rb) - (la + ra) * rb = 1 := by grind
  have lm : Low (la + ra) (lb + rb) := low_of_det (by omega) dm
  have B0 := lo.1
  have q1 : 1 * (la + ra) ≤ s * (la + ra) := Int.mul_le_mul_of_nonneg_right s1 (by omega)
  have q2 : 0 ≤ o * la := Int.mul_nonneg o0 l0
  have q3 : s * (la + ra) ≤ 4 * (la + ra) := Int.mul_le_mul_of_nonneg_right s4 (by omega)
  have q4 : o * la ≤ 4 * la := Int.mul_le_mul_of_nonneg_right o4 l0
  have q5 : s * (lb + rb) ≤ 4 * (lb + rb) := Int.mul_le_mul_of_nonneg_right s4 (by omega)
  have q6 : o * lb ≤ 4 * lb := Int.mul_le_mul_of_nonneg_right o4 (by omega)
  have A0 : 0 < a := pos_of_mul g0 (by omega)
  have ag := le_mul_self g0 (show 0 ≤ a by omega)
  have bg := le_mul_self g0 (show 0 ≤ b by omega)
  have x1 : (a * lb - la * b) * g = s := by grind
  have x2 : 0 < a * lb - la * b := pos_of_mul g0 (by omega)
  have h1 : a * (lb + rb) ≤ (la + ra) * b := by
    refine le_of_mul g0 ?_
    have : (la + ra) * b * g - a * (lb + rb) * g = o := by grind
    omega
  -- the right end
  have hr : 0 < c ∧ ((c = 1 ∧ d = 0) ∨ Low c d) ∧ (la + ra) * d ≤ c * (lb + rb) ∧ a * d ≤ c * b ∧ c ≤ 2 ^ 30 ∧ d ≤ 1000000 ∧ ∀ S T : Int, 0 < T → S * d ≤ c * T → 0 < ra * T - S * rb := by
    rcases hi with ⟨rfl, rfl, rfl⟩ | ⟨s', o', g', s1', s4', o0', o4', lc, g0', f1, f2⟩
    · refine ⟨by decide, .inl ⟨rfl, rfl⟩, by omega, by omega, by decide, by decide, fun S T T0 _ => ?_⟩
      have := Int.mul_pos r0 T0
      omega
    · have r1' : 1 * (la + ra) ≤ s' * (la + ra) := Int.mul_le_mul_of_nonneg_right s1' (by omega)
      have r2' : 0 ≤ o' * ra := Int.mul_nonneg o0' (by omega)
      have r3' : s' * (la + ra) ≤ 4 * (la + ra) := Int.mul_le_mul_of_nonneg_right s4' (by omega)
      have r4' : o' * ra ≤ 4 * ra := Int.mul_le_mul_of_nonneg_right o4' (by omega)
      have r5' : s' * (lb + rb) ≤ 4 * (lb + rb) := Int.mul_le_mul_of_nonneg_right s4' (by omega)
      have r6' : o' * rb ≤ 4 * rb := Int.mul_le_mul_of_nonneg_right o4' (by omega)
      have C0 : 0 < c := pos_of_mul g0' (by omega)
      have D0 := lc.1
      have cg := le_mul_self g0' (show 0 ≤ c by omega)
      have dg := le_mul_self g0' (show 0 ≤ d by omega)
      have y1 : (ra * d - c * rb) * g' = s' := by grind
      have y2 : 0 < ra * d - c * rb := pos_of_mul g0' (by omega)
      have h2 : (la + ra) * d ≤ c * (lb + rb) := by
        refine le_of_mul g0' ?_
        have : c * (lb + rb) * g' - (la + ra) * d * g' = o' := by grind
        omega
      refine ⟨C0, .inr lc, h2, le_trans3 B0 lm.1 D0 h1 h2, by omega, by omega, fun S T T0 hS => ?_⟩
      refine pos_of_mul D0 ?_
      have z1 : S * d * rb ≤ c * T * rb := Int.mul_le_mul_of_nonneg_right hS r1
      have z2 : 0 < T * (ra * d - c * rb) := Int.mul_pos T0 y2
      have z3 : (ra * T - S * rb) * d = T * (ra * d - c * rb) + (c * T * rb - S * d * rb) := by grind
      omega
  obtain ⟨C0, hi', h2, le, kc, kd, rr⟩ := hr
  refine ⟨lm, by omega, lo, A0, C0, hi', h1, h2, le, fun S T sp => ?_, by omega, by omega, by omega, by omega, kc, kd⟩
  obtain ⟨ls, S0, i1, i2, mn⟩ := sp
  have T0 := ls.1
  obtain ⟨m1, m2⟩ := mn (la + ra) (lb + rb) lm.1 h1 h2
  have u2 := rr S T T0 i2
  have u1 : 0 < S * lb - la * T := by
    refine pos_of_mul B0 ?_
    have z1 : a * T * lb ≤ S * b * lb := Int.mul_le_mul_of_nonneg_right i1 (by omega)
    have z2 : 0 < T * (a * lb - la * b) := Int.mul_pos T0 x2
    have z3 : (S * lb - la * T) * b = T * (a * lb - la * b) + (S * b * lb - a * T * lb) := by grind
    omega
  have v1 : S = ra * (S * lb - la * T) + la * (ra * T - S * rb) := by grind
  have v2 : T = lb * (ra * T - S * rb) + rb * (S * lb - la * T) := by grind
  obtain ⟨u, eu⟩ : ∃ u, u = S * lb - la * T := ⟨_, rfl⟩
  obtain ⟨v, ev⟩ : ∃ v, v = ra * T - S * rb := ⟨_, rfl⟩
  rw [← eu, ← ev] at v1 v2
  rw [← eu] at u1
  rw [← ev] at u2
  have w1 : ra * 1 ≤ ra * u := Int.mul_le_mul_of_nonneg_left (by omega) (by omega)
  have w2 : la * 1 ≤ la * v := Int.mul_le_mul_of_nonneg_left (by omega) (by omega)
  have w3 : lb * 1 ≤ lb * v := Int.mul_le_mul_of_nonneg_left (by omega) (by omega)
  have w4 : rb * 1 ≤ rb * u := Int.mul_le_mul_of_nonneg_left (by omega) (by omega)
  omega
section
variable {p q a b c d : Int} {h : Heap}
theorem Rg.inv (r : Rg p q a b c d) (l : Low c d) : Inv (2 ^ 30) a b c d := ⟨r.lo, r.a0, l, r.le, r.ka, by have := r.kb; omega, r.kc, by have := r.kd; omega⟩
theorem Rg.ceil (r : Rg p q a b 1 0) : ceilP a b = (p, q) := by
  have := r.un _ _ (spec_end (a := a) (b := b) (c := 1) (d := 0) r.a0 r.lo.1 (by decide) (by decide) (by omega))
  show (-((-a).fdiv b), (1 : Int)) = (p, q)
  rw [this.1, this.2]
theorem Rg.z1 (r : Rg p q a b c d) : Ans prog 5 i_simplest [frV (a, b), endV c d] h (.ok (frV (p, q)) h) := by
  rcases r.hi with ⟨rfl, rfl⟩ | l
  · have e := z_aboveN (h := h) (K := 2 ^ 30) (by decide) r.a0 r.lo.1 (by have := r.kb; omega)
    rw [r.ceil] at e
    exact fun m hm => e m (by omega)
  · obtain ⟨s, t, sp, e⟩ := z_above (h := h) (K := 2 ^ 30) (by decide) (r.inv l) r.c0 (by have := r.kb; have := r.kd; omega)
    obtain ⟨rfl, rfl⟩ := r.un _ _ sp
    have : d ≠ 0 := by have := l.1; omega
    rw [endV, if_neg this]
    exact e
theorem Rg.z2 (r : Rg p q a b c d) : Ans prog 5 i_simplest [endV (-c) d, frV (-a, b)] h (.ok (frV (-p, q)) h) := by
  rcases r.hi with ⟨rfl, rfl⟩ | l
  · have e := z_belowN (h := h) (K := 2 ^ 30) (by decide) r.a0 r.lo.1 (by have := r.kb; omega)
    have e1 := r.ceil
    have e2 : (ceilP a b).1 = p := by rw [e1]
    have e3 : (1 : Int) = q := by have : (ceilP a b).2 = q := by rw [e1]
                                  exact this
    rw [e2, e3] at e
    exact fun m hm => e m (by omega)
  · obtain ⟨s, t, sp, e⟩ := z_below (h := h) (K := 2 ^ 30) (by decide) (r.inv l) r.c0 (by have := r.kb; have := r.kd; omega)
    obtain ⟨rfl, rfl⟩ := r.un _ _ sp
    have : d ≠ 0 := by have := l.1; omega
    rw [endV, if_neg this]
    exact e
theorem Rg.z3 (r : Rg p q a b c d) : Ans prog 5 i_simplest [frV (p, q), frV (p, q)] h (.ok (frV (p, q)) h) := by
  have i : Inv (2 ^ 30) p q p q := ⟨r.lm, r.p0, r.lm, Int.le_refl _, r.kp, by have := r.kq; omega, r.kp, by have := r.kq; omega⟩
  obtain ⟨s, t, sp, e⟩ := z_above (h := h) (K := 2 ^ 30) (by decide) i r.p0 (by have := r.kq; omega)
  obtain ⟨ls, _, i1, i2, _⟩ := sp
  obtain ⟨rfl, rfl⟩ := low_eq ls r.lm (by omega)
  exact e
theorem Rg.sp (r : Rg p q a b c d) : Spec p q a b c d := by
  rcases r.hi with ⟨rfl, rfl⟩ | l
  · have s := spec_end (a := a) (b := b) (c := 1) (d := 0) r.a0 r.lo.1 (by decide) (by decide) (by omega)
    obtain ⟨h1, h2⟩ := r.un _ _ s
    subst h1
    subst h2
    exact s
  · obtain ⟨s, t, sp, e⟩ := z_above (h := []) (K := 2 ^ 30) (by decide) (r.inv l) r.c0 (by have := r.kb; have := r.kd; omega)
    obtain ⟨rfl, rfl⟩ := r.un _ _ sp
    exact sp
theorem Rg.d0 (r : Rg p q a b c d) : 0 ≤ d := by
  rcases r.hi with ⟨_, rfl⟩ | l
  · decide
  · have := l.1; omega
theorem Rg.nl (r : Rg p q a b c d) : Ans prog 1 i__law_none_less [frV (p, q), frV (a, b), endV c d] h (.ok (.bl true) h) :=
  a_none_less (K := 2 ^ 30) (by decide) r.sp r.a0 r.lo.1 r.c0 r.d0 r.ka (by have := r.kb; omega) r.kc (by have := r.kd; omega) r.kp (by have := r.kq; omega)
theorem Rg.z4 (r : Rg p q a b c d) : Ans prog 3 i_simplest [frV (-a, b), endV c d] h (.ok (frV (0, 1)) h) := by
  have := r.a0
  have := r.c0
  have := r.ka
  have := r.kb
  have := r.kc
  have := r.kd
  rcases r.hi with ⟨rfl, rfl⟩ | l
  · exact z_zeroR (by omega)
  · have : d ≠ 0 := by have := l.1; omega
    rw [endV, if_neg this]
    exact z_zero (K := 2 ^ 30) (by decide) (by omega) (by omega) r.lo.1 l.1 (by omega) (by omega) (by omega) (by omega)
theorem Rg.z5 (r : Rg p q a b c d) : Ans prog 3 i_simplest [.non, endV c d] h (.ok (frV (0, 1)) h) := by
  have := r.c0
  rcases r.hi with ⟨rfl, rfl⟩ | l
  · exact z_zeroN
  · have : d ≠ 0 := by have := l.1; omega
    rw [endV, if_neg this]
    exact z_zeroL (by omega)
theorem Rg.z6 (r : Rg p q a b c d) : Ans prog 3 i_simplest [frV (-a, b), .non] h (.ok (frV (0, 1)) h) := z_zeroR (by have := r.a0; omega)
theorem Rg.z7 (r : Rg p q a b c d) : Ans prog 3 i_simplest [frV (0, 1), frV (a, b)] h (.ok (frV (0, 1)) h) := by
  have := r.a0
  have := r.ka
  have := r.kb
  exact z_zero (K := 2 ^ 30) (by decide) (by omega) (by omega) (by decide) r.lo.1 (by decide) (by decide) (by omega) (by omega)
theorem Rg.z8 (r : Rg p q a b c d) : Ans prog 3 i_simplest [frV (-a, b), frV (0, 1)] h (.ok (frV (0, 1)) h) := by
  have := r.a0
  have := r.ka
  have := r.kb
  exact z_zero (K := 2 ^ 30) (by decide) (by omega) (by omega) r.lo.1 (by decide) (by omega) (by omega) (by decide) (by decide)
theorem Rg.z9 (r : Rg p q a b c d) : Ans prog 3 i_simplest [frV (a, b), .non] h (.ok (frV (-((-a).fdiv b), 1)) h) := z_aboveN (K := 2 ^ 30) (by decide) r.a0 r.lo.1 (by have := r.kb; omega)
theorem Rg.z10 (r : Rg p q a b c d) : Ans prog 3 i_simplest [.non, frV (-a, b)] h (.ok (frV ((-a).fdiv b, 1)) h) := by
  have e := z_belowN (h := h) (K := 2 ^ 30) (by decide) r.a0 r.lo.1 (by have := r.kb; omega)
  rw [show -(ceilP a b).1 = (-a).fdiv b from Int.neg_neg _] at e
  exact e
theorem Rg.z11 (r : Rg p q a b c d) : Ans prog 2 i_simplest [frV (a, b), frV (-a, b)] h (.exc ⟨x_Refused, "word", .str "none"⟩ h) := by
  have := r.a0
  have := r.ka
  have := r.kb
  have := r.lo.1
  refine z_none (K := 2 ^ 30) (by decide) r.lo.1 r.lo.1 (by omega) (by omega) (by omega) (by omega) (by omega) (by omega) ?_
  have := Int.mul_pos r.a0 r.lo.1
  rw [Int.neg_mul]
  omega
theorem Rg.z12 (r : Rg p q a b c d) (l : Low c d) (n : ¬ (c = a ∧ d = b)) : Ans prog 2 i_simplest [frV (c, d), frV (a, b)] h (.exc ⟨x_Refused, "word", .str "none"⟩ h) := by
  have := r.a0
  have := r.c0
  have := r.ka
  have := r.kb
  have := r.kc
  have := r.kd
  refine z_none (K := 2 ^ 30) (by decide) l.1 r.lo.1 (by omega) (by omega) (by omega) (by omega) (by omega) (by omega) ?_
  have := r.le
  have : a * d ≠ c * b := fun e => by
    obtain ⟨h1, h2⟩ := low_eq r.lo l e
    exact n ⟨h1.symm, h2.symm⟩
  omega
end
end K03

set_option Elab.async false
set_option linter.all false
set_option maxRecDepth 10000
namespace K03
open PM
section
variable {h : Heap}
theorem heq_refN : heq h (.tup [.str "refused", .str "none"]) (.tup [.str "refused", .str "none"]) = some true := by
  unfold heq
  rw [if_pos ⟨by decide +kernel, by decide +kernel⟩]
  rfl
abbrev refN : Val := .tup [.str "refused", .str "none"]
theorem mem1 {v : Val} : ∀ t ∈ [v], t = v := fun t h => List.mem_singleton.mp h
theorem mem2 {v : Val} : ∀ t ∈ [v, v], t = v := fun t h => by
  rcases List.mem_cons.mp h with r | r
  · exact r
  · exact List.mem_singleton.mp r
abbrev rrE (b : Nat) (p q a c : Int) (L R E : Val) (t : List Sl) : Env := .v (.ref b) :: .v (frV (p, q)) :: .v L :: .v R :: .v (frV (a, c)) :: .v E :: t
theorem rr_end {m b : Nat} {p q a c : Int} {L R E : Val} {s6 : Sl} {ts : List Val} (ht : ∀ t ∈ ts, t = refN) (hl : ts.length ≤ 2) : evSs (call prog m) (runL prog) (fun _ => .bad) [.ret (.b1 .all (.comp [8] (.name 8) (.ex (.var 7)) (.cst (.bl true)) (.cmp .eq (.var 8) (.tup [(.cst (.str "refused")), (.cst (.str "none"))]))))] (rrE b p q a c L R E [s6, .v (.ref h.length), .no]) (h ++ [.lst ts]) = .rt (.bl true) (h ++ [.lst ts]) := by
  refine ss_rt ?_
  obtain ⟨gs, ei, hd⟩ := ex_src (cl := call prog m) (clL := runL prog) (act := fun _ => .bad) (e := .var 7) (ρ := rrE b p q a c L R E [s6, .v (.ref h.length), .no]) (h := h ++ [.lst ts]) (v := .ref h.length) (vs := ts) (by simp) (by simp [items?])
  have ec := comp_ev (own := [8]) (t := .name 8) (cond := .cst (.bl true)) (elt := .cmp .eq (.var 8) (.tup [(.cst (.str "refused")), (.cst (.str "none"))])) ei hd (f := fun _ => .bl true) (fun v hv => by
    rw [ht v hv]
    exact ⟨_, by simp [wipe]; rfl, by simp, by simp [heq_refN]⟩) (by omega)
  have ea : ∀ l : List Val, (l.map fun _ => Val.bl true).mapM blOf = some (l.map fun _ => true) := fun l => by
    induction l with
    | nil => rfl
    | cons v l ih => simp [List.mapM_cons, ih, blOf]
  have eb : ∀ l : List Val, (l.all fun _ => true) = true := fun l => by simp
  simp [↓ec, bl1, lst?, ea, eb]
theorem rr_refused {m b : Nat} {p q a c : Int} {L R E : Val} {t : List Sl} {e : Ex} (ea : evE (call prog m) (runL prog) (fun _ => .bad) e (rrE b p q a c L R E t) h = .exc ⟨x_Refused, "word", .str "none"⟩ h) :
    evE (call prog m) (runL prog) (fun _ => .bad) (.lam i__law_refused e) (rrE b p q a c L R E t) h = .ok refN h :=
  lam_ev (r_refused (x := x_InvalidNumber) (y := x_Refused) (by decide) rfl ea rfl)
theorem rr_hi {m b : Nat} (hm : 5 ≤ m) {p q a c C D : Int} (rg : Rg p q a c C D) {L R : Val} {s6 : Sl} : ∃ ts, evSs (call prog m) (runL prog) (fun _ => .bad) [.ite (.and (.cmp .isnot (.var 5) (.cst .non)) (.cmp .ne (.var 5) (.var 4))) [.ex (.meth .append (.var 7) [(.lam i__law_refused (.call i_simplest [0, 1] [(.var 5), (.var 4)]))])] [],
      .ret (.b1 .all (.comp [8] (.name 8) (.ex (.var 7)) (.cst (.bl true)) (.cmp .eq (.var 8) (.tup [(.cst (.str "refused")), (.cst (.str "none"))]))))] (rrE b p q a c L R (endV C D) [s6, .v (.ref h.length), .no]) (h ++ [.lst [refN]]) = .rt (.bl true) (h ++ [.lst ts]) := by
  rcases rg.hi with ⟨rfl, rfl⟩ | l
  · refine ⟨[refN], ss_nx (ite_f (and_f (h1 := h ++ [.lst [refN]]) ?_)) (rr_end mem1 (by decide))⟩
    show evE _ _ _ _ (rrE b p q a c L R .non [s6, .v (.ref h.length), .no]) _ = _
    simp
  · have d0 : D ≠ 0 := by have := l.1; omega
    rw [endV, if_neg d0]
    by_cases q2 : C = a ∧ D = c
    · refine ⟨[refN], ss_nx (ite_f (and_t (h1 := h ++ [.lst [refN]]) (by simp) ?_)) (rr_end mem1 (by decide))⟩
      simp [q2.1, q2.2]
    · have u12 := rg.z12 (h := h ++ [.lst [refN]]) l q2 m (by omega)
      have l9 := rr_refused (h := h ++ [.lst [refN]]) (m := m) (b := b) (p := p) (q := q) (a := a) (c := c) (L := L) (R := R) (E := frV (C, D)) (t := [s6, .v (.ref h.length), .no]) (e := .call i_simplest [0, 1] [(.var 5), (.var 4)]) (by simp [permute, u12])
      have cc : (C == a && D == c) = false := by
        simp
        exact fun r s => q2 ⟨r, s⟩
      have en := rr_end (h := h) (m := m) (b := b) (p := p) (q := q) (a := a) (c := c) (L := L) (R := R) (E := frV (C, D)) (s6 := s6) (ts := [refN, refN]) mem2 (by simp)
      refine ⟨[refN, refN], ?_⟩
      refine ss_nx ?_ en
      simp [cc, ↓l9, recv, lst?, methV, appV]
theorem rr_main {m b : Nat} (hm : 5 ≤ m) {p q a c C D : Int} (rg : Rg p q a c C D) {L R : Val} : ∃ ts, evSs (call prog m) (runL prog) (fun _ => .bad) [.ite (.or (.cmp .ne (.call i_simplest [0, 1] [(.var 4), (.var 5)]) (.var 1)) (.cmp .ne (.call i_simplest [0, 1] [(.call i__law_turn [0] [(.var 5)]), (.call i__law_turn [0] [(.var 4)])]) (.call i__law_turn [0] [(.var 1)]))) [.ret (.cst (.bl false))] [],
      .ite (.or (.cmp .ne (.call i_simplest [0, 1] [(.var 1), (.var 1)]) (.var 1)) (.not (.call i__law_none_less [0, 1, 2] [(.var 1), (.var 4), (.var 5)]))) [.ret (.cst (.bl false))] [],
      .ite (.or (.cmp .ne (.call i_simplest [0, 1] [(.call i__law_turn [0] [(.var 4)]), (.var 5)]) (.tup [(.cst (.int 0)), (.cst (.int 1))])) (.or (.cmp .ne (.call i_simplest [0, 1] [(.cst .non), (.var 5)]) (.tup [(.cst (.int 0)), (.cst (.int 1))])) (.cmp .ne (.call i_simplest [0, 1] [(.call i__law_turn [0] [(.var 4)]), (.cst .non)]) (.tup [(.cst (.int 0)), (.cst (.int 1))])))) [.ret (.cst (.bl false))] [],
      .ite (.or (.cmp .ne (.call i_simplest [0, 1] [(.tup [(.cst (.int 0)), (.cst (.int 1))]), (.var 4)]) (.tup [(.cst (.int 0)), (.cst (.int 1))])) (.or (.cmp .ne (.call i_simplest [0, 1] [(.call i__law_turn [0] [(.var 4)]), (.tup [(.cst (.int 0)), (.cst (.int 1))])]) (.tup [(.cst (.int 0)), (.cst (.int 1))])) (.cmp .ne (.call i_simplest [0, 1] [(.cst .non), (.cst .non)]) (.tup [(.cst (.int 0)), (.cst (.int 1))])))) [.ret (.cst (.bl false))] [],
      .asg (.name 6) (.bin .sub (.cst (.int 0)) (.bin .fdiv (.bin .sub (.cst (.int 0)) (.idx (.var 4) (.cst (.int 0)))) (.idx (.var 4) (.cst (.int 1))))),
      .ite (.or (.cmp .ne (.call i_simplest [0, 1] [(.var 4), (.cst .non)]) (.tup [(.var 6), (.cst (.int 1))])) (.cmp .ne (.call i_simplest [0, 1] [(.cst .non), (.call i__law_turn [0] [(.var 4)])]) (.tup [(.bin .sub (.cst (.int 0)) (.var 6)), (.cst (.int 1))]))) [.ret (.cst (.bl false))] [],
      .asg (.name 7) (.lst [(.lam i__law_refused (.call i_simplest [0, 1] [(.var 4), (.call i__law_turn [0] [(.var 4)])]))]),
      .ite (.and (.cmp .isnot (.var 5) (.cst .non)) (.cmp .ne (.var 5) (.var 4))) [.ex (.meth .append (.var 7) [(.lam i__law_refused (.call i_simplest [0, 1] [(.var 5), (.var 4)]))])] [],
      .ret (.b1 .all (.comp [8] (.name 8) (.ex (.var 7)) (.cst (.bl true)) (.cmp .eq (.var 8) (.tup [(.cst (.str "refused")), (.cst (.str "none"))]))))] (rrE b p q a c L R (endV C D) [.no, .no, .no]) h = .rt (.bl true) (h ++ [.lst ts]) := by
  have t1 : call prog m i__law_turn [endV C D] h = .ok (endV (-C) D) h := by
    rcases rg.hi with ⟨rfl, rfl⟩ | l
    · exact a_turnN rfl m (by omega)
    · rw [endV, endV, if_neg (by have := l.1; omega), if_neg (by have := l.1; omega)]
      have := a_turn (P := prog) (f := i__law_turn) rfl (h := h) (a := C) (b := D) m (by omega)
      rwa [Int.zero_sub] at this
  have t2 := a_turn (P := prog) (f := i__law_turn) rfl (h := h) (a := p) (b := q) m (by omega)
  have t3 := a_turn (P := prog) (f := i__law_turn) rfl (h := h) (a := a) (b := c) m (by omega)
  rw [Int.zero_sub] at t2 t3
  have v1 := rg.z1 (h := h) m (by omega)
  have v2 := rg.z2 (h := h) m (by omega)
  have v3 := rg.z3 (h := h) m (by omega)
  have v4 := rg.z4 (h := h) m (by omega)
  have v5 := rg.z5 (h := h) m (by omega)
  have v6 := rg.z6 (h := h) m (by omega)
  have v7 := rg.z7 (h := h) m (by omega)
  have v8 := rg.z8 (h := h) m (by omega)
  have v9 := rg.z9 (h := h) m (by omega)
  have v10 := rg.z10 (h := h) m (by omega)
  have v11 := rg.z11 (h := h) m (by omega)
  have v0 := z_zeroN (h := h) m (by omega)
  have vn := rg.nl (h := h) m (by omega)
  have la0 : c ≠ 0 := by have := rg.lo.1; omega
  have lc : c.natAbs.log2 < 9000 := by have := log_le (a := c) (k := 200) (by have := rg.lo.1; omega) (by have := rg.kb; omega) (by omega); omega
  obtain ⟨ts, hr⟩ := rr_hi (h := h) (m := m) (b := b) hm rg (L := L) (R := R) (s6 := .v (.int (-((-a).fdiv c))))
  have dv : binI .fdiv (-a) c = some (.int ((-a).fdiv c)) := binI_fdiv ⟨la0, lc⟩
  generalize (-a).fdiv c = F at *
  generalize endV C D = E at *
  generalize endV (-C) D = E' at *
  have l7 := rr_refused (h := h) (m := m) (b := b) (p := p) (q := q) (a := a) (c := c) (L := L) (R := R) (E := E) (t := [.v (.int (-F)), .no, .no]) (e := .call i_simplest [0, 1] [(.var 4), (.call i__law_turn [0] [(.var 4)])]) (by simp [permute, t3, v11])
  refine ⟨ts, ?_⟩
  refine ss_nx (ite_f (or_f (h1 := h) (by simp [permute, v1]) (by simp [permute, t1, t2, t3, v2]))) ?_
  refine ss_nx (ite_f (or_f (h1 := h) (by simp [permute, v3]) (by simp [permute, vn]))) ?_
  refine ss_nx (ite_f (or_f (h1 := h) (by simp [permute, t3, v4]) (or_f (h1 := h) (by simp [permute, v5]) (by simp [permute, t3, v6])))) ?_
  refine ss_nx (ite_f (or_f (h1 := h) (by simp [permute, t3, v7]) (or_f (h1 := h) (by simp [permute, t3, v8]) (by simp [permute, v0])))) ?_
  refine ss_nx (ρ1 := rrE b p q a c L R E [.v (.int (-F)), .no, .no]) (h1 := h) (by simp [place, dv]) ?_
  refine ss_nx (ite_f (or_f (h1 := h) (by simp [permute, v9]) (by simp [permute, t3, v10]))) ?_
  exact ss_nx (ρ1 := rrE b p q a c L R E [.v (.int (-F)), .v (.ref h.length), .no]) (h1 := h ++ [.lst [refN]]) (by simp [↓l7]) hr
theorem a_ranges {b n : Nat} {x y z : Int} (hb : h[b]? = some (bxL x y z)) (bx : Bx (n + 12) x y z) :
    ∃ x' y' z', Bx n x' y' z' ∧ Ans prog 6 i__law_ranges_right [.ref b] h (.ok (.bl true) (h.set b (bxL x' y' z'))) := by
  have hbl : b < h.length := (List.getElem?_eq_some_iff.mp hb).1
  have hs : ∀ o : Ob, (h.set b o)[b]? = some o := fun o => List.getElem?_set_self hbl
  obtain ⟨k, la, lb, ra, rb, x1, y1, z1, hk, w, bx1, e1⟩ := a_way (h := h) (n := n + 5) hb bx
  have p9 : (9 : Int) ^ k ≤ 59049 := by
    have : ∀ k, k ≤ 5 → (9 : Int) ^ k ≤ 59049 := by decide
    exact this k hk
  have w' := w
  obtain ⟨l0, l1, r0, r1, det, b1, b2, b3, b4⟩ := w'
  obtain ⟨s, o, a, c, g, x2, y2, z2, s1, s4, o0, o4, lo, g0, f1, f2, bx2, e2⟩ := a_end (h := h.set b (bxL x1 y1 z1)) (n := n + 3) (hs _) bx1 (m0 := la + ra) (m1 := lb + rb) (l0 := la) (l1 := lb) (by omega) (by omega) (by omega) (by omega) (by omega) (by omega) (by omega) (by omega)
  obtain ⟨s', o', a', c', g', x3, y3, z3, s1', s4', o0', o4', lo', g0', f1', f2', bx3, e3⟩ := a_end (h := h.set b (bxL x2 y2 z2)) (n := n + 1) (hs _) bx2 (m0 := la + ra) (m1 := lb + rb) (l0 := ra) (l1 := rb) (by omega) (by omega) (by omega) (by omega) (by omega) (by omega) (by omega) (by omega)
  rw [List.set_set] at e2 e3
  obtain ⟨dd, x4, y4, z4, d0, d1, bx4, e4⟩ := a_take (P := prog) (f := i__law_take) rfl (h := h.set b (bxL x3 y3 z3)) (n := n) (q := 2) (hs _) bx3 (by decide) (by decide)
  have n1 : c' ≠ 0 := by have := lo'.1; omega
  have rgH := rg_of hk w s1 s4 o0 (by omega) lo g0 f1 f2 (c := a') (d := c') (.inr ⟨s', o', g', s1', s4', o0', o4', lo', g0', f1', f2'⟩)
  have rgN : rb = 0 → Rg (la + ra) (lb + rb) a c 1 0 := fun rb0 => rg_of hk w s1 s4 o0 (by omega) lo g0 f1 f2 (.inl ⟨rfl, rfl, rb0⟩)
  have bx3' := bx3.mono (k := n) (by omega)
  clear w l0 l1 r0 r1 det b1 b2 b3 b4 s1 s4 o0 o4 g0 f1 f2 s1' s4' o0' o4' lo' g0' f1' f2' p9 d0 d1 hk bx bx1 bx2 bx3 lo
  generalize la + ra = p at *
  generalize eq : lb + rb = q at *
  -- the third statement
  obtain ⟨C, D, x5, y5, z5, bx5, rg, ev3⟩ : ∃ C D x5 y5 z5, Bx n x5 y5 z5 ∧ Rg p q a c C D ∧ ∀ m, 5 ≤ m →
      evS (call prog m) (runL prog) (fun _ => .bad) (.ite (.and (.cmp .eq (.idx (.var 3) (.cst (.int 1))) (.cst (.int 0))) (.cmp .eq (.call i__law_take [0, 1] [(.var 0), (.cst (.int 2))]) (.cst (.int 0)))) [.asg (.name 5) (.cst .non)] [])
        (rrE b p q a c (frV (la, lb)) (frV (ra, rb)) (frV (a', c')) [.no, .no, .no]) (h.set b (bxL x3 y3 z3))
        = .nx (rrE b p q a c (frV (la, lb)) (frV (ra, rb)) (endV C D) [.no, .no, .no]) (h.set b (bxL x5 y5 z5)) := by
    have eH : endV a' c' = frV (a', c') := by rw [endV, if_neg n1]
    by_cases rb0 : rb = 0
    · by_cases q : dd = 0
      · refine ⟨1, 0, x4, y4, z4, bx4, rgN rb0, fun m hm => ?_⟩
        have e4' := e4 m (by omega)
        simp [place, rb0, permute, e4', q, endV]
      · refine ⟨a', c', x4, y4, z4, bx4, rgH, fun m hm => ?_⟩
        have e4' := e4 m (by omega)
        rw [eH]
        simp [place, rb0, permute, e4', q]
    · refine ⟨a', c', x3, y3, z3, bx3', rgH, fun m hm => ?_⟩
      rw [eH]
      simp [place, rb0]
  refine ⟨x5, y5, z5, bx5, ans_of rfl rfl fun m hm => ?_⟩
  obtain ⟨ts, hr⟩ := rr_main (h := h.set b (bxL x5 y5 z5)) (m := m) (b := b) hm rg (L := frV (la, lb)) (R := frV (ra, rb))
  have e1' := e1 m (by omega)
  have e2' := e2 m (by omega)
  have e3' := e3 m (by omega)
  show fin h (evSs (call prog m) (runL prog) (fun _ => .bad) [.asg (.tup [(.name 1), (.name 2), (.name 3)]) (.call i__law_way [0] [(.var 0)]),
      .asg (.tup [(.name 4), (.name 5)]) (.tup [(.call i__law_end [0, 1, 2] [(.var 0), (.var 1), (.var 2)]), (.call i__law_end [0, 1, 2] [(.var 0), (.var 1), (.var 3)])]),
      .ite (.and (.cmp .eq (.idx (.var 3) (.cst (.int 1))) (.cst (.int 0))) (.cmp .eq (.call i__law_take [0, 1] [(.var 0), (.cst (.int 2))]) (.cst (.int 0)))) [.asg (.name 5) (.cst .non)] [],
      .ite (.or (.cmp .ne (.call i_simplest [0, 1] [(.var 4), (.var 5)]) (.var 1)) (.cmp .ne (.call i_simplest [0, 1] [(.call i__law_turn [0] [(.var 5)]), (.call i__law_turn [0] [(.var 4)])]) (.call i__law_turn [0] [(.var 1)]))) [.ret (.cst (.bl false))] [],
      .ite (.or (.cmp .ne (.call i_simplest [0, 1] [(.var 1), (.var 1)]) (.var 1)) (.not (.call i__law_none_less [0, 1, 2] [(.var 1), (.var 4), (.var 5)]))) [.ret (.cst (.bl false))] [],
      .ite (.or (.cmp .ne (.call i_simplest [0, 1] [(.call i__law_turn [0] [(.var 4)]), (.var 5)]) (.tup [(.cst (.int 0)), (.cst (.int 1))])) (.or (.cmp .ne (.call i_simplest [0, 1] [(.cst .non), (.var 5)]) (.tup [(.cst (.int 0)), (.cst (.int 1))])) (.cmp .ne (.call i_simplest [0, 1] [(.call i__law_turn [0] [(.var 4)]), (.cst .non)]) (.tup [(.cst (.int 0)), (.cst (.int 1))])))) [.ret (.cst (.bl false))] [],
      .ite (.or (.cmp .ne (.call i_simplest [0, 1] [(.tup [(.cst (.int 0)), (.cst (.int 1))]), (.var 4)]) (.tup [(.cst (.int 0)), (.cst (.int 1))])) (.or (.cmp .ne (.call i_simplest [0, 1] [(.call i__law_turn [0] [(.var 4)]), (.tup [(.cst (.int 0)), (.cst (.int 1))])]) (.tup [(.cst (.int 0)), (.cst (.int 1))])) (.cmp .ne (.call i_simplest [0, 1] [(.cst .non), (.cst .non)]) (.tup [(.cst (.int 0)), (.cst (.int 1))])))) [.ret (.cst (.bl false))] [],
      .asg (.name 6) (.bin .sub (.cst (.int 0)) (.bin .fdiv (.bin .sub (.cst (.int 0)) (.idx (.var 4) (.cst (.int 0)))) (.idx (.var 4) (.cst (.int 1))))),
      .ite (.or (.cmp .ne (.call i_simplest [0, 1] [(.var 4), (.cst .non)]) (.tup [(.var 6), (.cst (.int 1))])) (.cmp .ne (.call i_simplest [0, 1] [(.cst .non), (.call i__law_turn [0] [(.var 4)])]) (.tup [(.bin .sub (.cst (.int 0)) (.var 6)), (.cst (.int 1))]))) [.ret (.cst (.bl false))] [],
      .asg (.name 7) (.lst [(.lam i__law_refused (.call i_simplest [0, 1] [(.var 4), (.call i__law_turn [0] [(.var 4)])]))]),
      .ite (.and (.cmp .isnot (.var 5) (.cst .non)) (.cmp .ne (.var 5) (.var 4))) [.ex (.meth .append (.var 7) [(.lam i__law_refused (.call i_simplest [0, 1] [(.var 5), (.var 4)]))])] [],
      .ret (.b1 .all (.comp [8] (.name 8) (.ex (.var 7)) (.cst (.bl true)) (.cmp .eq (.var 8) (.tup [(.cst (.str "refused")), (.cst (.str "none"))]))))] [.v (.ref b), .no, .no, .no, .no, .no, .no, .no, .no] h) = _
  have main : evSs (call prog m) (runL prog) (fun _ => .bad) [.asg (.tup [(.name 1), (.name 2), (.name 3)]) (.call i__law_way [0] [(.var 0)]),
      .asg (.tup [(.name 4), (.name 5)]) (.tup [(.call i__law_end [0, 1, 2] [(.var 0), (.var 1), (.var 2)]), (.call i__law_end [0, 1, 2] [(.var 0), (.var 1), (.var 3)])]),
      .ite (.and (.cmp .eq (.idx (.var 3) (.cst (.int 1))) (.cst (.int 0))) (.cmp .eq (.call i__law_take [0, 1] [(.var 0), (.cst (.int 2))]) (.cst (.int 0)))) [.asg (.name 5) (.cst .non)] [],
      .ite (.or (.cmp .ne (.call i_simplest [0, 1] [(.var 4), (.var 5)]) (.var 1)) (.cmp .ne (.call i_simplest [0, 1] [(.call i__law_turn [0] [(.var 5)]), (.call i__law_turn [0] [(.var 4)])]) (.call i__law_turn [0] [(.var 1)]))) [.ret (.cst (.bl false))] [],
      .ite (.or (.cmp .ne (.call i_simplest [0, 1] [(.var 1), (.var 1)]) (.var 1)) (.not (.call i__law_none_less [0, 1, 2] [(.var 1), (.var 4), (.var 5)]))) [.ret (.cst (.bl false))] [],
      .ite (.or (.cmp .ne (.call i_simplest [0, 1] [(.call i__law_turn [0] [(.var 4)]), (.var 5)]) (.tup [(.cst (.int 0)), (.cst (.int 1))])) (.or (.cmp .ne (.call i_simplest [0, 1] [(.cst .non), (.var 5)]) (.tup [(.cst (.int 0)), (.cst (.int 1))])) (.cmp .ne (.call i_simplest [0, 1] [(.call i__law_turn [0] [(.var 4)]), (.cst .non)]) (.tup [(.cst (.int 0)), (.cst (.int 1))])))) [.ret (.cst (.bl false))] [],
      .ite (.or (.cmp .ne (.call i_simplest [0, 1] [(.tup [(.cst (.int 0)), (.cst (.int 1))]), (.var 4)]) (.tup [(.cst (.int 0)), (.cst (.int 1))])) (.or (.cmp .ne (.call i_simplest [0, 1] [(.call i__law_turn [0] [(.var 4)]), (.tup [(.cst (.int 0)), (.cst (.int 1))])]) (.tup [(.cst (.int 0)), (.cst (.int 1))])) (.cmp .ne (.call i_simplest [0, 1] [(.cst .non), (.cst .non)]) (.tup [(.cst (.int 0)), (.cst (.int 1))])))) [.ret (.cst (.bl false))] [],
      .asg (.name 6) (.bin .sub (.cst (.int 0)) (.bin .fdiv (.bin .sub (.cst (.int 0)) (.idx (.var 4) (.cst (.int 0)))) (.idx (.var 4) (.cst (.int 1))))),
      .ite (.or (.cmp .ne (.call i_simplest [0, 1] [(.var 4), (.cst .non)]) (.tup [(.var 6), (.cst (.int 1))])) (.cmp .ne (.call i_simplest [0, 1] [(.cst .non), (.call i__law_turn [0] [(.var 4)])]) (.tup [(.bin .sub (.cst (.int 0)) (.var 6)), (.cst (.int 1))]))) [.ret (.cst (.bl false))] [],
      .asg (.name 7) (.lst [(.lam i__law_refused (.call i_simplest [0, 1] [(.var 4), (.call i__law_turn [0] [(.var 4)])]))]),
      .ite (.and (.cmp .isnot (.var 5) (.cst .non)) (.cmp .ne (.var 5) (.var 4))) [.ex (.meth .append (.var 7) [(.lam i__law_refused (.call i_simplest [0, 1] [(.var 5), (.var 4)]))])] [],
      .ret (.b1 .all (.comp [8] (.name 8) (.ex (.var 7)) (.cst (.bl true)) (.cmp .eq (.var 8) (.tup [(.cst (.str "refused")), (.cst (.str "none"))]))))] [.v (.ref b), .no, .no, .no, .no, .no, .no, .no, .no] h = .rt (.bl true) (h.set b (bxL x5 y5 z5) ++ [.lst ts]) := by
    refine ss_nx (ρ1 := [.v (.ref b), .v (frV (p, q)), .v (frV (la, lb)), .v (frV (ra, rb)), .no, .no, .no, .no, .no]) (h1 := h.set b (bxL x1 y1 z1)) (by simp [permute, e1']) ?_
    refine ss_nx (ρ1 := rrE b p q a c (frV (la, lb)) (frV (ra, rb)) (frV (a', c')) [.no, .no, .no]) (h1 := h.set b (bxL x3 y3 z3)) (by simp [permute, e2', e3']) ?_
    exact ss_nx (ev3 m (by omega)) hr
  rw [main]
  simp
end
end K03

set_option Elab.async false
set_option linter.all false
set_option maxRecDepth 10000
namespace K03
open PM
section
variable {h : Heap}
theorem both_ref {k : Nat} {o : Ob} (e : h[k]? = some o) (q : (∃ vs, o = .lst vs) ∨ ∃ kv, o = .dct kv) : Both h (.ref k) := by
  refine both_no ?_
  rcases q with ⟨vs, rfl⟩ | ⟨kv, rfl⟩ <;> simp [isaB, e]
abbrev odd8 (a c : Int) (r : Nat) : List Val := [.tup [.int a, .int (-c)], .tup [.int a, .int 0], .tup [.int (2 * a), .int (2 * c)], .tup [.int 0, .int c], .tup [.bl true, .int 1], .tup [.int 1, .bl true], .ref r, .tup [.int a]]
abbrev odd10 (a c : Int) (r : Nat) : List Val := [.non, .int 0, .int 7, .str "12", .tup [.int a, .int c, .int 1], .tup [.non, .int 1], .tup [.str "1", .int 1], .ref r, .tup [.int c, .int a], .tup [.tup [.int 1, .int 2], .int 1]]
theorem a_odd {b n : Nat} {x y z : Int} (hb : h[b]? = some (bxL x y z)) (bx : Bx (n + 1) x y z) {a c : Int} (sa : a.natAbs < 2 ^ 100) (sc : c.natAbs < 2 ^ 100) :
    ∃ v l x' y' z', Bx n x' y' z' ∧ Both (h.set b (bxL x' y' z') ++ l) v ∧ Ans prog 3 i__law_odd [.ref b, frV (a, c)] h (.ok v (h.set b (bxL x' y' z') ++ l)) := by
  have hbl : b < h.length := (List.getElem?_eq_some_iff.mp hb).1
  have sA : ∀ (o : Ob) (l : Heap), (h ++ l).set b o = h.set b o ++ l := fun o l => List.set_append_left _ _ hbl
  obtain ⟨l5, el5⟩ : ∃ l5 : Heap, l5 = [.lst [.int a, .int c], .lst (odd8 a c h.length), .dct [], .lst (odd10 a c (h.length + 2)), .lst (odd8 a c h.length ++ odd10 a c (h.length + 2))] := ⟨_, rfl⟩
  have nw : ∀ (o : Ob) (i : Nat), (h.set b o ++ l5)[h.length + i]? = l5[i]? := fun o i => by
    have := at_new (h.set b o) l5 i
    rwa [List.length_set] at this
  obtain ⟨k, v, x', y', z', ek, bx', e1⟩ := a_pick (P := prog) (f := i__law_pick) (ft := i__law_take) rfl rfl (h := h ++ l5) (b := b) (n := n) (s := .ref (h.length + 4)) (vs := odd8 a c h.length ++ odd10 a c (h.length + 2)) (at_old hb) bx
    (fun o => by rw [sA]; simp [items?, nw, el5]) (by simp [items?, el5]) (by simp) (by simp)
  rw [sA] at e1
  have la : Nat.log2 2 + a.natAbs.log2 < 1000000 := by have := nlog (n := 2) (k := 60) (by decide) (by decide); have := nlog sa (by decide); omega
  have lc : Nat.log2 2 + c.natAbs.log2 < 1000000 := by have := nlog (n := 2) (k := 60) (by decide) (by decide); have := nlog sc (by decide); omega
  have st : ∀ m, 2 ≤ m → ∀ r, trim (h ++ l5.take 2) (.ok v (h.set b (bxL x' y' z') ++ l5)) = r → (∀ v k, r = .ok v k → trim (h ++ l5.take 2) (.ok v k) = .ok v k) → (∀ w k, r = .ok w k → call prog (m + 1) i__law_odd [.ref b, frV (a, c)] h = fin h (.rt w k)) := fun m hm r hr ht w k hk => by
    have e1' := e1 m hm
    rw [call_eq (P := prog) (f := i__law_odd) (fn := c__law_odd i__law_pick) rfl rfl]
    refine congrArg (fin h) ?_
    show evSs (call prog m) (runL prog) (fun _ => .bad) (c__law_odd i__law_pick).body [.v (.ref b), .v (frV (a, c)), .no, .no, .no] h = _
    refine ss_nx (ρ1 := [.v (.ref b), .v (frV (a, c)), .v (.int a), .v (.int c), .no]) (h1 := h) (by simp ) ?_
    refine ss_nx (ρ1 := [.v (.ref b), .v (frV (a, c)), .v (.int a), .v (.int c), .v (.ref (h.length + 1))]) (h1 := h ++ l5.take 2) (by
      have e : evE (call prog m) (runL prog) (fun _ => .bad) (.lst [(.tup [(.var 2), (.bin .sub (.cst (.int 0)) (.var 3))]), (.tup [(.var 2), (.cst (.int 0))]), (.tup [(.bin .mul (.cst (.int 2)) (.var 2)), (.bin .mul (.cst (.int 2)) (.var 3))]), (.tup [(.cst (.int 0)), (.var 3)]), (.tup [(.cst (.bl true)), (.cst (.int 1))]), (.tup [(.cst (.int 1)), (.cst (.bl true))]), (.lst [(.var 2), (.var 3)]), (.tup [(.var 2)])]) [.v (.ref b), .v (frV (a, c)), .v (.int a), .v (.int c), .no] h = .ok (.ref (h.length + 1)) (h ++ l5.take 2) := by
        simp [bin, binI, la, lc, el5]
      have tr : trim h (.ok (.ref (h.length + 1)) (h ++ l5.take 2)) = .ok (.ref (h.length + 1)) (h ++ l5.take 2) := by
        unfold trim
        dsimp only
        have f1 : Val.flat (.ref (h.length + 1)) = false := rfl
        have f2 : ¬ (∃ o, (h ++ l5.take 2)[h.length + 1]? = some o ∧ o.flat = true) := by
          rintro ⟨o, q1, q2⟩
          simp [el5] at q1
          subst q1
          simp at q2
          cases q2
        rw [if_neg (by rw [f1]; simp), if_neg (fun q => f2 q.2.1)]
      simp [↓e, tr]) ?_
    refine ss_rt ?_
    have eA : evE (call prog m) (runL prog) (fun _ => .bad) (.bin .add (.var 4) (.lst [(.cst .non), (.cst (.int 0)), (.cst (.int 7)), (.cst (.str "12")), (.tup [(.var 2), (.var 3), (.cst (.int 1))]), (.tup [(.cst .non), (.cst (.int 1))]), (.tup [(.cst (.str "1")), (.cst (.int 1))]), (.dict [] []), (.tup [(.var 3), (.var 2)]), (.tup [(.tup [(.cst (.int 1)), (.cst (.int 2))]), (.cst (.int 1))])])) [.v (.ref b), .v (frV (a, c)), .v (.int a), .v (.int c), .v (.ref (h.length + 1))] (h ++ l5.take 2) = .ok (.ref (h.length + 4)) (h ++ l5) := by
      simp [el5, bin, lst?]
    have eC : evE (call prog m) (runL prog) (fun _ => .bad) (.call i__law_pick [0, 1] [(.var 0), (.bin .add (.var 4) (.lst [(.cst .non), (.cst (.int 0)), (.cst (.int 7)), (.cst (.str "12")), (.tup [(.var 2), (.var 3), (.cst (.int 1))]), (.tup [(.cst .non), (.cst (.int 1))]), (.tup [(.cst (.str "1")), (.cst (.int 1))]), (.dict [] []), (.tup [(.var 3), (.var 2)]), (.tup [(.tup [(.cst (.int 1)), (.cst (.int 2))]), (.cst (.int 1))])]))]) [.v (.ref b), .v (frV (a, c)), .v (.int a), .v (.int c), .v (.ref (h.length + 1))] (h ++ l5.take 2) = .ok w k := by
      rw [← hk, ← hr]
      have v0 : evE (call prog m) (runL prog) (fun _ => .bad) (.var 0) [.v (.ref b), .v (frV (a, c)), .v (.int a), .v (.int c), .v (.ref (h.length + 1))] (h ++ l5.take 2) = .ok (.ref b) (h ++ l5.take 2) := by simp 
      show trim (h ++ l5.take 2) ((evEs (call prog m) (runL prog) (fun _ => .bad) [_, _] _ _).bind _) = _
      simp only [evEs, v0, eA, Out.bind_ok]
      simp [permute, e1']
    simp only [evS, eC]
    rw [ht w k hk]
    rfl
  have flatc : v.flat = true → Ans prog 3 i__law_odd [.ref b, frV (a, c)] h (.ok v (h.set b (bxL x' y' z') ++ [])) := fun fv m hm => by
    obtain ⟨m, rfl⟩ : ∃ k, m = k + 1 := ⟨m - 1, by omega⟩
    have t1 : trim (h ++ l5.take 2) (.ok v (h.set b (bxL x' y' z') ++ l5)) = .ok v (h.set b (bxL x' y' z') ++ l5.take 2) := by
      have := trim_sa (h := h ++ l5.take 2) (l := l5.drop 2) (b := b) (o := bxL x' y' z') fv rfl
      rw [sA] at this
      rw [← this, List.append_assoc, List.take_append_drop]
    have t2 : trim (h ++ l5.take 2) (.ok v (h.set b (bxL x' y' z') ++ l5.take 2)) = .ok v (h.set b (bxL x' y' z') ++ l5.take 2) := trim_len (by simp) v
    rw [st m (by omega) _ t1 (fun v' k' e => by cases e; exact t2) _ _ rfl]
    simp [fv]
  match k, ek with
  | 0, ek => cases ek; exact ⟨_, [], x', y', z', bx', both_pair _ _, flatc rfl⟩
  | 1, ek => cases ek; exact ⟨_, [], x', y', z', bx', both_pair _ _, flatc rfl⟩
  | 2, ek => cases ek; exact ⟨_, [], x', y', z', bx', both_pair _ _, flatc rfl⟩
  | 3, ek => cases ek; exact ⟨_, [], x', y', z', bx', both_pair _ _, flatc rfl⟩
  | 4, ek => cases ek; exact ⟨_, [], x', y', z', bx', both_mixed rfl rfl rfl, flatc rfl⟩
  | 5, ek => cases ek; exact ⟨_, [], x', y', z', bx', both_mixed rfl rfl rfl, flatc rfl⟩
  | 6, ek =>
    cases ek
    refine ⟨.ref h.length, [.lst [.int a, .int c]], x', y', z', bx', both_ref (o := .lst [.int a, .int c]) (by have := at_new (h.set b (bxL x' y' z')) [.lst [.int a, .int c]] 0; rw [List.length_set] at this; simpa using this) (.inl ⟨_, rfl⟩), fun m hm => ?_⟩
    obtain ⟨m, rfl⟩ : ∃ k, m = k + 1 := ⟨m - 1, by omega⟩
    have t1 : trim (h ++ l5.take 2) (.ok (.ref h.length) (h.set b (bxL x' y' z') ++ l5)) = .ok (.ref h.length) (h.set b (bxL x' y' z') ++ l5) := by
      unfold trim
      dsimp only
      rw [if_neg (by simp [Val.flat]), if_neg (fun q => by have := q.1; simp [el5] at this; omega)]
    rw [st m (by omega) _ t1 (fun v' k' e => by cases e; exact t1) _ _ rfl]
    show trim h (.ok (.ref h.length) (h.set b (bxL x' y' z') ++ l5)) = _
    unfold trim
    dsimp only
    have e0 : (h.set b (bxL x' y' z') ++ l5)[h.length]? = some (.lst [.int a, .int c]) := by have := nw (bxL x' y' z') 0; rw [el5] at this ⊢; simpa using this
    have et : (h.set b (bxL x' y' z') ++ l5).take h.length = h.set b (bxL x' y' z') := by simp
    rw [if_neg (by simp [Val.flat]), if_pos ⟨Nat.le_refl _, ⟨_, e0, rfl⟩, by rw [et]; exact Kept.set rfl⟩, et, e0]
    rfl
  | 7, ek => cases ek; exact ⟨_, [], x', y', z', bx', both_len (by simp), flatc rfl⟩
  | 8, ek => cases ek; exact ⟨_, [], x', y', z', bx', both_no rfl, flatc rfl⟩
  | 9, ek => cases ek; exact ⟨_, [], x', y', z', bx', both_no rfl, flatc rfl⟩
  | 10, ek => cases ek; exact ⟨_, [], x', y', z', bx', both_no rfl, flatc rfl⟩
  | 11, ek => cases ek; exact ⟨_, [], x', y', z', bx', both_no rfl, flatc rfl⟩
  | 12, ek => cases ek; exact ⟨_, [], x', y', z', bx', both_len (by simp), flatc rfl⟩
  | 13, ek => cases ek; exact ⟨_, [], x', y', z', bx', both_mixed rfl rfl rfl, flatc rfl⟩
  | 14, ek => cases ek; exact ⟨_, [], x', y', z', bx', both_mixed rfl rfl rfl, flatc rfl⟩
  | 15, ek =>
    cases ek
    refine ⟨.ref h.length, [.dct []], x', y', z', bx', both_ref (o := .dct []) (by have := at_new (h.set b (bxL x' y' z')) [.dct []] 0; rw [List.length_set] at this; simpa using this) (.inr ⟨_, rfl⟩), fun m hm => ?_⟩
    obtain ⟨m, rfl⟩ : ∃ k, m = k + 1 := ⟨m - 1, by omega⟩
    have e2 : (h.set b (bxL x' y' z') ++ l5)[h.length + 2]? = some (.dct []) := by have := nw (bxL x' y' z') 2; rw [this, el5]; rfl
    have et2 : (h.set b (bxL x' y' z') ++ l5).take (h ++ l5.take 2).length = h.set b (bxL x' y' z') ++ l5.take 2 := by
      rw [List.take_append]
      simp [el5]
      exact List.take_of_length_le (by simp)
    have hl2 : (h ++ l5.take 2).length = h.length + 2 := by simp [el5]
    have t1 : trim (h ++ l5.take 2) (.ok (.ref (h.length + 2)) (h.set b (bxL x' y' z') ++ l5)) = .ok (.ref (h.length + 2)) (h.set b (bxL x' y' z') ++ l5.take 2 ++ [.dct []]) := by
      unfold trim
      dsimp only
      rw [if_neg (by simp [Val.flat]), if_pos ⟨by rw [hl2]; exact Nat.le_refl _, ⟨_, e2, rfl⟩, by rw [et2, ← sA]; exact Kept.set rfl⟩, et2, e2, hl2]
      rfl
    have e3 : (h.set b (bxL x' y' z') ++ l5.take 2 ++ [Ob.dct []])[h.length + 2]? = some (.dct []) := by
      have := at_new0 (h.set b (bxL x' y' z') ++ l5.take 2) [Ob.dct []]
      rw [show (h.set b (bxL x' y' z') ++ l5.take 2).length = h.length + 2 by simp [el5]] at this
      rw [this]; rfl
    have t2 : trim (h ++ l5.take 2) (.ok (.ref (h.length + 2)) (h.set b (bxL x' y' z') ++ l5.take 2 ++ [.dct []])) = .ok (.ref (h.length + 2)) (h.set b (bxL x' y' z') ++ l5.take 2 ++ [.dct []]) := by
      unfold trim
      dsimp only
      have et : (h.set b (bxL x' y' z') ++ l5.take 2 ++ [Ob.dct []]).take (h ++ l5.take 2).length = h.set b (bxL x' y' z') ++ l5.take 2 := by
        rw [List.take_append_of_le_length (by simp), List.take_of_length_le (by simp)]
      rw [if_neg (by simp [Val.flat]), if_pos ⟨by rw [hl2]; exact Nat.le_refl _, ⟨_, e3, rfl⟩, by rw [et, ← sA]; exact Kept.set rfl⟩, et, e3, hl2]
      rfl
    rw [st m (by omega) _ t1 (fun v' k' e => by cases e; exact t2) _ _ rfl]
    show trim h (.ok (.ref (h.length + 2)) (h.set b (bxL x' y' z') ++ l5.take 2 ++ [.dct []])) = _
    unfold trim
    dsimp only
    have et : (h.set b (bxL x' y' z') ++ l5.take 2 ++ [Ob.dct []]).take h.length = h.set b (bxL x' y' z') := by simp
    rw [if_neg (by simp [Val.flat]), if_pos ⟨by omega, ⟨_, e3, rfl⟩, by rw [et]; exact Kept.set rfl⟩, et, e3]
    rfl
  | 16, ek => cases ek; exact ⟨_, [], x', y', z', bx', both_pair _ _, flatc rfl⟩
  | 17, ek => cases ek; exact ⟨_, [], x', y', z', bx', both_mixed rfl rfl rfl, flatc rfl⟩
  | k + 18, ek => simp at ek
end
end K03

set_option Elab.async false
set_option linter.all false
set_option maxRecDepth 10000
namespace K03
open PM
section
variable {h : Heap}
theorem S_small {a : Int} (h1 : -(2 ^ 60) ≤ a) (h2 : a ≤ 2 ^ 60) : S a := by
  have : a.natAbs ≤ 2 ^ 60 := by omega
  exact S_nat this (by decide)
theorem near_end {m : Nat} (hm : 2 ≤ m) {s0 s1 s2 : Sl} {a b c d : Int} (sN : S2 (a, b)) (sF : S2 (c, d)) (lt : a * d < c * b) :
    evSs (call prog m) (runL prog) (fun _ => .bad) [.ite (.or (.cmp .isnot (.call i_less [0, 1] [(.var 3), (.var 4)]) (.cst (.bl true))) (.cmp .isnot (.call i_less [0, 1] [(.var 4), (.var 3)]) (.cst (.bl false)))) [.ret (.cst (.bl false))] [],
      .ret (.and (.cmp .eq (.call i_least_of [0] [(.tup [(.var 4), (.var 3), (.var 4)])]) (.var 3)) (.cmp .eq (.call i_greatest_of [0] [(.tup [(.var 3), (.var 4), (.var 3)])]) (.var 4)))]
      [s0, s1, s2, .v (frV (a, b)), .v (frV (c, d))] h = .rt (.bl true) h := by
  have nl : ¬ c * b < a * d := by omega
  have e1 := a_less (P := prog) (f := i_less) rfl (h := h) (a := a) (b := b) (c := c) (d := d) (sN.1.two sF.2) (sF.1.two sN.2) m (by omega)
  have e2 := a_less (P := prog) (f := i_less) rfl (h := h) (a := c) (b := d) (c := a) (d := b) (sF.1.two sN.2) (sN.1.two sF.2) m (by omega)
  rw [decide_eq_true lt] at e1
  rw [decide_eq_false nl] at e2
  have e3 := a_least_of (P := prog) (f := i_least_of) (fl := i_less) (x := x_Refused) rfl rfl (h := h) (p := (c, d)) (l := [(a, b), (c, d)]) (by
    intro q hq
    simp at hq
    rcases hq with r | r | r <;> rw [r] <;> assumption) m (by omega)
  have e4 := a_greatest_of (P := prog) (f := i_greatest_of) (fl := i_less) (x := x_Refused) rfl rfl (h := h) (p := (a, b)) (l := [(c, d), (a, b)]) (by
    intro q hq
    simp at hq
    rcases hq with r | r | r <;> rw [r] <;> assumption) m (by omega)
  have v3 : leastF (c, d) [(c, d), (a, b), (c, d)] = (a, b) := by simp [leastF, lt, nl]
  have v4 : greatF (a, b) [(a, b), (c, d), (a, b)] = (c, d) := by simp [greatF, lt, nl]
  rw [v3] at e3
  rw [v4] at e4
  simp only [List.map_cons, List.map_nil] at e3 e4
  refine ss_nx (ite_f (or_f (h1 := h) (by simp [permute, e1, cmpB]) (by simp [permute, e2, cmpB]))) (ss_rt ?_)
  have c1 : evE (call prog m) (runL prog) (fun _ => .bad) (.cmp .eq (.call i_least_of [0] [(.tup [(.var 4), (.var 3), (.var 4)])]) (.var 3)) [s0, s1, s2, .v (frV (a, b)), .v (frV (c, d))] h = .ok (.bl true) h := by
    simp [permute, e3, cmpB, heq, Val.eqb, veq, eqbs, veqs]
  have c2 : evE (call prog m) (runL prog) (fun _ => .bad) (.cmp .eq (.call i_greatest_of [0] [(.tup [(.var 3), (.var 4), (.var 3)])]) (.var 4)) [s0, s1, s2, .v (frV (a, b)), .v (frV (c, d))] h = .ok (.bl true) h := by
    simp [permute, e4, cmpB, heq, Val.eqb, veq, eqbs, veqs]
  have c3 := and_t c1 c2
  simp [c3]
theorem a_near {b n : Nat} {x y z : Int} (hb : h[b]? = some (bxL x y z)) (bx : Bx (n + 2) x y z) :
    ∃ x' y' z', Bx n x' y' z' ∧ Ans prog 3 i__law_near_right [.ref b] h (.ok (.bl true) (h.set b (bxL x' y' z'))) := by
  have hbl : b < h.length := (List.getElem?_eq_some_iff.mp hb).1
  have hs : ∀ o : Ob, (h.set b o)[b]? = some o := fun o => List.getElem?_set_self hbl
  obtain ⟨d1, x1, y1, z1, d10, d11, bx1, e1⟩ := a_take (P := prog) (f := i__law_take) rfl (h := h) (n := n + 1) (q := 1000) hb bx (by decide) (by decide)
  obtain ⟨d2, x2, y2, z2, d20, d21, bx2, e2⟩ := a_take (P := prog) (f := i__law_take) rfl (h := h.set b (bxL x1 y1 z1)) (n := n) (q := 2) (hs _) bx1 (by decide) (by decide)
  rw [List.set_set] at e2
  obtain ⟨H, eH⟩ : ∃ H, H = h.set b (bxL x2 y2 z2) := ⟨_, rfl⟩
  refine ⟨x2, y2, z2, bx2, ?_⟩
  rw [← eH]
  obtain ⟨M, eM⟩ : ∃ M, M = 999999999 - d1 := ⟨_, rfl⟩
  have sm : ∀ z, z = M ∨ z = M - 1 ∨ z = M + 1 ∨ z = -M ∨ z = -(M - 1) → S z := fun z hz => S_small (by omega) (by omega)
  have h1 : (M - 1) * (M + 1) < M * M := by
    have : (M - 1) * (M + 1) = M * M - 1 := by grind
    omega
  refine ans_of rfl rfl fun m hm => ?_
  have e1' := e1 m (by omega)
  have e2' := e2 m (by omega)
  have t1 := a_turn (P := prog) (f := i__law_turn) rfl (h := H) (a := M) (b := M + 1) m (by omega)
  have t2 := a_turn (P := prog) (f := i__law_turn) rfl (h := H) (a := M - 1) (b := M) m (by omega)
  rw [Int.zero_sub] at t1 t2
  show fin h (evSs (call prog m) (runL prog) (fun _ => .bad) (c__law_near_right i__law_take i__law_turn i_less i_greatest_of i_least_of).body [.v (.ref b), .no, .no, .no, .no] h) = _
  have main : evSs (call prog m) (runL prog) (fun _ => .bad) (c__law_near_right i__law_take i__law_turn i_less i_greatest_of i_least_of).body [.v (.ref b), .no, .no, .no, .no] h = .rt (.bl true) H := by
    refine ss_nx (ρ1 := [.v (.ref b), .v (.int M), .v (.int d2), .no, .no]) (h1 := H) (by
      rw [eH]
      simp [bin, binI, permute, e1', e2', eM]) ?_
    refine ss_nx (ρ1 := [.v (.ref b), .v (.int M), .v (.int d2), .v (frV (M - 1, M)), .v (frV (M, M + 1))]) (h1 := H) (by
      simp [bin, binI]) ?_
    by_cases q : d2 = 1
    · refine ss_nx (ρ1 := [.v (.ref b), .v (.int M), .v (.int d2), .v (frV (-M, M + 1)), .v (frV (-(M - 1), M))]) (h1 := H) (by
        simp [cmpB, heq, Val.eqb, veq, q, bin, binI, permute, t1, t2]) ?_
      exact near_end hm ⟨sm _ (by simp), sm _ (by simp)⟩ ⟨sm _ (by simp), sm _ (by simp)⟩ (by rw [Int.neg_mul, Int.neg_mul]; omega)
    · refine ss_nx (ite_f (by simp [cmpB, heq, Val.eqb, veq, q])) ?_
      exact near_end hm ⟨sm _ (by simp), sm _ (by simp)⟩ ⟨sm _ (by simp), sm _ (by simp)⟩ h1
  rw [main, eH]
  simp 
end
end K03

set_option Elab.async false
set_option linter.all false
set_option maxRecDepth 10000
set_option maxHeartbeats 1000000
namespace K03
open PM
/-- the environment of a turn: the script, the turn, the box, three fractions, a factor -/
abbrev En (s k : Val) (b : Nat) (a e c d u w f : Int) (t : List Sl) : Env := .v s :: .v k :: .v (.ref b) :: .v (frV (a, e)) :: .v (frV (c, d)) :: .v (frV (u, w)) :: .v (.int a) :: .v (.int e) :: .v (.int c) :: .v (.int d) :: .v (.int f) :: t
theorem Fr.b {a c : Int} (f : Fr a c) : -(1000000000) ≤ a ∧ a ≤ 1000000000 ∧ 1 ≤ c ∧ c ≤ 1000000000 := by
  obtain ⟨h1, h2, h3⟩ := f
  have := h1.1
  omega
theorem mul_bound {a b A B : Int} (h1 : -A ≤ a) (h2 : a ≤ A) (h3 : -B ≤ b) (h4 : b ≤ B) (hA : 0 ≤ A) (hB : 0 ≤ B) : -(A * B) ≤ a * b ∧ a * b ≤ A * B := by
  have q : (a * b).natAbs ≤ A.natAbs * B.natAbs := by
    rw [Int.natAbs_mul]
    exact Nat.mul_le_mul (by omega) (by omega)
  have e : ((A.natAbs * B.natAbs : Nat) : Int) = A * B := by
    rw [Int.natCast_mul, Int.natAbs_of_nonneg hA, Int.natAbs_of_nonneg hB]
  omega
theorem Fr.mul {a b : Int} (h1 : -(1000000000) ≤ a) (h2 : a ≤ 1000000000) (h3 : -(1000000000) ≤ b) (h4 : b ≤ 1000000000) : -(1000000000000000000) ≤ a * b ∧ a * b ≤ 1000000000000000000 := mul_bound h1 h2 h3 h4 (by decide) (by decide)
section
variable {h : Heap}
/-- told right by the law -/
theorem eq_red {t b : Int} (hb : b ≠ 0) (h1 : -(2 ^ 70) ≤ t) (h2 : t ≤ 2 ^ 70) (h3 : -(2 ^ 70) ≤ b) (h4 : b ≤ 2 ^ 70) : ∃ p q, red t b = frV (p, q) ∧ Low p q ∧ p * b = t * q ∧ Ans prog 3 i__law_equals [frV (p, q), .int t, .int b] h (.ok (.bl true) h) := by
  obtain ⟨p, q, e1, lo, e2, m1, m2⟩ := red_low (t := t) hb
  have st : S t := S_nat (k := 70) (by omega) (by decide)
  have sb : S b := S_nat (k := 70) (by omega) (by decide)
  have sp : S p := S_nat (k := 70) (by omega) (by decide)
  have sq : S q := S_nat (k := 70) (by omega) (by decide)
  exact ⟨p, q, e1, lo, e2, a_equals rfl rfl rfl lo e2 (sp.two sb) (st.two sq)⟩
theorem red_mul {a e f : Int} (lo : Low a e) (f0 : f ≠ 0) : red (a * f) (e * f) = frV (a, e) := by
  have e0 : e ≠ 0 := by have := lo.1; omega
  obtain ⟨p, q, e1, l, e2, m1, m2⟩ := red_low (t := a * f) (b := e * f) (Int.mul_ne_zero e0 f0)
  have e3 : p * e = a * q := by
    refine Int.eq_of_mul_eq_mul_right f0 ?_
    grind
  obtain ⟨r1, r2⟩ := low_eq l lo e3
  rw [e1, r1, r2]
variable {s k : Val} {b : Nat} {a e c d u w f : Int} {t : List Sl}
theorem turn4 (f1 : Fr a e) (f2 : Fr c d) (hf : f ≠ 0) (hf2 : -100 ≤ f ∧ f ≤ 100) {m : Nat} (hm : 3 ≤ m) {rest : List St} {r : SOut}
    (hr : evSs (call prog m) (runL prog) (fun _ => .bad) rest (En s k b a e c d u w f t) h = r) : evSs (call prog m) (runL prog) (fun _ => .bad) ([.ite (.or (.not (.call i__law_equals [0, 1, 2] [(.call i_plus [0, 1] [(.var 3), (.var 4)]), (.bin .add (.bin .mul (.var 6) (.var 9)) (.bin .mul (.var 8) (.var 7))), (.bin .mul (.var 7) (.var 9))])) (.not (.call i__law_equals [0, 1, 2] [(.call i_times [0, 1] [(.var 3), (.var 4)]), (.bin .mul (.var 6) (.var 8)), (.bin .mul (.var 7) (.var 9))]))) [.ret (.cst (.bl false))] [],
      .ite (.or (.cmp .ne (.call i_plus [1, 0] [(.var 3), (.var 4)]) (.call i_plus [0, 1] [(.var 3), (.var 4)])) (.cmp .ne (.call i_times [1, 0] [(.var 3), (.var 4)]) (.call i_times [0, 1] [(.var 3), (.var 4)]))) [.ret (.cst (.bl false))] [],
      .ite (.or (.not (.call i__law_equals [0, 1, 2] [(.call i_minus [0, 1] [(.var 3), (.var 4)]), (.bin .sub (.bin .mul (.var 6) (.var 9)) (.bin .mul (.var 8) (.var 7))), (.bin .mul (.var 7) (.var 9))])) (.cmp .ne (.call i_fraction_of [0, 1] [(.bin .mul (.var 6) (.var 10)), (.bin .mul (.var 7) (.var 10))]) (.var 3))) [.ret (.cst (.bl false))] [],
      .ite (.ite (.cmp .ne (.var 9) (.cst (.int 9))) (.not (.call i__law_equals [0, 1, 2] [(.call i_fraction_of [1, 0] [(.bin .sub (.var 9) (.cst (.int 9))), (.var 6)]), (.var 6), (.bin .sub (.var 9) (.cst (.int 9)))])) (.cmp .ne (.call i_fraction_of [0, 1] [(.cst (.int 0)), (.bin .sub (.cst (.int 0)) (.var 9))]) (.tup [(.cst (.int 0)), (.cst (.int 1))]))) [.ret (.cst (.bl false))] [],
      .ite (.or (.not (.call i__law_truth [0, 1] [(.call i_less [0, 1] [(.var 3), (.var 4)]), (.cmp .lt (.bin .mul (.var 6) (.var 9)) (.bin .mul (.var 8) (.var 7)))])) (.not (.call i__law_truth [0, 1] [(.call i_less [1, 0] [(.var 3), (.var 4)]), (.cmp .lt (.bin .mul (.var 8) (.var 7)) (.bin .mul (.var 6) (.var 9)))]))) [.ret (.cst (.bl false))] [],
      .ite (.and (.cmp .ne (.var 8) (.cst (.int 0))) (.or (.not (.call i__law_equals [0, 1, 2] [(.call i_ratio [0, 1] [(.var 3), (.var 4)]), (.bin .mul (.var 6) (.var 9)), (.bin .mul (.var 7) (.var 8))])) (.cmp .ne (.call i_ratio [1, 0] [(.var 4), (.var 3)]) (.call i_ratio [0, 1] [(.var 3), (.var 4)])))) [.ret (.cst (.bl false))] []] ++ rest) (En s k b a e c d u w f t) h = r := by
  obtain ⟨a1, a2, e1, e2⟩ := f1.b
  obtain ⟨c1, c2, d1, d2⟩ := f2.b
  have e0 : e ≠ 0 := by omega
  have d0 : d ≠ 0 := by omega
  have ed := Fr.mul (a := e) (b := d) (by omega) (by omega) (by omega) (by omega)
  have ad := Fr.mul (a := a) (b := d) (by omega) (by omega) (by omega) (by omega)
  have ce := Fr.mul (a := c) (b := e) (by omega) (by omega) (by omega) (by omega)
  have ac := Fr.mul (a := a) (b := c) (by omega) (by omega) (by omega) (by omega)
  have ec := Fr.mul (a := e) (b := c) (by omega) (by omega) (by omega) (by omega)
  have sa : S a := S_small (by omega) (by omega)
  have se : S e := S_small (by omega) (by omega)
  have sc : S c := S_small (by omega) (by omega)
  have sd : S d := S_small (by omega) (by omega)
  have sf : S f := S_small (by omega) (by omega)
  have ed0 : e * d ≠ 0 := Int.mul_ne_zero e0 d0
  -- plus
  obtain ⟨p1, q1, r1, lo1, w1, k1⟩ := eq_red (h := h) (t := a * d + c * e) ed0 (by omega) (by omega) (by omega) (by omega)
  have g1 := a_plus (P := prog) (f := i_plus) (ff := i_fraction_of) (fd := i_divisor_of) (x := x_InvalidNumber) (h := h) rfl rfl rfl sa se sc sd e0 d0 m hm
  have g1' := a_plus (P := prog) (f := i_plus) (ff := i_fraction_of) (fd := i_divisor_of) (x := x_InvalidNumber) (h := h) rfl rfl rfl sc sd sa se d0 e0 m hm
  rw [show c * e + a * d = a * d + c * e by omega, Int.mul_comm d e] at g1'
  rw [r1] at g1 g1'
  -- times
  obtain ⟨p2, q2, r2, lo2, w2, k2⟩ := eq_red (h := h) (t := a * c) ed0 (by omega) (by omega) (by omega) (by omega)
  have g2 := a_times (P := prog) (f := i_times) (ff := i_fraction_of) (fd := i_divisor_of) (x := x_InvalidNumber) (h := h) rfl rfl rfl sa se sc sd e0 d0 m hm
  have g2' := a_times (P := prog) (f := i_times) (ff := i_fraction_of) (fd := i_divisor_of) (x := x_InvalidNumber) (h := h) rfl rfl rfl sc sd sa se d0 e0 m hm
  rw [Int.mul_comm c a, Int.mul_comm d e] at g2'
  rw [r2] at g2 g2'
  -- minus
  obtain ⟨p3, q3, r3, lo3, w3, k3⟩ := eq_red (h := h) (t := a * d - c * e) ed0 (by omega) (by omega) (by omega) (by omega)
  have g3 := a_minus (P := prog) (f := i_minus) (ff := i_fraction_of) (fd := i_divisor_of) (x := x_InvalidNumber) (h := h) rfl rfl rfl sa se sc sd e0 d0 m hm
  rw [r3] at g3
  -- fraction_of
  have g4 := a_frac (P := prog) (f := i_fraction_of) (fd := i_divisor_of) (x := x_InvalidNumber) (h := h) rfl rfl (t := a * f) (b := e * f) (Int.mul_ne_zero e0 hf) (gcd_log (Int.mul_ne_zero e0 hf) (se.mul sf)) m (by omega)
  rw [red_mul f1.1 hf] at g4
  -- less
  have g5 := a_less (P := prog) (f := i_less) rfl (h := h) (a := a) (b := e) (c := c) (d := d) (sa.two sd) (sc.two se) m (by omega)
  have g6 := a_less (P := prog) (f := i_less) rfl (h := h) (a := c) (b := d) (c := a) (d := e) (sc.two se) (sa.two sd) m (by omega)
  have g7 := a_truth (P := prog) (f := i__law_truth) rfl (h := h) (a := decide (a * d < c * e)) (b := decide (a * d < c * e)) m (by omega)
  have g8 := a_truth (P := prog) (f := i__law_truth) rfl (h := h) (a := decide (c * e < a * d)) (b := decide (c * e < a * d)) m (by omega)
  rw [beq_self_eq_true] at g7 g8
  have l1 := sa.two sd
  have l2 := sc.two se
  have l3 := se.two sd
  have l4 := sa.two sc
  have l5 := sa.two sf
  have l6 := se.two sf
  have l7 := se.two sc
  have k1' := k1 m (by omega)
  have k2' := k2 m (by omega)
  have k3' := k3 m (by omega)
  refine ss_nx (ite_f (or_f (h1 := h) (by simp [permute, g1, bin, binI, l1, l2, l3, k1']) (by simp [permute, g2, bin, binI, l3, l4, k2']))) ?_
  refine ss_nx (ite_f (or_f (h1 := h) (by simp [permute, g1, g1', cmpB, heq, Val.eqb, veq, eqbs, veqs]) (by simp [permute, g2, g2', cmpB, heq, Val.eqb, veq, eqbs, veqs]))) ?_
  refine ss_nx (ite_f (or_f (h1 := h) (by simp [permute, g3, bin, binI, l1, l2, l3, k3']) (by simp [permute, bin, binI, l5, l6, g4, cmpB, heq, Val.eqb, veq, eqbs, veqs]))) ?_
  refine ss_nx (ite_f ?_) ?_
  · by_cases d9 : d = 9
    · have g9 := a_frac (P := prog) (f := i_fraction_of) (fd := i_divisor_of) (x := x_InvalidNumber) (h := h) rfl rfl (t := 0) (b := -9) (by decide) (gcd_log (by decide) (Nat.lt_of_lt_of_le (show (-9 : Int).natAbs < 2 ^ 10 by decide) (Nat.pow_le_pow_right (by decide) (by decide)))) m (by omega)
      rw [show red 0 (-9) = frV (0, 1) from by rfl] at g9
      simp [permute, d9, bin, binI, g9, cmpB, heq, Val.eqb, veq, eqbs, veqs]
    · have d9' : d - 9 ≠ 0 := by omega
      obtain ⟨p4, q4, r4, lo4, w4, k4⟩ := eq_red (h := h) (t := a) d9' (by omega) (by omega) (by omega) (by omega)
      have g9 := a_frac (P := prog) (f := i_fraction_of) (fd := i_divisor_of) (x := x_InvalidNumber) (h := h) rfl rfl (t := a) (b := d - 9) d9' (gcd_log d9' (by
        have : (d - 9).natAbs < 2 ^ 60 := by omega
        exact Nat.lt_of_lt_of_le this (Nat.pow_le_pow_right (by decide) (by decide)))) m (by omega)
      rw [r4] at g9
      have k4' := k4 m (by omega)
      simp [permute, d9, bin, binI, g9, k4', cmpB, heq, Val.eqb, veq, eqbs, veqs]
  refine ss_nx (ite_f (or_f (h1 := h) (by simp [permute, g5, bin, binI, l1, l2, cmpB, g7]) (by simp [permute, g6, bin, binI, l1, l2, cmpB, g8]))) ?_
  refine ss_nx (ite_f ?_) hr
  by_cases c0 : c = 0
  · exact and_f (h1 := h) (by simp [cmpB, heq, Val.eqb, veq, c0])
  · have ec0 : e * c ≠ 0 := Int.mul_ne_zero e0 c0
    obtain ⟨p5, q5, r5, lo5, w5, k5⟩ := eq_red (h := h) (t := a * d) ec0 (by omega) (by omega) (by omega) (by omega)
    have g10 := a_ratio (P := prog) (f := i_ratio) (ff := i_fraction_of) (fd := i_divisor_of) (x := x_InvalidNumber) (h := h) rfl rfl rfl sa se sc sd e0 c0 m hm
    rw [r5] at g10
    have k5' := k5 m (by omega)
    exact and_t (h1 := h) (by simp [cmpB, heq, Val.eqb, veq, c0]) (or_f (h1 := h) (by simp [permute, g10, bin, binI, l1, l7, k5']) (by simp [permute, g10, cmpB, heq, Val.eqb, veq, eqbs, veqs]))
end
end K03

set_option Elab.async false
set_option linter.all false
set_option maxRecDepth 10000
set_option maxHeartbeats 1000000
namespace K03
open PM
section
variable {h : Heap} {s k : Val} {b : Nat} {a e c d u w f : Int} {t : List Sl}
abbrev numZ : Val := .tup [.str "number", .str "zero"]
theorem eqbs_numZ2 : eqbs 60 [numZ, numZ] = true := by decide +kernel
theorem veqs_numZ2 : veqs [numZ, numZ] [numZ, numZ] = true := by decide +kernel
theorem lam_num {m : Nat} {ρ : Env} {e : Ex} (ea : evE (call prog m) (runL prog) (fun _ => .bad) e ρ h = .exc ⟨x_InvalidNumber, "word", .str "zero"⟩ h) :
    evE (call prog m) (runL prog) (fun _ => .bad) (.lam i__law_refused e) ρ h = .ok numZ h :=
  lam_ev (r_number (x := x_InvalidNumber) (y := x_Refused) rfl ea rfl)
theorem lam_ref {m : Nat} {ρ : Env} {e : Ex} (ea : evE (call prog m) (runL prog) (fun _ => .bad) e ρ h = .exc ⟨x_Refused, "word", .str "none"⟩ h) :
    evE (call prog m) (runL prog) (fun _ => .bad) (.lam i__law_refused e) ρ h = .ok refN h :=
  lam_ev (r_refused (x := x_InvalidNumber) (y := x_Refused) (by decide) rfl ea rfl)
theorem heq_lists {x y : Nat} {vs ws : List Val} (hx : h[x]? = some (.lst vs)) (hy : h[y]? = some (.lst ws)) (e1 : eqbs 60 vs = true) (e2 : eqbs 60 ws = true) : heq h (.ref x) (.ref y) = some (veqs vs ws) := by
  have n1 : (Val.ref x).eqb 60 = false := rfl
  unfold heq
  rw [if_neg (by rw [n1]; simp)]
  simp [lst?, hx, hy, e1, e2]
theorem turn10 (f1 : Fr a e) {m : Nat} (hm : 3 ≤ m) {s11 : Sl} {rest : List St} {r : SOut}
    (hr : evSs (call prog m) (runL prog) (fun _ => .bad) rest (En s k b a e c d u w f (.v (.ref h.length) :: t)) (h ++ [.lst [numZ, numZ]]) = r) : evSs (call prog m) (runL prog) (fun _ => .bad) ([.asg (.name 11) (.lst [(.lam i__law_refused (.call i_ratio [0, 1] [(.var 3), (.tup [(.cst (.int 0)), (.cst (.int 1))])]))]),
      .ex (.meth .append (.var 11) [(.lam i__law_refused (.call i_fraction_of [0, 1] [(.var 6), (.cst (.int 0))]))]),
      .ite (.or (.cmp .ne (.var 11) (.bin .mul (.lst [(.tup [(.cst (.str "number")), (.cst (.str "zero"))])]) (.cst (.int 2)))) (.cmp .ne (.lam i__law_refused (.call i_least_of [0] [(.tup [])])) (.tup [(.cst (.str "refused")), (.cst (.str "none"))]))) [.ret (.cst (.bl false))] []] ++ rest) (En s k b a e c d u w f (s11 :: t)) h = r := by
  obtain ⟨a1, a2, e1, e2⟩ := f1.b
  have sa : S a := S_small (by omega) (by omega)
  have se : S e := S_small (by omega) (by omega)
  have g1 := a_ratio0 (P := prog) (f := i_ratio) (ff := i_fraction_of) (fd := i_divisor_of) (x := x_InvalidNumber) (h := h) rfl rfl sa se (show S 1 from S_small (by decide) (by decide)) m (by omega)
  have g2 := a_frac0 (P := prog) (f := i_fraction_of) (fd := i_divisor_of) (x := x_InvalidNumber) (h := h ++ [.lst [numZ]]) rfl (t := a) m (by omega)
  have g3 := a_least_of0 (P := prog) (f := i_least_of) (fl := i_less) (x := x_Refused) (h := h ++ [.lst [numZ, numZ]]) rfl m (by omega)
  have l1 := lam_num (h := h) (m := m) (ρ := En s k b a e c d u w f (s11 :: t)) (e := (.call i_ratio [0, 1] [(.var 3), (.tup [(.cst (.int 0)), (.cst (.int 1))])])) (by simp [permute, g1, exZ])
  have l2 := lam_num (h := h ++ [.lst [numZ]]) (m := m) (ρ := En s k b a e c d u w f (.v (.ref h.length) :: t)) (e := (.call i_fraction_of [0, 1] [(.var 6), (.cst (.int 0))])) (by simp [permute, g2, exZ])
  have l3 := lam_ref (h := h ++ [.lst [numZ, numZ]]) (m := m) (ρ := En s k b a e c d u w f (.v (.ref h.length) :: t)) (e := (.call i_least_of [0] [(.tup [])])) (by simp [permute, g3])
  refine ss_nx (ρ1 := En s k b a e c d u w f (.v (.ref h.length) :: t)) (h1 := h ++ [.lst [numZ]]) (by simp [↓l1]) ?_
  refine ss_nx (ρ1 := En s k b a e c d u w f (.v (.ref h.length) :: t)) (h1 := h ++ [.lst [numZ, numZ]]) (by simp [↓l2, recv, lst?, methV, appV]) ?_
  refine ss_nx (ite_f (or_f (h1 := h ++ [.lst [numZ, numZ]]) ?_ ?_)) hr
  · have q := heq_lists (h := h ++ [.lst [numZ, numZ], .lst [numZ], .lst [numZ, numZ]]) (x := h.length) (y := h.length + 2) (by simp) (by simp) eqbs_numZ2 eqbs_numZ2
    rw [veqs_numZ2] at q
    simp [bin, lst?, q]
  · simp [↓l3, heq_refN]
end
end K03

set_option Elab.async false
set_option linter.all false
set_option maxRecDepth 10000
set_option maxHeartbeats 1000000
namespace K03
open PM
theorem trim_ref {h k : Heap} {r : Nat} {o : Ob} (h1 : h.length ≤ r) (h2 : k[r]? = some o) (h3 : o.flat = true) (h4 : Kept h (k.take h.length)) : trim h (.ok (.ref r) k) = .ok (.ref h.length) (k.take h.length ++ [o]) := by
  unfold trim
  dsimp only
  rw [if_neg (by simp [Val.flat]), if_pos ⟨h1, ⟨_, h2, h3⟩, h4⟩, h2]
  rfl
theorem cut_eq {α : Type} (xs : List α) (n : Nat) (hn : 1 + n ≤ xs.length) : cutL xs none (some (1 + (n : Int))) = xs.take (1 + n) := by
  have h1 : ¬ (1 + (n : Int) < 0) := by omega
  have h2 : min (1 + (n : Int)).toNat xs.length = 1 + n := by omega
  simp only [cutL, clip, if_neg h1, h2]
  rfl
theorem flats_fr : ∀ l : List (Int × Int), flats (l.map frV) = true
  | [] => rfl
  | x :: l => by rw [List.map_cons, flats_cons, flats_fr l]; rfl
theorem eqbs_fr : ∀ l : List (Int × Int), eqbs 60 (l.map frV) = true
  | [] => rfl
  | x :: l => by rw [List.map_cons, eqbs, eqbs_fr l]; rfl
theorem any_fr {q : Int × Int} : ∀ {l : List (Int × Int)}, q ∈ l → ((l.map frV).any fun v => veq v (frV q)) = true
  | x :: l, h => by
    rcases List.mem_cons.mp h with r | r
    · subst r
      simp [veq, veqs]
    · rw [List.map_cons, List.any_cons, any_fr r, Bool.or_true]
section
variable {h : Heap} {s k : Val} {b : Nat} {a e c d u w f : Int} {t : List Sl}
theorem inL {q : Int × Int} {l : List (Int × Int)} (hq : q ∈ l) : inList h (frV q) (l.map frV) = some true := by
  unfold inList
  rw [if_pos ⟨by rfl, eqbs_fr l⟩, any_fr hq]
abbrev six (a e c d u w : Int) : List (Int × Int) := [(a, e), (c, d), (u, w), (a, e), (c, d), (u, w)]
theorem turn12 {n : Nat} {x y z : Int} (hb : h[b]? = some (bxL x y z)) (bx : Bx (n + 1) x y z) : ∃ (l : List (Int × Int)) (x' y' z' : Int), l.length ≤ 5 ∧ (∀ p ∈ (a, e) :: l, p ∈ six a e c d u w) ∧ Bx n x' y' z' ∧ ∀ m, 1 ≤ m → ∀ s11 s12 t,
    evS (call prog m) (runL prog) (fun _ => .bad) (.asg (.name 12) (.slice (.lst [(.var 3), (.var 4), (.var 5), (.var 3), (.var 4), (.var 5)]) (.cst .non) (.bin .add (.cst (.int 1)) (.call i__law_take [0, 1] [(.var 2), (.cst (.int 6))])))) (En s k b a e c d u w f (s11 :: s12 :: t)) h = .nx (En s k b a e c d u w f (s11 :: .v (.ref h.length) :: t)) (h.set b (bxL x' y' z') ++ [.lst (((a, e) :: l).map frV)]) := by
  have hbl : b < h.length := (List.getElem?_eq_some_iff.mp hb).1
  have sA : ∀ (o : Ob) (l : Heap), (h ++ l).set b o = h.set b o ++ l := fun o l => List.set_append_left _ _ hbl
  obtain ⟨d', x', y', z', d0, d1, bx', e1⟩ := a_take (P := prog) (f := i__law_take) rfl (h := h ++ [.lst ((six a e c d u w).map frV)]) (n := n) (q := 6) (at_old hb) bx (by decide) (by decide)
  rw [sA] at e1
  obtain ⟨r, rfl⟩ : ∃ r : Nat, d' = r := ⟨d'.toNat, by omega⟩
  refine ⟨((six a e c d u w).drop 1).take r, x', y', z', by rw [List.length_take]; omega, ?_, bx', fun m hm s11 s12 t => ?_⟩
  · intro p hp
    rcases List.mem_cons.mp hp with q | q
    · rw [q]; exact List.mem_cons_self ..
    · exact List.mem_of_mem_drop (List.mem_of_mem_take q)
  have e1' := e1 m hm
  have ec := cut_eq ((six a e c d u w).map frV) r (by simp; omega)
  have et : ((six a e c d u w).map frV).take (1 + r) = ((a, e) :: ((six a e c d u w).drop 1).take r).map frV := by
    rw [← List.map_take, Nat.add_comm 1 r, List.take_succ_cons]
    rfl
  rw [et] at ec
  have nw : (h.set b (bxL x' y' z') ++ [.lst ((six a e c d u w).map frV)])[h.length]? = some (.lst ((six a e c d u w).map frV)) := by
    have := at_new0 (h.set b (bxL x' y' z')) [.lst ((six a e c d u w).map frV)]
    rw [List.length_set] at this
    exact this
  have inner : (evE (call prog m) (runL prog) (fun _ => .bad) (.lst [.var 3, .var 4, .var 5, .var 3, .var 4, .var 5]) (En s k b a e c d u w f (s11 :: s12 :: t)) h).bind (kSl (call prog m) (runL prog) (fun _ => .bad) (.cst .non) (.bin .add (.cst (.int 1)) (.call i__law_take [0, 1] [.var 2, .cst (.int 6)])) (En s k b a e c d u w f (s11 :: s12 :: t))) = .ok (.ref (h.length + 1)) (h.set b (bxL x' y' z') ++ [.lst ((six a e c d u w).map frV)] ++ [.lst (((a, e) :: ((six a e c d u w).drop 1).take r).map frV)]) := by
    have e2 : evE (call prog m) (runL prog) (fun _ => .bad) (.lst [.var 3, .var 4, .var 5, .var 3, .var 4, .var 5]) (En s k b a e c d u w f (s11 :: s12 :: t)) h = .ok (.ref h.length) (h ++ [.lst ((six a e c d u w).map frV)]) := by
      simp
    have e3 : evE (call prog m) (runL prog) (fun _ => .bad) (.bin .add (.cst (.int 1)) (.call i__law_take [0, 1] [.var 2, .cst (.int 6)])) (En s k b a e c d u w f (s11 :: s12 :: t)) (h ++ [.lst ((six a e c d u w).map frV)]) = .ok (.int (1 + (r : Int))) (h.set b (bxL x' y' z') ++ [.lst ((six a e c d u w).map frV)]) := by
      have tr : trim (h ++ [.lst ((six a e c d u w).map frV)]) (.ok (.int (r : Int)) (h.set b (bxL x' y' z') ++ [.lst ((six a e c d u w).map frV)])) = .ok (.int (r : Int)) (h.set b (bxL x' y' z') ++ [.lst ((six a e c d u w).map frV)]) := trim_len (by simp) _
      generalize (six a e c d u w).map frV = X at *
      simp [permute, e1', tr]
    rw [e2, Out.bind_ok, kSl_e]
    show (Out.ok Val.non (h ++ [.lst ((six a e c d u w).map frV)])).bind _ = _
    rw [Out.bind_ok, kSl2_e, e3]
    show sliceV (.ref h.length) .non (.int (1 + (r : Int))) _ = _
    have el : lst? (h.set b (bxL x' y' z') ++ [.lst ((six a e c d u w).map frV)]) (.ref h.length) = some ((six a e c d u w).map frV) := by
      simp only [lst?, nw]
    show (match lst? _ (.ref h.length) with | some vs => Out.ok (Val.ref _) (_ ++ [Ob.lst (cutL vs none (some (1 + (r : Int))))]) | none => .bad) = _
    rw [el]
    dsimp only
    rw [ec]
    simp
  have ev : evE (call prog m) (runL prog) (fun _ => .bad) (.slice (.lst [(.var 3), (.var 4), (.var 5), (.var 3), (.var 4), (.var 5)]) (.cst .non) (.bin .add (.cst (.int 1)) (.call i__law_take [0, 1] [(.var 2), (.cst (.int 6))]))) (En s k b a e c d u w f (s11 :: s12 :: t)) h = .ok (.ref h.length) (h.set b (bxL x' y' z') ++ [.lst (((a, e) :: ((six a e c d u w).drop 1).take r).map frV)]) := by
    rw [x_slice, inner]
    have et : (h.set b (bxL x' y' z') ++ [Ob.lst ((six a e c d u w).map frV)] ++ [Ob.lst (((a, e) :: ((six a e c d u w).drop 1).take r).map frV)]).take h.length = h.set b (bxL x' y' z') := by
      rw [List.append_assoc, List.take_append_of_le_length (by simp), List.take_of_length_le (by simp)]
    have := trim_ref (h := h) (k := h.set b (bxL x' y' z') ++ [.lst ((six a e c d u w).map frV)] ++ [.lst (((a, e) :: ((six a e c d u w).drop 1).take r).map frV)]) (r := h.length + 1) (o := .lst (((a, e) :: ((six a e c d u w).drop 1).take r).map frV)) (by omega) (by
      have := at_new0 (h.set b (bxL x' y' z') ++ [.lst ((six a e c d u w).map frV)]) [.lst (((a, e) :: ((six a e c d u w).drop 1).take r).map frV)]
      rw [List.length_append, List.length_set] at this
      exact this) (flats_fr _) (by rw [et]; exact Kept.set rfl)
    rw [et] at this
    exact this
  have tr : trim h (.ok (.ref h.length) (h.set b (bxL x' y' z') ++ [.lst (((a, e) :: ((six a e c d u w).drop 1).take r).map frV)])) = .ok (.ref h.length) (h.set b (bxL x' y' z') ++ [.lst (((a, e) :: ((six a e c d u w).drop 1).take r).map frV)]) := by
    have et : (h.set b (bxL x' y' z') ++ [Ob.lst (((a, e) :: ((six a e c d u w).drop 1).take r).map frV)]).take h.length = h.set b (bxL x' y' z') := by
      rw [List.take_append_of_le_length (by simp), List.take_of_length_le (by simp)]
    have := trim_ref (h := h) (k := h.set b (bxL x' y' z') ++ [.lst (((a, e) :: ((six a e c d u w).drop 1).take r).map frV)]) (r := h.length) (o := .lst (((a, e) :: ((six a e c d u w).drop 1).take r).map frV)) (by omega) (by
      have := at_new0 (h.set b (bxL x' y' z')) [.lst (((a, e) :: ((six a e c d u w).drop 1).take r).map frV)]
      rw [List.length_set] at this
      exact this) (flats_fr _) (by rw [et]; exact Kept.set rfl)
    rw [et] at this
    exact this
  rw [s_asg, ev, tr]
  simp
/-- least, greatest -/
theorem turn13 {r : Nat} {l : List (Int × Int)} (hr : h[r]? = some (.lst (((a, e) :: l).map frV))) (hl : ∀ p ∈ (a, e) :: l, Fr p.1 p.2) (hn : l.length ≤ 5) {m : Nat} (hm : 2 ≤ m) {s11 s13 s14 s15 s16 s17 s18 s19 s20 : Sl} :
    ∃ t13 t14 : Sl, evSs (call prog m) (runL prog) (fun _ => .bad) [.asg (.tup [(.name 13), (.name 14)]) (.tup [(.call i_least_of [0] [(.b1 .tuple (.var 12))]), (.call i_greatest_of [0] [(.b1 .tuple (.var 12))])]),
      .ite (.or (.cmp .notin (.var 13) (.var 12)) (.or (.cmp .notin (.var 14) (.var 12)) (.cmp .ne (.lam i__law_refused (.call i_greatest_of [0] [(.tup [])])) (.tup [(.cst (.str "refused")), (.cst (.str "none"))])))) [.ret (.cst (.bl false))] [],
      .ite (.not (.b1 .all (.comp [20] (.name 20) (.ex (.var 12)) (.cst (.bl true)) (.and (.cmp .le (.bin .mul (.idx (.var 13) (.cst (.int 0))) (.idx (.var 20) (.cst (.int 1)))) (.bin .mul (.idx (.var 20) (.cst (.int 0))) (.idx (.var 13) (.cst (.int 1))))) (.cmp .le (.bin .mul (.idx (.var 20) (.cst (.int 0))) (.idx (.var 14) (.cst (.int 1)))) (.bin .mul (.idx (.var 14) (.cst (.int 0))) (.idx (.var 20) (.cst (.int 1))))))))) [.ret (.cst (.bl false))] []] (En s k b a e c d u w f (s11 :: .v (.ref r) :: s13 :: s14 :: [s15, s16, s17, s18, s19, s20])) h = .nx (En s k b a e c d u w f (s11 :: .v (.ref r) :: t13 :: t14 :: [s15, s16, s17, s18, s19, s20])) h := by
  have sS : ∀ p ∈ (a, e) :: l, S2 p := fun p hp => by
    obtain ⟨h1, h2, h3, h4⟩ := (hl p hp).b
    exact ⟨S_small (by omega) (by omega), S_small (by omega) (by omega)⟩
  have pos : ∀ p ∈ (a, e) :: l, 0 < p.2 := fun p hp => (hl p hp).1.1
  have g1 := a_least_of (P := prog) (f := i_least_of) (fl := i_less) (x := x_Refused) rfl rfl (h := h) (p := (a, e)) (l := l) sS m hm
  have g2 := a_greatest_of (P := prog) (f := i_greatest_of) (fl := i_less) (x := x_Refused) rfl rfl (h := h) (p := (a, e)) (l := l) sS m hm
  have g3 := a_greatest_of0 (P := prog) (f := i_greatest_of) (fl := i_less) (x := x_Refused) (h := h) rfl m (by omega)
  obtain ⟨i1, i2, i3, i4⟩ := leastF_spec ((a, e) :: l) (a, e) (pos _ (List.mem_cons_self ..)) pos
  obtain ⟨j1, j2, j3, j4⟩ := greatF_spec ((a, e) :: l) (a, e) (pos _ (List.mem_cons_self ..)) pos
  have i1' : leastF (a, e) ((a, e) :: l) ∈ (a, e) :: l := by
    rcases i1 with q | q
    · rw [q]; exact List.mem_cons_self ..
    · exact q
  have j1' : greatF (a, e) ((a, e) :: l) ∈ (a, e) :: l := by
    rcases j1 with q | q
    · rw [q]; exact List.mem_cons_self ..
    · exact q
  generalize leastF (a, e) ((a, e) :: l) = lo at *
  generalize greatF (a, e) ((a, e) :: l) = hi at *
  obtain ⟨lo1, lo2⟩ := lo
  obtain ⟨hi1, hi2⟩ := hi
  have el : lst? h (.ref r) = some (((a, e) :: l).map frV) := by simp only [lst?, hr]
  have eb : bl1 .tuple (.ref r) h = .ok (.tup (((a, e) :: l).map frV)) h := by
    show (match lst? h (.ref r) with | some vs => Out.ok (Val.tup vs) h | none => .bad) = _
    rw [el]
  have in1 : cmpB .notin (frV (lo1, lo2)) (.ref r) h = some false := by
    show ((lst? h (.ref r)).bind (inList h (frV (lo1, lo2)))).map (!·) = _
    rw [el, Option.bind_some, inL i1']
    rfl
  have in2 : cmpB .notin (frV (hi1, hi2)) (.ref r) h = some false := by
    show ((lst? h (.ref r)).bind (inList h (frV (hi1, hi2)))).map (!·) = _
    rw [el, Option.bind_some, inL j1']
    rfl
  have slo := sS _ i1'
  have shi := sS _ j1'
  have l3 := lam_ref (h := h) (m := m) (ρ := En s k b a e c d u w f (s11 :: .v (.ref r) :: .v (frV (lo1, lo2)) :: .v (frV (hi1, hi2)) :: [s15, s16, s17, s18, s19, s20])) (e := (.call i_greatest_of [0] [(.tup [])])) (by simp [permute, g3])
  obtain ⟨gs, ei, hd⟩ := ex_src (cl := call prog m) (clL := runL prog) (act := fun _ => .bad) (e := .var 12) (ρ := En s k b a e c d u w f (s11 :: .v (.ref r) :: .v (frV (lo1, lo2)) :: .v (frV (hi1, hi2)) :: [s15, s16, s17, s18, s19, s20])) (h := h) (v := .ref r) (vs := ((a, e) :: l).map frV) (by simp) (by simp only [items?, hr])
  have ec := comp_ev (own := [20]) (t := .name 20) (cond := .cst (.bl true)) (elt := .and (.cmp .le (.bin .mul (.idx (.var 13) (.cst (.int 0))) (.idx (.var 20) (.cst (.int 1)))) (.bin .mul (.idx (.var 20) (.cst (.int 0))) (.idx (.var 13) (.cst (.int 1))))) (.cmp .le (.bin .mul (.idx (.var 20) (.cst (.int 0))) (.idx (.var 14) (.cst (.int 1)))) (.bin .mul (.idx (.var 14) (.cst (.int 0))) (.idx (.var 20) (.cst (.int 1)))))) ei hd (f := fun _ => .bl true) (fun v hv => by
    obtain ⟨⟨p, p'⟩, hp, rfl⟩ := List.mem_map.mp hv
    have sp := sS _ hp
    have k1 := binI_mul (slo.1.two sp.2)
    have k2 := binI_mul (sp.1.two slo.2)
    have k3 := binI_mul (sp.1.two shi.2)
    have k4 := binI_mul (shi.1.two sp.2)
    have c1 := i4 _ hp
    have c2 := j4 _ hp
    dsimp only at k1 k2 k3 k4 c1 c2
    exact ⟨_, by simp [wipe]; rfl, by simp, by simp [place, k1, k2, k3, k4, c1, c2]⟩) (by simp; omega)
  have ea : ∀ l : List Val, (l.map fun _ => Val.bl true).mapM blOf = some (l.map fun _ => true) := fun l => by
    induction l with
    | nil => rfl
    | cons v l ih => simp [List.mapM_cons, ih, blOf]
  have eball : ∀ l : List Val, (l.all fun _ => true) = true := fun l => by simp
  refine ⟨.v (frV (lo1, lo2)), .v (frV (hi1, hi2)), ?_⟩
  refine ss_nx (ρ1 := En s k b a e c d u w f (s11 :: .v (.ref r) :: .v (frV (lo1, lo2)) :: .v (frV (hi1, hi2)) :: [s15, s16, s17, s18, s19, s20])) (h1 := h) (by
    generalize ((a, e) :: l).map frV = X at *
    simp [eb, permute, g1, g2]) ?_
  refine ss_nx (ite_f (or_f (h1 := h) ?_ (or_f (h1 := h) ?_ ?_))) ?_
  · simp [in1]
  · simp [in2]
  · simp [↓l3, heq_refN]
  refine ss_nx (ite_f ?_) rfl
  generalize ((a, e) :: l).map frV = X at *
  simp [↓ec, bl1, lst?, ea, eball]
end
end K03

set_option Elab.async false
set_option linter.all false
set_option maxRecDepth 10000
set_option maxHeartbeats 1000000
namespace K03
open PM
/-- a step of a comprehension -/
noncomputable def stepC (cl : Nat → List Val → Heap → Out Val) (clL : Nat → (Heap → Out Val) → Heap → Out Val) (act : Heap → Out Val) (own : List Nat) (t : Tg) (cond elt : Ex) (ρ : Env) (v : Val) (k : Heap) : Out (Option Val) :=
  (evT cl clL act t v (wipe ρ own) k).bind fun ρ1 k1 => (toB (evE cl clL act cond ρ1 k1)).bind fun b k2 =>
      if b then (trim k2 (evE cl clL act elt ρ1 k2)).bind fun w k3 => .ok (some w) k3 else .ok none k2
theorem comp_run {cl : Nat → List Val → Heap → Out Val} {clL : Nat → (Heap → Out Val) → Heap → Out Val} {act : Heap → Out Val} {own : List Nat} {t : Tg} {it : It} {cond elt : Ex} {ρ : Env} {h h0 h1 : Heap} {vs ws : List Val} {gs : List (Nat × List Val)} (ei : evI cl clL act it ρ h = .ok (vs, gs) h0)
    (ec : compL (stepC cl clL act own t cond elt ρ) gs vs h0 = .ok ws h1) (hl : ws.length ≤ 16777216) : evE cl clL act (.comp own t it cond elt) ρ h = .ok (.ref h1.length) (h1 ++ [.lst ws]) := by
  show ((evI cl clL act it ρ h).bind fun s h1 => (compL (stepC cl clL act own t cond elt ρ) s.2 s.1 h1).bind _) = _
  rw [ei]
  simp only [Out.bind_ok]
  rw [ec]
  simp [hl]
theorem step_ok {cl : Nat → List Val → Heap → Out Val} {clL : Nat → (Heap → Out Val) → Heap → Out Val} {act : Heap → Out Val} {own : List Nat} {t : Tg} {cond elt : Ex} {ρ ρ1 : Env} {v w : Val} {k k1 k2 k3 : Heap} (e1 : evT cl clL act t v (wipe ρ own) k = .ok ρ1 k1) (e2 : evE cl clL act cond ρ1 k1 = .ok (.bl true) k2)
    (e3 : trim k2 (evE cl clL act elt ρ1 k2) = .ok w k3) : stepC cl clL act own t cond elt ρ v k = .ok (some w) k3 := by
  unfold stepC
  rw [e1]
  simp only [Out.bind_ok]
  rw [e2]
  simp only [toB_ok, Out.bind_ok]
  rw [if_pos True.intro, e3]
  rfl
/-- a list of ours walked -/
theorem ex_list {cl : Nat → List Val → Heap → Out Val} {clL : Nat → (Heap → Out Val) → Heap → Out Val} {act : Heap → Out Val} {e : Ex} {ρ : Env} {h : Heap} {r : Nat} {vs : List Val} (ev : evE cl clL act e ρ h = .ok (.ref r) h) (hr : h[r]? = some (.lst vs)) : evI cl clL act (.ex e) ρ h = .ok (vs, [(r, vs)]) h := by
  show (evE cl clL act e ρ h).bind _ = _
  rw [ev]
  have el : lst? h (.ref r) = some vs := by simp only [lst?, hr]
  have e1 : src1 h (.ref r) = some (vs, [(r, vs)]) := by
    show (match lst? h (.ref r) with | some vs => some (vs, [(r, vs)]) | none => none) = _
    rw [el]
  show (ofO (src1 h (.ref r)) h).bind _ = _
  rw [e1]
  show dropSrc h (vs, [(r, vs)]) h = _
  have hlt : r < h.length := (List.getElem?_eq_some_iff.mp hr).1
  unfold dropSrc
  split
  · simp [hlt]
  · rfl
theorem set_other {h : Heap} {b r : Nat} {o p : Ob} (n : r ≠ b) (hr : h[r]? = some p) : (h.set b o)[r]? = some p := by
  rw [List.getElem?_set_ne (Ne.symm n)]; exact hr
section
variable {s k : Val} {a e c d u w f : Int}
theorem amounts {r b n : Nat} (nb : r ≠ b) {ws : List Val} : ∀ (vs : List Val) (h : Heap) (x y z : Int), h[b]? = some (bxL x y z) → h[r]? = some (.lst ws) → Bx (n + vs.length) x y z →
    ∃ (ks : List Int) (x' y' z' : Int), ks.length = vs.length ∧ (∀ k ∈ ks, k.natAbs ≤ 4) ∧ Bx n x' y' z' ∧ ∀ m, 1 ≤ m → ∀ t : List Sl, t.length = 10 →
      compL (stepC (call prog m) (runL prog) (fun _ => .bad) [20] (.name 20) (.cst (.bl true)) (.bin .sub (.call i__law_take [0, 1] [(.var 2), (.cst (.int 9))]) (.cst (.int 4))) (En s k b a e c d u w f t)) [(r, ws)] vs h = .ok (ks.map .int) (h.set b (bxL x' y' z'))
  | [], h, x, y, z, hb, hr, bx => ⟨[], x, y, z, rfl, (fun _ q => by cases q), bx, fun m hm t lt => by
      rw [compL, if_pos (show holds h [(r, ws)] from fun g hg => by rw [List.mem_singleton.mp hg]; exact hr), set_same hb]
      rfl⟩
  | v :: vs, h, x, y, z, hb, hr, bx => by
    have hs : ∀ o : Ob, (h.set b o)[b]? = some o := fun o => List.getElem?_set_self (List.getElem?_eq_some_iff.mp hb).1
    obtain ⟨d', x1, y1, z1, d0, d1, bx1, e1⟩ := a_take (P := prog) (f := i__law_take) rfl (h := h) (n := n + vs.length) (q := 9) hb bx (by decide) (by decide)
    obtain ⟨ks, x', y', z', hk, h4, bx', q⟩ := amounts (n := n) nb vs (h.set b (bxL x1 y1 z1)) x1 y1 z1 (hs _) (set_other nb hr) bx1
    refine ⟨(d' - 4) :: ks, x', y', z', by simp [hk], fun j hj => ?_, bx', fun m hm t lt => ?_⟩
    · rcases List.mem_cons.mp hj with r | r
      · omega
      · exact h4 j r
    · have e1' := e1 m hm
      have q' := q m hm t lt
      rw [List.set_set] at q'
      obtain ⟨t0, t1, t2, t3, t4, t5, t6, t7, t8, t9, rfl⟩ : ∃ t0 t1 t2 t3 t4 t5 t6 t7 t8 t9, t = [t0, t1, t2, t3, t4, t5, t6, t7, t8, t9] := by
        match t, lt with
        | [t0, t1, t2, t3, t4, t5, t6, t7, t8, t9], _ => exact ⟨_, _, _, _, _, _, _, _, _, _, rfl⟩
      rw [compL, if_pos (show holds h [(r, ws)] from fun g hg => by rw [List.mem_singleton.mp hg]; exact hr), step_ok (ρ1 := En s k b a e c d u w f [t0, t1, t2, t3, t4, t5, t6, t7, t8, .v v]) (k1 := h) (k2 := h) (k3 := h.set b (bxL x1 y1 z1)) (w := .int (d' - 4)) (by simp [wipe]) (by simp) (by simp [permute, e1'])]
      dsimp only
      rw [q']
      rfl
theorem zip_fst : ∀ (ks : List Int) (l : List (Int × Int)), ks.length = l.length → (ks.zip l).map (·.1) = ks ∧ (ks.zip l).map (·.2) = l
  | [], [], _ => ⟨rfl, rfl⟩
  | k :: ks, p :: l, h => by
    obtain ⟨h1, h2⟩ := zip_fst ks l (by simpa using h)
    simp [h1, h2]
/-- the amounts -/
theorem turn16 {h : Heap} {r b n : Nat} (nb : r ≠ b) {l : List (Int × Int)} {x y z : Int} (hb : h[b]? = some (bxL x y z)) (hr : h[r]? = some (.lst (l.map frV))) (hn : l.length ≤ 6) (bx : Bx (n + 6) x y z) :
    ∃ (L : List Tm) (x' y' z' : Int), L.map (·.2) = l ∧ (∀ p ∈ L, p.1.natAbs ≤ 4) ∧ Bx n x' y' z' ∧ ∀ m, 1 ≤ m → ∀ s11 s13 s14 s15 s16 s17 s18 s19 s20,
      evS (call prog m) (runL prog) (fun _ => .bad) (.asg (.name 15) (.b1 .tuple (.comp [20] (.name 20) (.ex (.var 12)) (.cst (.bl true)) (.bin .sub (.call i__law_take [0, 1] [(.var 2), (.cst (.int 9))]) (.cst (.int 4)))))) (En s k b a e c d u w f [s11, .v (.ref r), s13, s14, s15, s16, s17, s18, s19, s20]) h
        = .nx (En s k b a e c d u w f [s11, .v (.ref r), s13, s14, .v (.tup (L.map fun p => .int p.1)), s16, s17, s18, s19, s20]) (h.set b (bxL x' y' z')) := by
  obtain ⟨ks, x', y', z', hk, h4, bx', q⟩ := amounts (s := s) (k := k) (a := a) (e := e) (c := c) (d := d) (u := u) (w := w) (f := f) (n := n) nb (ws := l.map frV) (l.map frV) h x y z hb hr (bx.mono (by rw [List.length_map]; omega))
  rw [List.length_map] at hk
  obtain ⟨z1, z2⟩ := zip_fst ks l hk
  refine ⟨ks.zip l, x', y', z', z2, fun p hp => h4 _ (by rw [← z1]; exact List.mem_map.mpr ⟨p, hp, rfl⟩), bx', fun m hm s11 s13 s14 s15 s16 s17 s18 s19 s20 => ?_⟩
  have ei := ex_list (cl := call prog m) (clL := runL prog) (act := fun _ => .bad) (e := .var 12) (ρ := En s k b a e c d u w f [s11, .v (.ref r), s13, s14, s15, s16, s17, s18, s19, s20]) (h := h) (r := r) (vs := l.map frV) (by simp) hr
  have ec := comp_run ei (q m hm _ rfl) (by rw [List.length_map]; omega)
  have e1 : (ks.zip l).map (fun p => Val.int p.1) = ks.map .int := by
    have := congrArg (List.map Val.int) z1
    rw [List.map_map] at this
    exact this
  rw [e1]
  generalize l.map frV = X at *
  have eb : bl1 .tuple (.ref (h.set b (bxL x' y' z')).length) (h.set b (bxL x' y' z') ++ [.lst (ks.map .int)]) = .ok (.tup (ks.map .int)) (h.set b (bxL x' y' z') ++ [.lst (ks.map .int)]) := by
    simp [bl1, lst?]
  have tr := trim_sa (h := h) (l := [.lst (ks.map .int)]) (b := b) (o := bxL x' y' z') (v := .tup (ks.map .int)) (flats_ints ks) rfl
  have tr2 : trim h (.ok (.tup (ks.map .int)) (h.set b (bxL x' y' z'))) = .ok (.tup (ks.map .int)) (h.set b (bxL x' y' z')) := trim_len (by simp) _
  rw [s_asg, x_b1, ec, Out.bind_ok, eb, tr, tr2]
  simp
end
end K03

set_option Elab.async false
set_option linter.all false
set_option maxRecDepth 10000
set_option maxHeartbeats 1000000
namespace K03
open PM
abbrev ksV (L : List Tm) : Val := .tup (L.map fun p => .int p.1)
abbrev psL (L : List Tm) : List Val := L.map fun p => frV p.2
section
variable {h : Heap} {s k : Val} {a e c d u w f : Int} {b : Nat}
theorem getD {α : Type} {L : List α} {i : Nat} {q : α} {rest : List α} (e : L.drop i = q :: rest) : L[i]? = some q := by
  rw [← List.head?_drop, e]; rfl
theorem dropD {α : Type} {L : List α} {i : Nat} {q : α} {rest : List α} (e : L.drop i = q :: rest) : L.drop (i + 1) = rest := by
  rw [← List.drop_drop, e]; rfl
theorem sum_for {L : List Tm} {r : Nat} (hr : h[r]? = some (.lst (psL L))) (hL : ∀ p ∈ L, p.1.natAbs ≤ 4 ∧ Fr p.2.1 p.2.2) {s11 s13 s14 s19 s20 : Sl} : ∀ (rest : List Tm) (i : Nat) (T B : Int), L.drop i = rest → T.natAbs ≤ 2 ^ (60 * i) → B.natAbs ≤ 2 ^ (30 * i) → i + rest.length ≤ 6 →
    (lawTB (T, B) rest).1.natAbs ≤ 2 ^ 360 ∧ (lawTB (T, B) rest).2.natAbs ≤ 2 ^ 180 ∧ ∀ m s18, ∃ t18,
    forL (evT (call prog m) (runL prog) (fun _ => .bad) (.name 18)) (evSs (call prog m) (runL prog) (fun _ => .bad) [.asg (.tup [(.name 16), (.name 17)]) (.tup [(.bin .add (.bin .mul (.var 16) (.idx (.idx (.var 12) (.var 18)) (.cst (.int 1)))) (.bin .mul (.bin .mul (.idx (.var 15) (.var 18)) (.idx (.idx (.var 12) (.var 18)) (.cst (.int 0)))) (.var 17))), (.bin .mul (.var 17) (.idx (.idx (.var 12) (.var 18)) (.cst (.int 1))))])]) [] ((List.range' i rest.length).map fun j : Nat => Val.int j) (En s k b a e c d u w f [s11, .v (.ref r), s13, s14, .v (ksV L), .v (.int T), .v (.int B), s18, s19, s20]) h
      = .nx (En s k b a e c d u w f [s11, .v (.ref r), s13, s14, .v (ksV L), .v (.int (lawTB (T, B) rest).1), .v (.int (lawTB (T, B) rest).2), t18, s19, s20]) h
  | [], i, T, B, hd, h1, h2, hn => ⟨Nat.le_trans h1 (Nat.pow_le_pow_right (by omega) (by simp at hn; omega)), Nat.le_trans h2 (Nat.pow_le_pow_right (by omega) (by simp at hn; omega)), fun m s18 => ⟨s18, by
      rw [List.length_nil, List.range'_zero, List.map_nil, for_nil]
      rfl⟩⟩
  | q :: rest, i, T, B, hd, h1, h2, hn => by
    have hq := getD hd
    have hn2 : i + 1 + rest.length ≤ 6 := by rw [List.length_cons] at hn; omega
    obtain ⟨k4, fr⟩ := hL q (List.mem_of_getElem? hq)
    obtain ⟨z, p1, p2⟩ := q
    dsimp only at k4 fr
    obtain ⟨b1, b2, b3, b4⟩ := fr.b
    obtain ⟨g1, g2⟩ := grow (T := T) (B := B) (c := p2) (m := z) (a := p1) h1 h2 (by omega) k4 (by omega)
    obtain ⟨r1, r2, ev⟩ := sum_for hr hL rest (i + 1) (T * p2 + z * p1 * B) (B * p2) (dropD hd) g1 g2 hn2
    refine ⟨r1, r2, fun m s18 => ?_⟩
    obtain ⟨t18, q⟩ := ev m (.v (.int i))
    refine ⟨t18, ?_⟩
    have ix12 : idxV (.ref r) (.int i) h = .ok (frV (p1, p2)) h := idx_items (vs := psL L) (by simp only [items?, hr]) (by omega) (by
      rw [Int.toNat_natCast, List.getElem?_map, hq]; rfl)
    have ix15 : idxV (ksV L) (.int i) h = .ok (.int z) h := idx_items (vs := L.map fun p => .int p.1) rfl (by omega) (by
      rw [Int.toNat_natCast, List.getElem?_map, hq]; rfl)
    have sT : S T := S_nat h1 (by omega)
    have sB : S B := S_nat h2 (by omega)
    have s1 : S p1 := S_small (by omega) (by omega)
    have s2 : S p2 := S_small (by omega) (by omega)
    have sz : S z := S_small (by omega) (by omega)
    have szp : S (z * p1) := by
      have := mul_bound (a := z) (b := p1) (A := 4) (B := 1000000000) (by omega) (by omega) (by omega) (by omega) (by decide) (by decide)
      exact S_small (by omega) (by omega)
    have m1 := binI_mul (sT.two s2)
    have m2 := binI_mul (sz.two s1)
    have m3 := binI_mul (szp.two sB)
    have m4 := binI_mul (sB.two s2)
    rw [List.length_cons, List.range'_succ, List.map_cons, forL, if_pos (show holds h [] from fun g hg => by cases hg)]
    have e0 : evT (call prog m) (runL prog) (fun _ => .bad) (.name 18) (.int i) (En s k b a e c d u w f [s11, .v (.ref r), s13, s14, .v (ksV L), .v (.int T), .v (.int B), s18, s19, s20]) h = .ok (En s k b a e c d u w f [s11, .v (.ref r), s13, s14, .v (ksV L), .v (.int T), .v (.int B), .v (.int i), s19, s20]) h := by simp
    rw [e0]
    dsimp only
    have eb : evSs (call prog m) (runL prog) (fun _ => .bad) [.asg (.tup [(.name 16), (.name 17)]) (.tup [(.bin .add (.bin .mul (.var 16) (.idx (.idx (.var 12) (.var 18)) (.cst (.int 1)))) (.bin .mul (.bin .mul (.idx (.var 15) (.var 18)) (.idx (.idx (.var 12) (.var 18)) (.cst (.int 0)))) (.var 17))), (.bin .mul (.var 17) (.idx (.idx (.var 12) (.var 18)) (.cst (.int 1))))])] (En s k b a e c d u w f [s11, .v (.ref r), s13, s14, .v (ksV L), .v (.int T), .v (.int B), .v (.int i), s19, s20]) h = .nx (En s k b a e c d u w f [s11, .v (.ref r), s13, s14, .v (ksV L), .v (.int (T * p2 + z * p1 * B)), .v (.int (B * p2)), .v (.int i), s19, s20]) h := by
      generalize ksV L = X at *
      simp [ix12, ix15, place, m1, m2, m3, m4]
    rw [eb]
    exact q
theorem weighed0 : Ans prog 4 i_weighed [.tup [], .tup []] h (.ok (frV (0, 1)) h) := by
  obtain ⟨T, B, lo, e1, _, _, e2⟩ := a_weighed (h := h) [] (by decide) (fun p hp => by cases hp)
  obtain ⟨rfl, rfl⟩ := low_eq lo (show Low 0 1 from ⟨by decide, by decide⟩) (by
    have e1' : T * 1 = 0 * B := e1
    omega)
  exact e2
theorem turn17 {L : List Tm} {r : Nat} (hr : h[r]? = some (.lst (psL L))) (hL : ∀ p ∈ L, p.1.natAbs ≤ 4 ∧ Fr p.2.1 p.2.2) (hn : L.length ≤ 6) (h0 : 0 < L.length) {m : Nat} (hm : 4 ≤ m) {s11 s13 s14 s16 s17 s18 s19 s20 : Sl} :
    ∃ t16 t17 t18 : Sl, evSs (call prog m) (runL prog) (fun _ => .bad) [.asg (.name 16) (.bin .mul (.idx (.var 15) (.cst (.int 0))) (.idx (.idx (.var 12) (.cst (.int 0))) (.cst (.int 0)))),
      .asg (.name 17) (.idx (.idx (.var 12) (.cst (.int 0))) (.cst (.int 1))),
      .for_ (.name 18) (.range2 (.cst (.int 1)) (.b1 .len (.var 12))) [.asg (.tup [(.name 16), (.name 17)]) (.tup [(.bin .add (.bin .mul (.var 16) (.idx (.idx (.var 12) (.var 18)) (.cst (.int 1)))) (.bin .mul (.bin .mul (.idx (.var 15) (.var 18)) (.idx (.idx (.var 12) (.var 18)) (.cst (.int 0)))) (.var 17))), (.bin .mul (.var 17) (.idx (.idx (.var 12) (.var 18)) (.cst (.int 1))))])],
      .ite (.or (.not (.call i__law_equals [0, 1, 2] [(.call i_weighed [1, 0] [(.b1 .tuple (.var 12)), (.var 15)]), (.var 16), (.var 17)])) (.cmp .ne (.call i_weighed [0, 1] [(.tup []), (.tup [])]) (.tup [(.cst (.int 0)), (.cst (.int 1))]))) [.ret (.cst (.bl false))] []] (En s k b a e c d u w f [s11, .v (.ref r), s13, s14, .v (ksV L), s16, s17, s18, s19, s20]) h = .nx (En s k b a e c d u w f [s11, .v (.ref r), s13, s14, .v (ksV L), t16, t17, t18, s19, s20]) h := by
  obtain ⟨q0, L', eL⟩ : ∃ q0 L', L = q0 :: L' := by
    cases L with
    | nil => simp at h0
    | cons q1 L1 => exact ⟨q1, L1, rfl⟩
  obtain ⟨z, p1, p2⟩ := q0
  obtain ⟨k4, fr⟩ := hL (z, p1, p2) (by rw [eL]; exact List.mem_cons_self ..)
  dsimp only at k4 fr
  obtain ⟨b1, b2, b3, b4⟩ := fr.b
  have s1 : S p1 := S_small (by omega) (by omega)
  have sz : S z := S_small (by omega) (by omega)
  have mb := mul_bound (a := z) (b := p1) (A := 4) (B := 1000000000) (by omega) (by omega) (by omega) (by omega) (by decide) (by decide)
  obtain ⟨r1, r2, ev⟩ := sum_for (h := h) (s := s) (k := k) (a := a) (e := e) (c := c) (d := d) (u := u) (w := w) (f := f) (b := b) (s11 := s11) (s13 := s13) (s14 := s14) (s19 := s19) (s20 := s20) hr hL L' 1 (z * p1) p2 (by rw [eL]; rfl) (by omega) (by omega) (by rw [eL, List.length_cons] at hn; omega)
  obtain ⟨T, B, lo, eTB, t1, t2, g⟩ := a_weighed (h := h) L hn hL
  have eLaw : lawTB (0, 1) L = lawTB (z * p1, p2) L' := by
    rw [eL]
    show lawTB (0 * p2 + z * p1 * 1, 1 * p2) L' = _
    rw [Int.zero_mul, Int.zero_add, Int.mul_one, Int.one_mul]
  rw [eLaw] at eTB
  obtain ⟨t18, ev18⟩ := ev m s18
  generalize eT : (lawTB (z * p1, p2) L').1 = LT at *
  generalize eB : (lawTB (z * p1, p2) L').2 = LB at *
  have sT : S T := S_nat t1 (by decide)
  have sB : S B := S_nat t2 (by decide)
  have sLT : S LT := S_nat r1 (by decide)
  have sLB : S LB := S_nat r2 (by decide)
  have ge := a_equals (P := prog) (f := i__law_equals) (fi := i__law_is) (fc := i__law_common) rfl rfl rfl (h := h) lo eTB (sT.two sLB) (sLT.two sB) m (by omega)
  have g' : call prog m i_weighed [ksV L, .tup (psL L)] h = .ok (frV (T, B)) h := g m hm
  have g0 := weighed0 (h := h) m hm
  have ix12 : idxV (.ref r) (.int 0) h = .ok (frV (p1, p2)) h := idx_items (vs := psL L) (by simp only [items?, hr]) (by omega) (by rw [eL]; rfl)
  have ix15 : idxV (ksV L) (.int 0) h = .ok (.int z) h := idx_items (vs := L.map fun p => .int p.1) rfl (by omega) (by rw [eL]; rfl)
  have m1 := binI_mul (sz.two s1)
  have eln : bl1 .len (.ref r) h = .ok (.int L.length) h := by
    have := len_items (h := h) (s := .ref r) (vs := psL L) (by simp only [items?, hr])
    rwa [List.length_map] at this
  have etp : bl1 .tuple (.ref r) h = .ok (.tup (psL L)) h := by
    have el : lst? h (.ref r) = some (psL L) := by simp only [lst?, hr]
    show (match lst? h (.ref r) with | some vs => Out.ok (Val.tup vs) h | none => .bad) = _
    rw [el]
  have er : rangeV 1 (L.length - 1 : Int).toNat = (List.range' 1 L'.length).map fun j : Nat => Val.int j := by
    rw [eL, List.length_cons, show ((L'.length + 1 : Nat) - 1 : Int).toNat = L'.length by omega]
    unfold rangeV
    rw [List.range'_eq_map_range, List.map_map]
    refine List.map_congr_left fun j _ => ?_
    simp
  have ln2 : -(2 ^ 62) ≤ (L.length : Int) ∧ (L.length : Int) < 2 ^ 62 := by omega
  have kr := kR3_e (i := 1) (j := L.length) (k := h) (by decide) ln2
  rw [er] at kr
  refine ⟨.v (.int LT), .v (.int LB), t18, ?_⟩
  refine ss_nx (ρ1 := En s k b a e c d u w f [s11, .v (.ref r), s13, s14, .v (ksV L), .v (.int (z * p1)), s17, s18, s19, s20]) (h1 := h) (by
    generalize ksV L = X at *
    simp [ix12, ix15, place, m1]) ?_
  refine ss_nx (ρ1 := En s k b a e c d u w f [s11, .v (.ref r), s13, s14, .v (ksV L), .v (.int (z * p1)), .v (.int p2), s18, s19, s20]) (h1 := h) (by
    generalize ksV L = X at *
    simp [ix12, place]) ?_
  refine ss_nx (ρ1 := En s k b a e c d u w f [s11, .v (.ref r), s13, s14, .v (ksV L), .v (.int LT), .v (.int LB), t18, s19, s20]) (h1 := h) ?_ ?_
  · rw [s_for, i_range2]
    have e1 : trim h (evE (call prog m) (runL prog) (fun _ => .bad) (.b1 .len (.var 12)) (En s k b a e c d u w f [s11, .v (.ref r), s13, s14, .v (ksV L), .v (.int (z * p1)), .v (.int p2), s18, s19, s20]) h) = .ok (.int L.length) h := by
      generalize ksV L = X at *
      simp [eln]
    rw [x_cst, trim_same, Out.bind_ok, kR2_e, e1, Out.bind_ok, kr, kFor_ok]
    exact ev18
  refine ss_nx (ite_f (or_f (h1 := h) ?_ ?_)) rfl
  · show evE _ _ _ (.not (.call i__law_equals [0, 1, 2] [_, _, _])) _ _ = _
    generalize ksV L = X at *
    generalize psL L = Y at *
    simp [permute, etp, g', ge]
  · simp [permute, g0]
end
end K03

set_option Elab.async false
set_option linter.all false
set_option maxRecDepth 10000
set_option maxHeartbeats 1000000
namespace K03
open PM
theorem trim_idem (h : Heap) (x : Out Val) : trim h (trim h x) = trim h x := by
  have t2 : ∀ k : Heap, (k.take h.length).take h.length = k.take h.length := fun k => by rw [List.take_take, Nat.min_self]
  cases x with
  | ok v k =>
    by_cases c1 : v.flat = true ∧ Kept h (k.take h.length)
    · have e : trim h (.ok v k) = .ok v (k.take h.length) := by unfold trim; dsimp only; rw [if_pos c1]
      rw [e]
      unfold trim
      dsimp only
      rw [t2, if_pos c1]
    · cases v with
      | ref r =>
        by_cases c2 : h.length ≤ r ∧ (∃ o, k[r]? = some o ∧ o.flat = true) ∧ Kept h (k.take h.length)
        · obtain ⟨h1, ⟨o, h2, h3⟩, h4⟩ := c2
          have e := trim_ref h1 h2 h3 h4
          rw [e]
          have et : (k.take h.length ++ [o]).take h.length = k.take h.length := by
            rw [List.take_append_of_le_length (by rw [h4.1]; omega), t2]
          have := trim_ref (h := h) (k := k.take h.length ++ [o]) (r := h.length) (o := o) (Nat.le_refl _) (by
            have := at_new0 (k.take h.length) [o]
            rw [h4.1] at this
            rw [this]; rfl) h3 (by rw [et]; exact h4)
          rw [et] at this
          exact this
        · have e : trim h (.ok (.ref r) k) = .ok (.ref r) k := by unfold trim; dsimp only; rw [if_neg c1, if_neg c2]
          rw [e, e]
      | _ =>
        have e : ∀ v, (∀ r, v ≠ .ref r) → ¬ (v.flat = true ∧ Kept h (k.take h.length)) → trim h (.ok v k) = .ok v k := fun v hv c => by
          unfold trim
          dsimp only
          rw [if_neg c]
          cases v with
          | ref r => exact absurd rfl (hv r)
          | _ => rfl
        rw [e _ (fun r => by simp) c1, e _ (fun r => by simp) c1]
  | exc x k =>
    by_cases c1 : x.v.flat = true ∧ Kept h (k.take h.length)
    · have e : trim h (.exc x k) = .exc x (k.take h.length) := by unfold trim; dsimp only; rw [if_pos c1]
      rw [e]
      unfold trim
      dsimp only
      rw [t2, if_pos c1]
    · have e : trim h (.exc x k) = .exc x k := by unfold trim; dsimp only; rw [if_neg c1]
      rw [e, e]
  | bad => rfl
theorem trim_call {P : List Fn} {m f : Nat} {vs : List Val} {h : Heap} : trim h (call P m f vs h) = call P m f vs h := by
  have tf : ∀ s, trim h (fin h s) = fin h s := fun s => by
    cases s with
    | nx ρ k => exact trim_idem h (.ok .non k)
    | rt v k => exact trim_idem h (.ok v k)
    | exc x ρ k => exact trim_idem h (.exc x k)
    | _ => rfl
  cases m with
  | zero => rfl
  | succ n =>
    unfold call
    split
    · split
      · exact tf _
      · rfl
    · rfl
theorem items_set {h : Heap} {b : Nat} {o : Ob} {s : Val} {vs : List Val} (e : items? h s = some vs) (nb : s ≠ .ref b) : items? (h.set b o) s = some vs := by
  cases s with
  | tup _ => exact e
  | scr _ => exact e
  | ref r =>
    have n : r ≠ b := fun q => nb (by rw [q])
    have e' : (match h[r]? with | some (.lst vs) => some vs | _ => none) = some vs := e
    show (match (h.set b o)[r]? with | some (.lst vs) => some vs | _ => none) = some vs
    rw [List.getElem?_set_ne (Ne.symm n)]
    exact e'
  | _ => cases e
theorem items_fresh {h : Heap} {s : Val} {vs : List Val} (e : items? h s = some vs) : s ≠ .ref h.length := by
  rintro rfl
  have e' : (match h[h.length]? with | some (.lst vs) => some vs | _ => none) = some vs := e
  rw [List.getElem?_eq_none (Nat.le_refl _)] at e'
  cases e'
section
variable {h : Heap} {s k : Val} {a e c d u w f : Int} {b : Nat}
theorem turn21 {n : Nat} {x y z : Int} (hb : h[b]? = some (bxL x y z)) (bx : Bx (n + 15) x y z) (f1 : Fr a e) {m : Nat} (hm : 6 ≤ m) :
    ∃ (v : Val) (l : Heap) (x1 y1 z1 : Int) (x2 y2 z2 : Int), ∀ s11 s12 s13 s14 s15 s16 s17 s18 s19 s20, evSs (call prog m) (runL prog) (fun _ => .bad) [.asg (.name 19) (.call i__law_odd [0, 1] [(.var 2), (.var 3)]),
      .ite (.or (.not (.call i__law_truth [0, 1] [(.call i_is_fraction [0] [(.var 19)]), (.call i__law_is [0] [(.var 19)])])) (.or (.cmp .isnot (.call i_is_fraction [0] [(.var 3)]) (.cst (.bl true))) (.cmp .isnot (.call i_less [0, 1] [(.var 3), (.var 3)]) (.cst (.bl false))))) [.ret (.cst (.bl false))] [],
      .ite (.or (.not (.call i__law_ranges_right [0] [(.var 2)])) (.not (.call i__law_near_right [0] [(.var 2)]))) [.ret (.cst (.bl false))] []] (En s k b a e c d u w f [s11, s12, s13, s14, s15, s16, s17, s18, s19, s20]) h
      = .nx (En s k b a e c d u w f [s11, s12, s13, s14, s15, s16, s17, s18, .v v, s20]) ((h.set b (bxL x1 y1 z1) ++ l).set b (bxL x2 y2 z2)) := by
  have hbl : b < h.length := (List.getElem?_eq_some_iff.mp hb).1
  have hs : ∀ o : Ob, (h.set b o)[b]? = some o := fun o => List.getElem?_set_self hbl
  obtain ⟨a1, a2, e1, e2⟩ := f1.b
  obtain ⟨v, l, x1, y1, z1, bx1, bo, g1⟩ := a_odd (h := h) (n := n + 14) hb bx (a := a) (c := e) (by omega) (by omega)
  obtain ⟨H, eH⟩ : ∃ H, H = h.set b (bxL x1 y1 z1) ++ l := ⟨_, rfl⟩
  rw [← eH] at bo g1
  have hH : H[b]? = some (bxL x1 y1 z1) := by rw [eH]; exact at_old (hs _)
  obtain ⟨x2, y2, z2, bx2, g2⟩ := a_ranges (h := H) (n := n + 2) hH bx1
  obtain ⟨x3, y3, z3, bx3, g3⟩ := a_near (h := H.set b (bxL x2 y2 z2)) (n := n) (List.getElem?_set_self (List.getElem?_eq_some_iff.mp hH).1) bx2
  rw [List.set_set] at g3
  obtain ⟨t, b1, b2⟩ := bo
  have g1' := g1 m (by omega)
  have g2' := g2 m (by omega)
  have g3' := g3 m (by omega)
  have b1' := b1 m (by omega)
  have b2' := b2 m (by omega)
  have tr := trim_call (P := prog) (m := m) (f := i__law_odd) (vs := [.ref b, frV (a, e)]) (h := h)
  rw [g1'] at tr
  have g4 := a_truth (P := prog) (f := i__law_truth) rfl (h := H) (a := t) (b := t) m (by omega)
  rw [beq_self_eq_true] at g4
  have g5 := a_isf2 (h := H) a e m (by omega)
  have g6 := a_less (P := prog) (f := i_less) rfl (h := H) (a := a) (b := e) (c := a) (d := e) ((S_small (by omega) (by omega)).two (S_small (by omega) (by omega))) ((S_small (by omega) (by omega)).two (S_small (by omega) (by omega))) m (by omega)
  have q1 : isFr a e = true := by simp [isFr, f1.1.1, f1.1.2]
  rw [q1] at g5
  rw [decide_eq_false (by omega)] at g6
  refine ⟨v, l, x1, y1, z1, x3, y3, z3, fun s11 s12 s13 s14 s15 s16 s17 s18 s19 s20 => ?_⟩
  rw [← eH]
  refine ss_nx (ρ1 := En s k b a e c d u w f [s11, s12, s13, s14, s15, s16, s17, s18, .v v, s20]) (h1 := H) (by simp [permute, g1', tr]) ?_
  have tb1 : trim H (.ok (.bl t) H) = .ok (.bl t) H := trim_same H _
  refine ss_nx (ite_f (or_f (h1 := H) (by simp [permute, b1', b2', g4]) (or_f (h1 := H) (by simp [permute, g5]) (by simp [permute, g6])))) ?_
  refine ss_nx (ρ1 := En s k b a e c d u w f [s11, s12, s13, s14, s15, s16, s17, s18, .v v, s20]) (h1 := H.set b (bxL x3 y3 z3)) (by simp [permute, g2', g3']) rfl
end
end K03

set_option Elab.async false
set_option linter.all false
set_option maxRecDepth 10000
set_option maxHeartbeats 1000000
namespace K03
open PM
theorem ss_cat {cl : Nat → List Val → Heap → Out Val} {clL : Nat → (Heap → Out Val) → Heap → Out Val} {act : Heap → Out Val} {a b ab : List St} {ρ ρ1 : Env} {h h1 : Heap} {r : SOut} (e : ab = a ++ b) (ea : evSs cl clL act a ρ h = .nx ρ1 h1) (eb : evSs cl clL act b ρ1 h1 = r) : evSs cl clL act ab ρ h = r := by
  rw [e, ss_app ea, eb]
section
variable {s : Val} {vs : List Val}
theorem six_of {a e c d u w : Int} (f1 : Fr a e) (f2 : Fr c d) (f3 : Fr u w) : ∀ p ∈ six a e c d u w, Fr p.1 p.2 := fun p hp => by
  simp only [six, List.mem_cons, List.not_mem_nil, or_false] at hp
  rcases hp with r | r | r | r | r | r <;> rw [r] <;> assumption
/-- the draws of the three fractions and the factor -/
theorem turn0 {h : Heap} {b n : Nat} {x y z : Int} (hb : h[b]? = some (bxL x y z)) (bx : Bx (n + 10) x y z) {m : Nat} (hm : 3 ≤ m) {k : Val} {s3 s4 s5 s6 s7 s8 s9 s10 : Sl} {t : List Sl} :
    ∃ a e c d u w f x' y' z', Fr a e ∧ Fr c d ∧ Fr u w ∧ f ≠ 0 ∧ -100 ≤ f ∧ f ≤ 100 ∧ Bx n x' y' z' ∧
      evSs (call prog m) (runL prog) (fun _ => .bad) [.asg (.tup [(.name 3), (.name 4), (.name 5)]) (.tup [(.call i__law_fraction [0] [(.var 2)]), (.call i__law_fraction [0] [(.var 2)]), (.call i__law_fraction [0] [(.var 2)])]),
      .asg (.tup [(.tup [(.name 6), (.name 7)]), (.tup [(.name 8), (.name 9)]), (.name 10)]) (.tup [(.var 3), (.var 4), (.call i__law_pick [0, 1] [(.var 2), (.lst [(.cst (.int 1)), (.bin .sub (.cst (.int 0)) (.cst (.int 1))), (.cst (.int 6)), (.bin .sub (.cst (.int 0)) (.cst (.int 35)))])])])] (.v s :: .v k :: .v (.ref b) :: s3 :: s4 :: s5 :: s6 :: s7 :: s8 :: s9 :: s10 :: t) h = .nx (En s k b a e c d u w f t) (h.set b (bxL x' y' z')) := by
  have hbl : b < h.length := (List.getElem?_eq_some_iff.mp hb).1
  have hs : ∀ o : Ob, (h.set b o)[b]? = some o := fun o => List.getElem?_set_self hbl
  obtain ⟨a, e, x1, y1, z1, f1, bx1, e1⟩ := a_fraction (P := prog) (f := i__law_fraction) (fp := i__law_pick) (ft := i__law_take) (fl := i__law_least) (fc := i__law_common) rfl rfl rfl rfl rfl (h := h) (n := n + 7) hb bx
  obtain ⟨c, d, x2, y2, z2, f2, bx2, e2⟩ := a_fraction (P := prog) (f := i__law_fraction) (fp := i__law_pick) (ft := i__law_take) (fl := i__law_least) (fc := i__law_common) rfl rfl rfl rfl rfl (h := h.set b (bxL x1 y1 z1)) (n := n + 4) (hs _) bx1
  obtain ⟨u, w, x3, y3, z3, f3, bx3, e3⟩ := a_fraction (P := prog) (f := i__law_fraction) (fp := i__law_pick) (ft := i__law_take) (fl := i__law_least) (fc := i__law_common) rfl rfl rfl rfl rfl (h := h.set b (bxL x2 y2 z2)) (n := n + 1) (hs _) bx2
  rw [List.set_set] at e2 e3
  obtain ⟨H, eH⟩ : ∃ H, H = h.set b (bxL x3 y3 z3) := ⟨_, rfl⟩
  have hH : H[b]? = some (bxL x3 y3 z3) := by rw [eH]; exact hs _
  have hbl2 : b < H.length := (List.getElem?_eq_some_iff.mp hH).1
  have sA : ∀ (o : Ob) (l : Heap), (H ++ l).set b o = H.set b o ++ l := fun o l => List.set_append_left _ _ hbl2
  obtain ⟨j, v, x4, y4, z4, ej, bx4, e4⟩ := a_pick (P := prog) (f := i__law_pick) (ft := i__law_take) rfl rfl (h := H ++ [.lst [.int 1, .int (-1), .int 6, .int (-35)]]) (b := b) (n := n) (s := .ref H.length) (vs := [.int 1, .int (-1), .int 6, .int (-35)]) (at_old hH) bx3
    (fun o => by rw [sA]; have := at_new0 (H.set b o) [.lst [.int 1, .int (-1), .int 6, .int (-35)]]; rw [List.length_set] at this; simp [items?, this]) (by simp [items?]) (by decide) (by decide)
  rw [sA] at e4
  obtain ⟨f, hv, q1, q2, q3⟩ : ∃ f : Int, v = .int f ∧ f ≠ 0 ∧ -100 ≤ f ∧ f ≤ 100 := by
    match j, ej with
    | 0, ek => cases ek; exact ⟨_, rfl, by decide, by decide, by decide⟩
    | 1, ek => cases ek; exact ⟨_, rfl, by decide, by decide, by decide⟩
    | 2, ek => cases ek; exact ⟨_, rfl, by decide, by decide, by decide⟩
    | 3, ek => cases ek; exact ⟨_, rfl, by decide, by decide, by decide⟩
    | j + 4, ek => simp at ek
  subst hv
  refine ⟨a, e, c, d, u, w, f, x4, y4, z4, f1, f2, f3, q1, q2, q3, bx4, ?_⟩
  have e1' := e1 m hm
  have e2' := e2 m hm
  have e3' := e3 m hm
  have e4' := e4 m (by omega)
  refine ss_nx (ρ1 := .v s :: .v k :: .v (.ref b) :: .v (frV (a, e)) :: .v (frV (c, d)) :: .v (frV (u, w)) :: s6 :: s7 :: s8 :: s9 :: s10 :: t) (h1 := H) (by
    rw [eH]
    simp [permute, e1', e2', e3']) ?_
  have eS : H.set b (bxL x4 y4 z4) = h.set b (bxL x4 y4 z4) := by rw [eH, List.set_set]
  rw [← eS]
  refine ss_nx (ρ1 := En s k b a e c d u w f t) (h1 := H.set b (bxL x4 y4 z4)) (by
    simp [permute, e4']) rfl
theorem turn {h : Heap} {k : Nat} (hk : k < 4) {l : List Int} (hi : items? h s = some (l.map .int)) {m : Nat} (hm : 6 ≤ m) {ts : List Sl} (ht : ts.length = 19) :
    ∃ (h' : Heap) (ts' : List Sl), items? h' s = some (l.map .int) ∧ ts'.length = 19 ∧
      evSs (call prog m) (runL prog) (fun _ => .bad) [.asg (.name 2) (.call i__law_box [0, 1] [(.var 0), (.var 1)]),
      .asg (.tup [(.name 3), (.name 4), (.name 5)]) (.tup [(.call i__law_fraction [0] [(.var 2)]), (.call i__law_fraction [0] [(.var 2)]), (.call i__law_fraction [0] [(.var 2)])]),
      .asg (.tup [(.tup [(.name 6), (.name 7)]), (.tup [(.name 8), (.name 9)]), (.name 10)]) (.tup [(.var 3), (.var 4), (.call i__law_pick [0, 1] [(.var 2), (.lst [(.cst (.int 1)), (.bin .sub (.cst (.int 0)) (.cst (.int 1))), (.cst (.int 6)), (.bin .sub (.cst (.int 0)) (.cst (.int 35)))])])]),
      .ite (.or (.not (.call i__law_equals [0, 1, 2] [(.call i_plus [0, 1] [(.var 3), (.var 4)]), (.bin .add (.bin .mul (.var 6) (.var 9)) (.bin .mul (.var 8) (.var 7))), (.bin .mul (.var 7) (.var 9))])) (.not (.call i__law_equals [0, 1, 2] [(.call i_times [0, 1] [(.var 3), (.var 4)]), (.bin .mul (.var 6) (.var 8)), (.bin .mul (.var 7) (.var 9))]))) [.ret (.cst (.bl false))] [],
      .ite (.or (.cmp .ne (.call i_plus [1, 0] [(.var 3), (.var 4)]) (.call i_plus [0, 1] [(.var 3), (.var 4)])) (.cmp .ne (.call i_times [1, 0] [(.var 3), (.var 4)]) (.call i_times [0, 1] [(.var 3), (.var 4)]))) [.ret (.cst (.bl false))] [],
      .ite (.or (.not (.call i__law_equals [0, 1, 2] [(.call i_minus [0, 1] [(.var 3), (.var 4)]), (.bin .sub (.bin .mul (.var 6) (.var 9)) (.bin .mul (.var 8) (.var 7))), (.bin .mul (.var 7) (.var 9))])) (.cmp .ne (.call i_fraction_of [0, 1] [(.bin .mul (.var 6) (.var 10)), (.bin .mul (.var 7) (.var 10))]) (.var 3))) [.ret (.cst (.bl false))] [],
      .ite (.ite (.cmp .ne (.var 9) (.cst (.int 9))) (.not (.call i__law_equals [0, 1, 2] [(.call i_fraction_of [1, 0] [(.bin .sub (.var 9) (.cst (.int 9))), (.var 6)]), (.var 6), (.bin .sub (.var 9) (.cst (.int 9)))])) (.cmp .ne (.call i_fraction_of [0, 1] [(.cst (.int 0)), (.bin .sub (.cst (.int 0)) (.var 9))]) (.tup [(.cst (.int 0)), (.cst (.int 1))]))) [.ret (.cst (.bl false))] [],
      .ite (.or (.not (.call i__law_truth [0, 1] [(.call i_less [0, 1] [(.var 3), (.var 4)]), (.cmp .lt (.bin .mul (.var 6) (.var 9)) (.bin .mul (.var 8) (.var 7)))])) (.not (.call i__law_truth [0, 1] [(.call i_less [1, 0] [(.var 3), (.var 4)]), (.cmp .lt (.bin .mul (.var 8) (.var 7)) (.bin .mul (.var 6) (.var 9)))]))) [.ret (.cst (.bl false))] [],
      .ite (.and (.cmp .ne (.var 8) (.cst (.int 0))) (.or (.not (.call i__law_equals [0, 1, 2] [(.call i_ratio [0, 1] [(.var 3), (.var 4)]), (.bin .mul (.var 6) (.var 9)), (.bin .mul (.var 7) (.var 8))])) (.cmp .ne (.call i_ratio [1, 0] [(.var 4), (.var 3)]) (.call i_ratio [0, 1] [(.var 3), (.var 4)])))) [.ret (.cst (.bl false))] [],
      .asg (.name 11) (.lst [(.lam i__law_refused (.call i_ratio [0, 1] [(.var 3), (.tup [(.cst (.int 0)), (.cst (.int 1))])]))]),
      .ex (.meth .append (.var 11) [(.lam i__law_refused (.call i_fraction_of [0, 1] [(.var 6), (.cst (.int 0))]))]),
      .ite (.or (.cmp .ne (.var 11) (.bin .mul (.lst [(.tup [(.cst (.str "number")), (.cst (.str "zero"))])]) (.cst (.int 2)))) (.cmp .ne (.lam i__law_refused (.call i_least_of [0] [(.tup [])])) (.tup [(.cst (.str "refused")), (.cst (.str "none"))]))) [.ret (.cst (.bl false))] [],
      .asg (.name 12) (.slice (.lst [(.var 3), (.var 4), (.var 5), (.var 3), (.var 4), (.var 5)]) (.cst .non) (.bin .add (.cst (.int 1)) (.call i__law_take [0, 1] [(.var 2), (.cst (.int 6))]))),
      .asg (.tup [(.name 13), (.name 14)]) (.tup [(.call i_least_of [0] [(.b1 .tuple (.var 12))]), (.call i_greatest_of [0] [(.b1 .tuple (.var 12))])]),
      .ite (.or (.cmp .notin (.var 13) (.var 12)) (.or (.cmp .notin (.var 14) (.var 12)) (.cmp .ne (.lam i__law_refused (.call i_greatest_of [0] [(.tup [])])) (.tup [(.cst (.str "refused")), (.cst (.str "none"))])))) [.ret (.cst (.bl false))] [],
      .ite (.not (.b1 .all (.comp [20] (.name 20) (.ex (.var 12)) (.cst (.bl true)) (.and (.cmp .le (.bin .mul (.idx (.var 13) (.cst (.int 0))) (.idx (.var 20) (.cst (.int 1)))) (.bin .mul (.idx (.var 20) (.cst (.int 0))) (.idx (.var 13) (.cst (.int 1))))) (.cmp .le (.bin .mul (.idx (.var 20) (.cst (.int 0))) (.idx (.var 14) (.cst (.int 1)))) (.bin .mul (.idx (.var 14) (.cst (.int 0))) (.idx (.var 20) (.cst (.int 1))))))))) [.ret (.cst (.bl false))] [],
      .asg (.name 15) (.b1 .tuple (.comp [20] (.name 20) (.ex (.var 12)) (.cst (.bl true)) (.bin .sub (.call i__law_take [0, 1] [(.var 2), (.cst (.int 9))]) (.cst (.int 4))))),
      .asg (.name 16) (.bin .mul (.idx (.var 15) (.cst (.int 0))) (.idx (.idx (.var 12) (.cst (.int 0))) (.cst (.int 0)))),
      .asg (.name 17) (.idx (.idx (.var 12) (.cst (.int 0))) (.cst (.int 1))),
      .for_ (.name 18) (.range2 (.cst (.int 1)) (.b1 .len (.var 12))) [.asg (.tup [(.name 16), (.name 17)]) (.tup [(.bin .add (.bin .mul (.var 16) (.idx (.idx (.var 12) (.var 18)) (.cst (.int 1)))) (.bin .mul (.bin .mul (.idx (.var 15) (.var 18)) (.idx (.idx (.var 12) (.var 18)) (.cst (.int 0)))) (.var 17))), (.bin .mul (.var 17) (.idx (.idx (.var 12) (.var 18)) (.cst (.int 1))))])],
      .ite (.or (.not (.call i__law_equals [0, 1, 2] [(.call i_weighed [1, 0] [(.b1 .tuple (.var 12)), (.var 15)]), (.var 16), (.var 17)])) (.cmp .ne (.call i_weighed [0, 1] [(.tup []), (.tup [])]) (.tup [(.cst (.int 0)), (.cst (.int 1))]))) [.ret (.cst (.bl false))] [],
      .asg (.name 19) (.call i__law_odd [0, 1] [(.var 2), (.var 3)]),
      .ite (.or (.not (.call i__law_truth [0, 1] [(.call i_is_fraction [0] [(.var 19)]), (.call i__law_is [0] [(.var 19)])])) (.or (.cmp .isnot (.call i_is_fraction [0] [(.var 3)]) (.cst (.bl true))) (.cmp .isnot (.call i_less [0, 1] [(.var 3), (.var 3)]) (.cst (.bl false))))) [.ret (.cst (.bl false))] [],
      .ite (.or (.not (.call i__law_ranges_right [0] [(.var 2)])) (.not (.call i__law_near_right [0] [(.var 2)]))) [.ret (.cst (.bl false))] []] (.v s :: .v (.int k) :: ts) h = .nx (.v s :: .v (.int k) :: ts') h' := by
  obtain ⟨s2, s3, s4, s5, s6, s7, s8, s9, s10, s11, s12, s13, s14, s15, s16, s17, s18, s19, s20, rfl⟩ : ∃ s2 s3 s4 s5 s6 s7 s8 s9 s10 s11 s12 s13 s14 s15 s16 s17 s18 s19 s20, ts = [s2, s3, s4, s5, s6, s7, s8, s9, s10, s11, s12, s13, s14, s15, s16, s17, s18, s19, s20] := by
    match ts, ht with
    | [s2, s3, s4, s5, s6, s7, s8, s9, s10, s11, s12, s13, s14, s15, s16, s17, s18, s19, s20], _ => exact ⟨_, _, _, _, _, _, _, _, _, _, _, _, _, _, _, _, _, _, _, rfl⟩
  have nb := items_fresh hi
  obtain ⟨x0, y0, bx0, e0⟩ := a_box (P := prog) (f := i__law_box) rfl (h := h) hi hk 100 (by decide)
  have e0' := e0 m (by omega)
  obtain ⟨b, eb⟩ : ∃ b, b = h.length := ⟨_, rfl⟩
  rw [← eb] at nb e0'
  -- the box
  obtain ⟨h1, eh1⟩ : ∃ h1, h1 = h ++ [bxL x0 y0 0] := ⟨_, rfl⟩
  have i1 : items? h1 s = some (l.map .int) := by rw [eh1]; exact items_old hi
  have b1 : h1[b]? = some (bxL x0 y0 0) := by rw [eh1, eb]; simp
  have tr0 := trim_call (P := prog) (m := m) (f := i__law_box) (vs := [s, .int k]) (h := h)
  rw [e0'] at tr0
  rw [← eh1] at e0' tr0
  have st0 : evS (call prog m) (runL prog) (fun _ => .bad) (.asg (.name 2) (.call i__law_box [0, 1] [(.var 0), (.var 1)])) (.v s :: .v (.int k) :: [s2, s3, s4, s5, s6, s7, s8, s9, s10, s11, s12, s13, s14, s15, s16, s17, s18, s19, s20]) h = .nx (.v s :: .v (.int k) :: .v (.ref b) :: [s3, s4, s5, s6, s7, s8, s9, s10, s11, s12, s13, s14, s15, s16, s17, s18, s19, s20]) h1 := by
    simp [permute, e0', tr0]
  -- the draws
  obtain ⟨a, e, c, d, u, w, f, x1, y1, z1, f1, f2, f3, fn, fn1, fn2, bx1, st1⟩ := turn0 (s := s) (n := 60) b1 (bx0.mono (by decide)) (m := m) (by omega) (k := .int k) (s3 := s3) (s4 := s4) (s5 := s5) (s6 := s6) (s7 := s7) (s8 := s8) (s9 := s9) (s10 := s10) (t := [s11, s12, s13, s14, s15, s16, s17, s18, s19, s20])
  obtain ⟨h2, eh2⟩ : ∃ h2, h2 = h1.set b (bxL x1 y1 z1) := ⟨_, rfl⟩
  rw [← eh2] at st1
  have i2 : items? h2 s = some (l.map .int) := by rw [eh2]; exact items_set i1 nb
  have b2 : h2[b]? = some (bxL x1 y1 z1) := by rw [eh2]; exact List.getElem?_set_self (List.getElem?_eq_some_iff.mp b1).1
  obtain ⟨h3, eh3⟩ : ∃ h3, h3 = h2 ++ [.lst [numZ, numZ]] := ⟨_, rfl⟩
  have i3 : items? h3 s = some (l.map .int) := by rw [eh3]; exact items_old i2
  have b3 : h3[b]? = some (bxL x1 y1 z1) := by rw [eh3]; exact at_old b2
  -- the list
  obtain ⟨L, x2, y2, z2, hL, mL, bx2, st2⟩ := turn12 (s := s) (k := .int k) (a := a) (e := e) (c := c) (d := d) (u := u) (w := w) (f := f) (n := 59) b3 bx1
  have st2' := st2 m (by omega) (.v (.ref h2.length)) s12 [s13, s14, s15, s16, s17, s18, s19, s20]
  obtain ⟨h4, eh4⟩ : ∃ h4, h4 = h3.set b (bxL x2 y2 z2) ++ [.lst (((a, e) :: L).map frV)] := ⟨_, rfl⟩
  rw [← eh4] at st2'
  have i4 : items? h4 s = some (l.map .int) := by rw [eh4]; exact items_old (items_set i3 nb)
  have b4 : h4[b]? = some (bxL x2 y2 z2) := by rw [eh4]; exact at_old (List.getElem?_set_self (List.getElem?_eq_some_iff.mp b3).1)
  have r4 : h4[h3.length]? = some (.lst (((a, e) :: L).map frV)) := by
    have := at_new0 (h3.set b (bxL x2 y2 z2)) [.lst (((a, e) :: L).map frV)]
    rw [List.length_set] at this
    rw [eh4, this]; rfl
  have nr : h3.length ≠ b := by have := (List.getElem?_eq_some_iff.mp b3).1; omega
  have frL : ∀ p ∈ (a, e) :: L, Fr p.1 p.2 := fun p hp => six_of f1 f2 f3 p (mL p hp)
  -- the amounts
  obtain ⟨TL, x3, y3, z3, eTL, hTL, bx3, st3⟩ := turn16 (s := s) (k := .int k) (a := a) (e := e) (c := c) (d := d) (u := u) (w := w) (f := f) (n := 53) nr b4 r4 (by rw [List.length_cons]; omega) bx2
  obtain ⟨h5, eh5⟩ : ∃ h5, h5 = h4.set b (bxL x3 y3 z3) := ⟨_, rfl⟩
  have i5 : items? h5 s = some (l.map .int) := by rw [eh5]; exact items_set i4 nb
  have b5 : h5[b]? = some (bxL x3 y3 z3) := by rw [eh5]; exact List.getElem?_set_self (List.getElem?_eq_some_iff.mp b4).1
  have r5 : h5[h3.length]? = some (.lst (psL TL)) := by
    rw [eh5, set_other nr r4, ← eTL, List.map_map]
    rfl
  have lTL : TL.length = L.length + 1 := by
    have := congrArg List.length eTL
    simpa using this
  have frT : ∀ p ∈ TL, p.1.natAbs ≤ 4 ∧ Fr p.2.1 p.2.2 := fun p hp => ⟨hTL p hp, frL p.2 (by rw [← eTL]; exact List.mem_map.mpr ⟨p, hp, rfl⟩)⟩
  obtain ⟨v, lo, x4, y4, z4, x5, y5, z5, st4⟩ := turn21 (s := s) (k := .int k) (a := a) (e := e) (c := c) (d := d) (u := u) (w := w) (f := f) (n := 38) b5 bx3 f1 hm
  obtain ⟨t13, t14, st13⟩ := turn13 (s := s) (k := .int k) (b := b) (c := c) (d := d) (u := u) (w := w) (f := f) r4 frL (by omega) (m := m) (by omega) (s11 := .v (.ref h2.length)) (s13 := s13) (s14 := s14) (s15 := s15) (s16 := s16) (s17 := s17) (s18 := s18) (s19 := s19) (s20 := s20)
  have st16 := st3 m (by omega) (.v (.ref h2.length)) t13 t14 s15 s16 s17 s18 s19 s20
  rw [← eh5] at st16
  obtain ⟨t16, t17, t18, st17⟩ := turn17 (s := s) (k := .int k) (b := b) (a := a) (e := e) (c := c) (d := d) (u := u) (w := w) (f := f) r5 frT (by omega) (by omega) (m := m) (by omega) (s11 := .v (.ref h2.length)) (s13 := t13) (s14 := t14) (s16 := s16) (s17 := s17) (s18 := s18) (s19 := s19) (s20 := s20)
  refine ⟨(h5.set b (bxL x4 y4 z4) ++ lo).set b (bxL x5 y5 z5), .v (.ref b) :: .v (frV (a, e)) :: .v (frV (c, d)) :: .v (frV (u, w)) :: .v (.int a) :: .v (.int e) :: .v (.int c) :: .v (.int d) :: .v (.int f) :: [.v (.ref h2.length), .v (.ref h3.length), t13, t14, .v (ksV TL), t16, t17, t18, .v v, s20], items_set (items_old (items_set i5 nb)) nb, rfl, ?_⟩
  · refine ss_nx st0 ?_
    refine ss_cat (a := [.asg (.tup [(.name 3), (.name 4), (.name 5)]) (.tup [(.call i__law_fraction [0] [(.var 2)]), (.call i__law_fraction [0] [(.var 2)]), (.call i__law_fraction [0] [(.var 2)])]),
      .asg (.tup [(.tup [(.name 6), (.name 7)]), (.tup [(.name 8), (.name 9)]), (.name 10)]) (.tup [(.var 3), (.var 4), (.call i__law_pick [0, 1] [(.var 2), (.lst [(.cst (.int 1)), (.bin .sub (.cst (.int 0)) (.cst (.int 1))), (.cst (.int 6)), (.bin .sub (.cst (.int 0)) (.cst (.int 35)))])])])]) (b := [.ite (.or (.not (.call i__law_equals [0, 1, 2] [(.call i_plus [0, 1] [(.var 3), (.var 4)]), (.bin .add (.bin .mul (.var 6) (.var 9)) (.bin .mul (.var 8) (.var 7))), (.bin .mul (.var 7) (.var 9))])) (.not (.call i__law_equals [0, 1, 2] [(.call i_times [0, 1] [(.var 3), (.var 4)]), (.bin .mul (.var 6) (.var 8)), (.bin .mul (.var 7) (.var 9))]))) [.ret (.cst (.bl false))] [],
      .ite (.or (.cmp .ne (.call i_plus [1, 0] [(.var 3), (.var 4)]) (.call i_plus [0, 1] [(.var 3), (.var 4)])) (.cmp .ne (.call i_times [1, 0] [(.var 3), (.var 4)]) (.call i_times [0, 1] [(.var 3), (.var 4)]))) [.ret (.cst (.bl false))] [],
      .ite (.or (.not (.call i__law_equals [0, 1, 2] [(.call i_minus [0, 1] [(.var 3), (.var 4)]), (.bin .sub (.bin .mul (.var 6) (.var 9)) (.bin .mul (.var 8) (.var 7))), (.bin .mul (.var 7) (.var 9))])) (.cmp .ne (.call i_fraction_of [0, 1] [(.bin .mul (.var 6) (.var 10)), (.bin .mul (.var 7) (.var 10))]) (.var 3))) [.ret (.cst (.bl false))] [],
      .ite (.ite (.cmp .ne (.var 9) (.cst (.int 9))) (.not (.call i__law_equals [0, 1, 2] [(.call i_fraction_of [1, 0] [(.bin .sub (.var 9) (.cst (.int 9))), (.var 6)]), (.var 6), (.bin .sub (.var 9) (.cst (.int 9)))])) (.cmp .ne (.call i_fraction_of [0, 1] [(.cst (.int 0)), (.bin .sub (.cst (.int 0)) (.var 9))]) (.tup [(.cst (.int 0)), (.cst (.int 1))]))) [.ret (.cst (.bl false))] [],
      .ite (.or (.not (.call i__law_truth [0, 1] [(.call i_less [0, 1] [(.var 3), (.var 4)]), (.cmp .lt (.bin .mul (.var 6) (.var 9)) (.bin .mul (.var 8) (.var 7)))])) (.not (.call i__law_truth [0, 1] [(.call i_less [1, 0] [(.var 3), (.var 4)]), (.cmp .lt (.bin .mul (.var 8) (.var 7)) (.bin .mul (.var 6) (.var 9)))]))) [.ret (.cst (.bl false))] [],
      .ite (.and (.cmp .ne (.var 8) (.cst (.int 0))) (.or (.not (.call i__law_equals [0, 1, 2] [(.call i_ratio [0, 1] [(.var 3), (.var 4)]), (.bin .mul (.var 6) (.var 9)), (.bin .mul (.var 7) (.var 8))])) (.cmp .ne (.call i_ratio [1, 0] [(.var 4), (.var 3)]) (.call i_ratio [0, 1] [(.var 3), (.var 4)])))) [.ret (.cst (.bl false))] [],
      .asg (.name 11) (.lst [(.lam i__law_refused (.call i_ratio [0, 1] [(.var 3), (.tup [(.cst (.int 0)), (.cst (.int 1))])]))]),
      .ex (.meth .append (.var 11) [(.lam i__law_refused (.call i_fraction_of [0, 1] [(.var 6), (.cst (.int 0))]))]),
      .ite (.or (.cmp .ne (.var 11) (.bin .mul (.lst [(.tup [(.cst (.str "number")), (.cst (.str "zero"))])]) (.cst (.int 2)))) (.cmp .ne (.lam i__law_refused (.call i_least_of [0] [(.tup [])])) (.tup [(.cst (.str "refused")), (.cst (.str "none"))]))) [.ret (.cst (.bl false))] [],
      .asg (.name 12) (.slice (.lst [(.var 3), (.var 4), (.var 5), (.var 3), (.var 4), (.var 5)]) (.cst .non) (.bin .add (.cst (.int 1)) (.call i__law_take [0, 1] [(.var 2), (.cst (.int 6))]))),
      .asg (.tup [(.name 13), (.name 14)]) (.tup [(.call i_least_of [0] [(.b1 .tuple (.var 12))]), (.call i_greatest_of [0] [(.b1 .tuple (.var 12))])]),
      .ite (.or (.cmp .notin (.var 13) (.var 12)) (.or (.cmp .notin (.var 14) (.var 12)) (.cmp .ne (.lam i__law_refused (.call i_greatest_of [0] [(.tup [])])) (.tup [(.cst (.str "refused")), (.cst (.str "none"))])))) [.ret (.cst (.bl false))] [],
      .ite (.not (.b1 .all (.comp [20] (.name 20) (.ex (.var 12)) (.cst (.bl true)) (.and (.cmp .le (.bin .mul (.idx (.var 13) (.cst (.int 0))) (.idx (.var 20) (.cst (.int 1)))) (.bin .mul (.idx (.var 20) (.cst (.int 0))) (.idx (.var 13) (.cst (.int 1))))) (.cmp .le (.bin .mul (.idx (.var 20) (.cst (.int 0))) (.idx (.var 14) (.cst (.int 1)))) (.bin .mul (.idx (.var 14) (.cst (.int 0))) (.idx (.var 20) (.cst (.int 1))))))))) [.ret (.cst (.bl false))] [],
      .asg (.name 15) (.b1 .tuple (.comp [20] (.name 20) (.ex (.var 12)) (.cst (.bl true)) (.bin .sub (.call i__law_take [0, 1] [(.var 2), (.cst (.int 9))]) (.cst (.int 4))))),
      .asg (.name 16) (.bin .mul (.idx (.var 15) (.cst (.int 0))) (.idx (.idx (.var 12) (.cst (.int 0))) (.cst (.int 0)))),
      .asg (.name 17) (.idx (.idx (.var 12) (.cst (.int 0))) (.cst (.int 1))),
      .for_ (.name 18) (.range2 (.cst (.int 1)) (.b1 .len (.var 12))) [.asg (.tup [(.name 16), (.name 17)]) (.tup [(.bin .add (.bin .mul (.var 16) (.idx (.idx (.var 12) (.var 18)) (.cst (.int 1)))) (.bin .mul (.bin .mul (.idx (.var 15) (.var 18)) (.idx (.idx (.var 12) (.var 18)) (.cst (.int 0)))) (.var 17))), (.bin .mul (.var 17) (.idx (.idx (.var 12) (.var 18)) (.cst (.int 1))))])],
      .ite (.or (.not (.call i__law_equals [0, 1, 2] [(.call i_weighed [1, 0] [(.b1 .tuple (.var 12)), (.var 15)]), (.var 16), (.var 17)])) (.cmp .ne (.call i_weighed [0, 1] [(.tup []), (.tup [])]) (.tup [(.cst (.int 0)), (.cst (.int 1))]))) [.ret (.cst (.bl false))] [],
      .asg (.name 19) (.call i__law_odd [0, 1] [(.var 2), (.var 3)]),
      .ite (.or (.not (.call i__law_truth [0, 1] [(.call i_is_fraction [0] [(.var 19)]), (.call i__law_is [0] [(.var 19)])])) (.or (.cmp .isnot (.call i_is_fraction [0] [(.var 3)]) (.cst (.bl true))) (.cmp .isnot (.call i_less [0, 1] [(.var 3), (.var 3)]) (.cst (.bl false))))) [.ret (.cst (.bl false))] [],
      .ite (.or (.not (.call i__law_ranges_right [0] [(.var 2)])) (.not (.call i__law_near_right [0] [(.var 2)]))) [.ret (.cst (.bl false))] []]) rfl st1 ?_
    refine turn4 (rest := [.asg (.name 11) (.lst [(.lam i__law_refused (.call i_ratio [0, 1] [(.var 3), (.tup [(.cst (.int 0)), (.cst (.int 1))])]))]),
      .ex (.meth .append (.var 11) [(.lam i__law_refused (.call i_fraction_of [0, 1] [(.var 6), (.cst (.int 0))]))]),
      .ite (.or (.cmp .ne (.var 11) (.bin .mul (.lst [(.tup [(.cst (.str "number")), (.cst (.str "zero"))])]) (.cst (.int 2)))) (.cmp .ne (.lam i__law_refused (.call i_least_of [0] [(.tup [])])) (.tup [(.cst (.str "refused")), (.cst (.str "none"))]))) [.ret (.cst (.bl false))] [],
      .asg (.name 12) (.slice (.lst [(.var 3), (.var 4), (.var 5), (.var 3), (.var 4), (.var 5)]) (.cst .non) (.bin .add (.cst (.int 1)) (.call i__law_take [0, 1] [(.var 2), (.cst (.int 6))]))),
      .asg (.tup [(.name 13), (.name 14)]) (.tup [(.call i_least_of [0] [(.b1 .tuple (.var 12))]), (.call i_greatest_of [0] [(.b1 .tuple (.var 12))])]),
      .ite (.or (.cmp .notin (.var 13) (.var 12)) (.or (.cmp .notin (.var 14) (.var 12)) (.cmp .ne (.lam i__law_refused (.call i_greatest_of [0] [(.tup [])])) (.tup [(.cst (.str "refused")), (.cst (.str "none"))])))) [.ret (.cst (.bl false))] [],
      .ite (.not (.b1 .all (.comp [20] (.name 20) (.ex (.var 12)) (.cst (.bl true)) (.and (.cmp .le (.bin .mul (.idx (.var 13) (.cst (.int 0))) (.idx (.var 20) (.cst (.int 1)))) (.bin .mul (.idx (.var 20) (.cst (.int 0))) (.idx (.var 13) (.cst (.int 1))))) (.cmp .le (.bin .mul (.idx (.var 20) (.cst (.int 0))) (.idx (.var 14) (.cst (.int 1)))) (.bin .mul (.idx (.var 14) (.cst (.int 0))) (.idx (.var 20) (.cst (.int 1))))))))) [.ret (.cst (.bl false))] [],
      .asg (.name 15) (.b1 .tuple (.comp [20] (.name 20) (.ex (.var 12)) (.cst (.bl true)) (.bin .sub (.call i__law_take [0, 1] [(.var 2), (.cst (.int 9))]) (.cst (.int 4))))),
      .asg (.name 16) (.bin .mul (.idx (.var 15) (.cst (.int 0))) (.idx (.idx (.var 12) (.cst (.int 0))) (.cst (.int 0)))),
      .asg (.name 17) (.idx (.idx (.var 12) (.cst (.int 0))) (.cst (.int 1))),
      .for_ (.name 18) (.range2 (.cst (.int 1)) (.b1 .len (.var 12))) [.asg (.tup [(.name 16), (.name 17)]) (.tup [(.bin .add (.bin .mul (.var 16) (.idx (.idx (.var 12) (.var 18)) (.cst (.int 1)))) (.bin .mul (.bin .mul (.idx (.var 15) (.var 18)) (.idx (.idx (.var 12) (.var 18)) (.cst (.int 0)))) (.var 17))), (.bin .mul (.var 17) (.idx (.idx (.var 12) (.var 18)) (.cst (.int 1))))])],
      .ite (.or (.not (.call i__law_equals [0, 1, 2] [(.call i_weighed [1, 0] [(.b1 .tuple (.var 12)), (.var 15)]), (.var 16), (.var 17)])) (.cmp .ne (.call i_weighed [0, 1] [(.tup []), (.tup [])]) (.tup [(.cst (.int 0)), (.cst (.int 1))]))) [.ret (.cst (.bl false))] [],
      .asg (.name 19) (.call i__law_odd [0, 1] [(.var 2), (.var 3)]),
      .ite (.or (.not (.call i__law_truth [0, 1] [(.call i_is_fraction [0] [(.var 19)]), (.call i__law_is [0] [(.var 19)])])) (.or (.cmp .isnot (.call i_is_fraction [0] [(.var 3)]) (.cst (.bl true))) (.cmp .isnot (.call i_less [0, 1] [(.var 3), (.var 3)]) (.cst (.bl false))))) [.ret (.cst (.bl false))] [],
      .ite (.or (.not (.call i__law_ranges_right [0] [(.var 2)])) (.not (.call i__law_near_right [0] [(.var 2)]))) [.ret (.cst (.bl false))] []]) f1 f2 fn ⟨fn1, fn2⟩ (by omega) ?_
    refine turn10 (rest := [.asg (.name 12) (.slice (.lst [(.var 3), (.var 4), (.var 5), (.var 3), (.var 4), (.var 5)]) (.cst .non) (.bin .add (.cst (.int 1)) (.call i__law_take [0, 1] [(.var 2), (.cst (.int 6))]))),
      .asg (.tup [(.name 13), (.name 14)]) (.tup [(.call i_least_of [0] [(.b1 .tuple (.var 12))]), (.call i_greatest_of [0] [(.b1 .tuple (.var 12))])]),
      .ite (.or (.cmp .notin (.var 13) (.var 12)) (.or (.cmp .notin (.var 14) (.var 12)) (.cmp .ne (.lam i__law_refused (.call i_greatest_of [0] [(.tup [])])) (.tup [(.cst (.str "refused")), (.cst (.str "none"))])))) [.ret (.cst (.bl false))] [],
      .ite (.not (.b1 .all (.comp [20] (.name 20) (.ex (.var 12)) (.cst (.bl true)) (.and (.cmp .le (.bin .mul (.idx (.var 13) (.cst (.int 0))) (.idx (.var 20) (.cst (.int 1)))) (.bin .mul (.idx (.var 20) (.cst (.int 0))) (.idx (.var 13) (.cst (.int 1))))) (.cmp .le (.bin .mul (.idx (.var 20) (.cst (.int 0))) (.idx (.var 14) (.cst (.int 1)))) (.bin .mul (.idx (.var 14) (.cst (.int 0))) (.idx (.var 20) (.cst (.int 1))))))))) [.ret (.cst (.bl false))] [],
      .asg (.name 15) (.b1 .tuple (.comp [20] (.name 20) (.ex (.var 12)) (.cst (.bl true)) (.bin .sub (.call i__law_take [0, 1] [(.var 2), (.cst (.int 9))]) (.cst (.int 4))))),
      .asg (.name 16) (.bin .mul (.idx (.var 15) (.cst (.int 0))) (.idx (.idx (.var 12) (.cst (.int 0))) (.cst (.int 0)))),
      .asg (.name 17) (.idx (.idx (.var 12) (.cst (.int 0))) (.cst (.int 1))),
      .for_ (.name 18) (.range2 (.cst (.int 1)) (.b1 .len (.var 12))) [.asg (.tup [(.name 16), (.name 17)]) (.tup [(.bin .add (.bin .mul (.var 16) (.idx (.idx (.var 12) (.var 18)) (.cst (.int 1)))) (.bin .mul (.bin .mul (.idx (.var 15) (.var 18)) (.idx (.idx (.var 12) (.var 18)) (.cst (.int 0)))) (.var 17))), (.bin .mul (.var 17) (.idx (.idx (.var 12) (.var 18)) (.cst (.int 1))))])],
      .ite (.or (.not (.call i__law_equals [0, 1, 2] [(.call i_weighed [1, 0] [(.b1 .tuple (.var 12)), (.var 15)]), (.var 16), (.var 17)])) (.cmp .ne (.call i_weighed [0, 1] [(.tup []), (.tup [])]) (.tup [(.cst (.int 0)), (.cst (.int 1))]))) [.ret (.cst (.bl false))] [],
      .asg (.name 19) (.call i__law_odd [0, 1] [(.var 2), (.var 3)]),
      .ite (.or (.not (.call i__law_truth [0, 1] [(.call i_is_fraction [0] [(.var 19)]), (.call i__law_is [0] [(.var 19)])])) (.or (.cmp .isnot (.call i_is_fraction [0] [(.var 3)]) (.cst (.bl true))) (.cmp .isnot (.call i_less [0, 1] [(.var 3), (.var 3)]) (.cst (.bl false))))) [.ret (.cst (.bl false))] [],
      .ite (.or (.not (.call i__law_ranges_right [0] [(.var 2)])) (.not (.call i__law_near_right [0] [(.var 2)]))) [.ret (.cst (.bl false))] []]) f1 (by omega) ?_
    rw [← eh3]
    refine ss_nx st2' ?_
    refine ss_cat (a := [.asg (.tup [(.name 13), (.name 14)]) (.tup [(.call i_least_of [0] [(.b1 .tuple (.var 12))]), (.call i_greatest_of [0] [(.b1 .tuple (.var 12))])]),
      .ite (.or (.cmp .notin (.var 13) (.var 12)) (.or (.cmp .notin (.var 14) (.var 12)) (.cmp .ne (.lam i__law_refused (.call i_greatest_of [0] [(.tup [])])) (.tup [(.cst (.str "refused")), (.cst (.str "none"))])))) [.ret (.cst (.bl false))] [],
      .ite (.not (.b1 .all (.comp [20] (.name 20) (.ex (.var 12)) (.cst (.bl true)) (.and (.cmp .le (.bin .mul (.idx (.var 13) (.cst (.int 0))) (.idx (.var 20) (.cst (.int 1)))) (.bin .mul (.idx (.var 20) (.cst (.int 0))) (.idx (.var 13) (.cst (.int 1))))) (.cmp .le (.bin .mul (.idx (.var 20) (.cst (.int 0))) (.idx (.var 14) (.cst (.int 1)))) (.bin .mul (.idx (.var 14) (.cst (.int 0))) (.idx (.var 20) (.cst (.int 1))))))))) [.ret (.cst (.bl false))] []]) (b := [.asg (.name 15) (.b1 .tuple (.comp [20] (.name 20) (.ex (.var 12)) (.cst (.bl true)) (.bin .sub (.call i__law_take [0, 1] [(.var 2), (.cst (.int 9))]) (.cst (.int 4))))),
      .asg (.name 16) (.bin .mul (.idx (.var 15) (.cst (.int 0))) (.idx (.idx (.var 12) (.cst (.int 0))) (.cst (.int 0)))),
      .asg (.name 17) (.idx (.idx (.var 12) (.cst (.int 0))) (.cst (.int 1))),
      .for_ (.name 18) (.range2 (.cst (.int 1)) (.b1 .len (.var 12))) [.asg (.tup [(.name 16), (.name 17)]) (.tup [(.bin .add (.bin .mul (.var 16) (.idx (.idx (.var 12) (.var 18)) (.cst (.int 1)))) (.bin .mul (.bin .mul (.idx (.var 15) (.var 18)) (.idx (.idx (.var 12) (.var 18)) (.cst (.int 0)))) (.var 17))), (.bin .mul (.var 17) (.idx (.idx (.var 12) (.var 18)) (.cst (.int 1))))])],
      .ite (.or (.not (.call i__law_equals [0, 1, 2] [(.call i_weighed [1, 0] [(.b1 .tuple (.var 12)), (.var 15)]), (.var 16), (.var 17)])) (.cmp .ne (.call i_weighed [0, 1] [(.tup []), (.tup [])]) (.tup [(.cst (.int 0)), (.cst (.int 1))]))) [.ret (.cst (.bl false))] [],
      .asg (.name 19) (.call i__law_odd [0, 1] [(.var 2), (.var 3)]),
      .ite (.or (.not (.call i__law_truth [0, 1] [(.call i_is_fraction [0] [(.var 19)]), (.call i__law_is [0] [(.var 19)])])) (.or (.cmp .isnot (.call i_is_fraction [0] [(.var 3)]) (.cst (.bl true))) (.cmp .isnot (.call i_less [0, 1] [(.var 3), (.var 3)]) (.cst (.bl false))))) [.ret (.cst (.bl false))] [],
      .ite (.or (.not (.call i__law_ranges_right [0] [(.var 2)])) (.not (.call i__law_near_right [0] [(.var 2)]))) [.ret (.cst (.bl false))] []]) rfl st13 ?_
    refine ss_nx st16 ?_
    refine ss_cat (a := [.asg (.name 16) (.bin .mul (.idx (.var 15) (.cst (.int 0))) (.idx (.idx (.var 12) (.cst (.int 0))) (.cst (.int 0)))),
      .asg (.name 17) (.idx (.idx (.var 12) (.cst (.int 0))) (.cst (.int 1))),
      .for_ (.name 18) (.range2 (.cst (.int 1)) (.b1 .len (.var 12))) [.asg (.tup [(.name 16), (.name 17)]) (.tup [(.bin .add (.bin .mul (.var 16) (.idx (.idx (.var 12) (.var 18)) (.cst (.int 1)))) (.bin .mul (.bin .mul (.idx (.var 15) (.var 18)) (.idx (.idx (.var 12) (.var 18)) (.cst (.int 0)))) (.var 17))), (.bin .mul (.var 17) (.idx (.idx (.var 12) (.var 18)) (.cst (.int 1))))])],
      .ite (.or (.not (.call i__law_equals [0, 1, 2] [(.call i_weighed [1, 0] [(.b1 .tuple (.var 12)), (.var 15)]), (.var 16), (.var 17)])) (.cmp .ne (.call i_weighed [0, 1] [(.tup []), (.tup [])]) (.tup [(.cst (.int 0)), (.cst (.int 1))]))) [.ret (.cst (.bl false))] []]) (b := [.asg (.name 19) (.call i__law_odd [0, 1] [(.var 2), (.var 3)]),
      .ite (.or (.not (.call i__law_truth [0, 1] [(.call i_is_fraction [0] [(.var 19)]), (.call i__law_is [0] [(.var 19)])])) (.or (.cmp .isnot (.call i_is_fraction [0] [(.var 3)]) (.cst (.bl true))) (.cmp .isnot (.call i_less [0, 1] [(.var 3), (.var 3)]) (.cst (.bl false))))) [.ret (.cst (.bl false))] [],
      .ite (.or (.not (.call i__law_ranges_right [0] [(.var 2)])) (.not (.call i__law_near_right [0] [(.var 2)]))) [.ret (.cst (.bl false))] []]) rfl st17 ?_
    exact st4 _ _ _ _ _ _ _ _ _ _
end
end K03

set_option Elab.async false
set_option linter.all false
set_option maxRecDepth 10000
set_option maxHeartbeats 1000000
namespace K03
open PM
section
variable {s : Val}
theorem turns {l : List Int} {m : Nat} (hm : 6 ≤ m) : ∀ (ks : List Nat) (h : Heap) (s1 : Sl) (ts : List Sl), (∀ k ∈ ks, k < 4) → items? h s = some (l.map .int) → ts.length = 19 →
    ∃ (h' : Heap) (t1 : Sl) (ts' : List Sl), forL (evT (call prog m) (runL prog) (fun _ => .bad) (.name 1)) (evSs (call prog m) (runL prog) (fun _ => .bad) [.asg (.name 2) (.call i__law_box [0, 1] [(.var 0), (.var 1)]),
      .asg (.tup [(.name 3), (.name 4), (.name 5)]) (.tup [(.call i__law_fraction [0] [(.var 2)]), (.call i__law_fraction [0] [(.var 2)]), (.call i__law_fraction [0] [(.var 2)])]),
      .asg (.tup [(.tup [(.name 6), (.name 7)]), (.tup [(.name 8), (.name 9)]), (.name 10)]) (.tup [(.var 3), (.var 4), (.call i__law_pick [0, 1] [(.var 2), (.lst [(.cst (.int 1)), (.bin .sub (.cst (.int 0)) (.cst (.int 1))), (.cst (.int 6)), (.bin .sub (.cst (.int 0)) (.cst (.int 35)))])])]),
      .ite (.or (.not (.call i__law_equals [0, 1, 2] [(.call i_plus [0, 1] [(.var 3), (.var 4)]), (.bin .add (.bin .mul (.var 6) (.var 9)) (.bin .mul (.var 8) (.var 7))), (.bin .mul (.var 7) (.var 9))])) (.not (.call i__law_equals [0, 1, 2] [(.call i_times [0, 1] [(.var 3), (.var 4)]), (.bin .mul (.var 6) (.var 8)), (.bin .mul (.var 7) (.var 9))]))) [.ret (.cst (.bl false))] [],
      .ite (.or (.cmp .ne (.call i_plus [1, 0] [(.var 3), (.var 4)]) (.call i_plus [0, 1] [(.var 3), (.var 4)])) (.cmp .ne (.call i_times [1, 0] [(.var 3), (.var 4)]) (.call i_times [0, 1] [(.var 3), (.var 4)]))) [.ret (.cst (.bl false))] [],
      .ite (.or (.not (.call i__law_equals [0, 1, 2] [(.call i_minus [0, 1] [(.var 3), (.var 4)]), (.bin .sub (.bin .mul (.var 6) (.var 9)) (.bin .mul (.var 8) (.var 7))), (.bin .mul (.var 7) (.var 9))])) (.cmp .ne (.call i_fraction_of [0, 1] [(.bin .mul (.var 6) (.var 10)), (.bin .mul (.var 7) (.var 10))]) (.var 3))) [.ret (.cst (.bl false))] [],
      .ite (.ite (.cmp .ne (.var 9) (.cst (.int 9))) (.not (.call i__law_equals [0, 1, 2] [(.call i_fraction_of [1, 0] [(.bin .sub (.var 9) (.cst (.int 9))), (.var 6)]), (.var 6), (.bin .sub (.var 9) (.cst (.int 9)))])) (.cmp .ne (.call i_fraction_of [0, 1] [(.cst (.int 0)), (.bin .sub (.cst (.int 0)) (.var 9))]) (.tup [(.cst (.int 0)), (.cst (.int 1))]))) [.ret (.cst (.bl false))] [],
      .ite (.or (.not (.call i__law_truth [0, 1] [(.call i_less [0, 1] [(.var 3), (.var 4)]), (.cmp .lt (.bin .mul (.var 6) (.var 9)) (.bin .mul (.var 8) (.var 7)))])) (.not (.call i__law_truth [0, 1] [(.call i_less [1, 0] [(.var 3), (.var 4)]), (.cmp .lt (.bin .mul (.var 8) (.var 7)) (.bin .mul (.var 6) (.var 9)))]))) [.ret (.cst (.bl false))] [],
      .ite (.and (.cmp .ne (.var 8) (.cst (.int 0))) (.or (.not (.call i__law_equals [0, 1, 2] [(.call i_ratio [0, 1] [(.var 3), (.var 4)]), (.bin .mul (.var 6) (.var 9)), (.bin .mul (.var 7) (.var 8))])) (.cmp .ne (.call i_ratio [1, 0] [(.var 4), (.var 3)]) (.call i_ratio [0, 1] [(.var 3), (.var 4)])))) [.ret (.cst (.bl false))] [],
      .asg (.name 11) (.lst [(.lam i__law_refused (.call i_ratio [0, 1] [(.var 3), (.tup [(.cst (.int 0)), (.cst (.int 1))])]))]),
      .ex (.meth .append (.var 11) [(.lam i__law_refused (.call i_fraction_of [0, 1] [(.var 6), (.cst (.int 0))]))]),
      .ite (.or (.cmp .ne (.var 11) (.bin .mul (.lst [(.tup [(.cst (.str "number")), (.cst (.str "zero"))])]) (.cst (.int 2)))) (.cmp .ne (.lam i__law_refused (.call i_least_of [0] [(.tup [])])) (.tup [(.cst (.str "refused")), (.cst (.str "none"))]))) [.ret (.cst (.bl false))] [],
      .asg (.name 12) (.slice (.lst [(.var 3), (.var 4), (.var 5), (.var 3), (.var 4), (.var 5)]) (.cst .non) (.bin .add (.cst (.int 1)) (.call i__law_take [0, 1] [(.var 2), (.cst (.int 6))]))),
      .asg (.tup [(.name 13), (.name 14)]) (.tup [(.call i_least_of [0] [(.b1 .tuple (.var 12))]), (.call i_greatest_of [0] [(.b1 .tuple (.var 12))])]),
      .ite (.or (.cmp .notin (.var 13) (.var 12)) (.or (.cmp .notin (.var 14) (.var 12)) (.cmp .ne (.lam i__law_refused (.call i_greatest_of [0] [(.tup [])])) (.tup [(.cst (.str "refused")), (.cst (.str "none"))])))) [.ret (.cst (.bl false))] [],
      .ite (.not (.b1 .all (.comp [20] (.name 20) (.ex (.var 12)) (.cst (.bl true)) (.and (.cmp .le (.bin .mul (.idx (.var 13) (.cst (.int 0))) (.idx (.var 20) (.cst (.int 1)))) (.bin .mul (.idx (.var 20) (.cst (.int 0))) (.idx (.var 13) (.cst (.int 1))))) (.cmp .le (.bin .mul (.idx (.var 20) (.cst (.int 0))) (.idx (.var 14) (.cst (.int 1)))) (.bin .mul (.idx (.var 14) (.cst (.int 0))) (.idx (.var 20) (.cst (.int 1))))))))) [.ret (.cst (.bl false))] [],
      .asg (.name 15) (.b1 .tuple (.comp [20] (.name 20) (.ex (.var 12)) (.cst (.bl true)) (.bin .sub (.call i__law_take [0, 1] [(.var 2), (.cst (.int 9))]) (.cst (.int 4))))),
      .asg (.name 16) (.bin .mul (.idx (.var 15) (.cst (.int 0))) (.idx (.idx (.var 12) (.cst (.int 0))) (.cst (.int 0)))),
      .asg (.name 17) (.idx (.idx (.var 12) (.cst (.int 0))) (.cst (.int 1))),
      .for_ (.name 18) (.range2 (.cst (.int 1)) (.b1 .len (.var 12))) [.asg (.tup [(.name 16), (.name 17)]) (.tup [(.bin .add (.bin .mul (.var 16) (.idx (.idx (.var 12) (.var 18)) (.cst (.int 1)))) (.bin .mul (.bin .mul (.idx (.var 15) (.var 18)) (.idx (.idx (.var 12) (.var 18)) (.cst (.int 0)))) (.var 17))), (.bin .mul (.var 17) (.idx (.idx (.var 12) (.var 18)) (.cst (.int 1))))])],
      .ite (.or (.not (.call i__law_equals [0, 1, 2] [(.call i_weighed [1, 0] [(.b1 .tuple (.var 12)), (.var 15)]), (.var 16), (.var 17)])) (.cmp .ne (.call i_weighed [0, 1] [(.tup []), (.tup [])]) (.tup [(.cst (.int 0)), (.cst (.int 1))]))) [.ret (.cst (.bl false))] [],
      .asg (.name 19) (.call i__law_odd [0, 1] [(.var 2), (.var 3)]),
      .ite (.or (.not (.call i__law_truth [0, 1] [(.call i_is_fraction [0] [(.var 19)]), (.call i__law_is [0] [(.var 19)])])) (.or (.cmp .isnot (.call i_is_fraction [0] [(.var 3)]) (.cst (.bl true))) (.cmp .isnot (.call i_less [0, 1] [(.var 3), (.var 3)]) (.cst (.bl false))))) [.ret (.cst (.bl false))] [],
      .ite (.or (.not (.call i__law_ranges_right [0] [(.var 2)])) (.not (.call i__law_near_right [0] [(.var 2)]))) [.ret (.cst (.bl false))] []]) [] (ks.map fun k : Nat => Val.int k) (.v s :: s1 :: ts) h = .nx (.v s :: t1 :: ts') h'
  | [], h, s1, ts, _, _, _ => ⟨h, s1, ts, by rw [List.map_nil, for_nil]⟩
  | k :: ks, h, s1, ts, hk, hi, ht => by
    obtain ⟨h1, ts1, i1, l1, e1⟩ := turn (hk k (List.mem_cons_self ..)) hi hm ht
    obtain ⟨h', t1, ts', e2⟩ := turns hm ks h1 (.v (.int k)) ts1 (fun j hj => hk j (List.mem_cons_of_mem _ hj)) i1 l1
    refine ⟨h', t1, ts', ?_⟩
    rw [List.map_cons, forL, if_pos (show holds h [] from fun g hg => by cases hg)]
    have e0 : evT (call prog m) (runL prog) (fun _ => .bad) (.name 1) (.int k) (.v s :: s1 :: ts) h = .ok (.v s :: .v (.int k) :: ts) h := by simp
    rw [e0]
    dsimp only
    rw [e1]
    exact e2
theorem last_one {h : Heap} : Ans prog 5 i_simplest [frV (31, 10), frV (16, 5)] h (.ok (frV (16, 5)) h) := by
  obtain ⟨p, q, sp, e⟩ := z_above (h := h) (K := 2 ^ 30) (by decide) (a := 31) (b := 10) (c := 16) (d := 5) ⟨⟨by decide, by decide⟩, by decide, ⟨by decide, by decide⟩, by decide, by decide, by decide, by decide, by decide⟩ (by decide) (by decide)
  obtain ⟨lo, p0, i1, i2, mn⟩ := sp
  have q0 := lo.1
  obtain ⟨m1, m2⟩ := mn 16 5 (by decide) (by decide) (by decide)
  have : p = 16 ∧ q = 5 := by
    have : q = 1 ∨ q = 2 ∨ q = 3 ∨ q = 4 ∨ q = 5 := by omega
    rcases this with r | r | r | r | r <;> subst r <;> omega
  rw [this.1, this.2] at e
  exact e
theorem law_ok {h : Heap} {l : List Int} (hi : items? h s = some (l.map .int)) {m : Nat} (hm : 6 ≤ m) : ∃ h2, call prog (m + 1) i_law [s] h = .ok (.bl true) h2 := by
  obtain ⟨n, hn, en⟩ : ∃ n : Nat, n ≤ 4 ∧ ∀ ρ : List Sl, evI (call prog m) (runL prog) (fun _ => .bad) (.range1 (.bin .add (.cst (.int 3)) (.b1 .int (.cmp .gt (.b1 .len (.var 0)) (.cst (.int 1)))))) (.v s :: ρ) h = .ok (rangeV 0 n, []) h := by
    have hl := len_items hi
    rw [List.length_map] at hl
    by_cases c : 1 < l.length
    · have c' : (1 : Int) < l.length := by omega
      refine ⟨4, by decide, fun ρ => ?_⟩
      have e1 : trim h (evE (call prog m) (runL prog) (fun _ => .bad) (.bin .add (.cst (.int 3)) (.b1 .int (.cmp .gt (.b1 .len (.var 0)) (.cst (.int 1))))) (.v s :: ρ) h) = .ok (.int 4) h := by simp [hl, c']
      rw [i_range1, e1]
      rfl
    · have c' : ¬ (1 : Int) < l.length := by omega
      refine ⟨3, by decide, fun ρ => ?_⟩
      have e1 : trim h (evE (call prog m) (runL prog) (fun _ => .bad) (.bin .add (.cst (.int 3)) (.b1 .int (.cmp .gt (.b1 .len (.var 0)) (.cst (.int 1))))) (.v s :: ρ) h) = .ok (.int 3) h := by simp [hl, c']
      rw [i_range1, e1]
      rfl
  obtain ⟨h', t1, ts', e⟩ := turns (s := s) (l := l) hm (List.range n) h .no [.no, .no, .no, .no, .no, .no, .no, .no, .no, .no, .no, .no, .no, .no, .no, .no, .no, .no, .no] (fun k hk => by have := List.mem_range.mp hk; omega) hi rfl
  have er : (List.range n).map (fun k : Nat => Val.int k) = rangeV 0 n := by simp [rangeV]
  rw [er] at e
  have g1 := last_one (h := h') m (by omega)
  have g2 := a_isf2 (h := h') 0 2 m (by omega)
  have g3 := a_isf2 (h := h') 0 1 m (by omega)
  rw [show isFr 0 2 = false by decide] at g2
  rw [show isFr 0 1 = true by decide] at g3
  have main : evSs (call prog m) (runL prog) (fun _ => .bad) [.for_ (.name 1) (.range1 (.bin .add (.cst (.int 3)) (.b1 .int (.cmp .gt (.b1 .len (.var 0)) (.cst (.int 1)))))) [.asg (.name 2) (.call i__law_box [0, 1] [(.var 0), (.var 1)]),
      .asg (.tup [(.name 3), (.name 4), (.name 5)]) (.tup [(.call i__law_fraction [0] [(.var 2)]), (.call i__law_fraction [0] [(.var 2)]), (.call i__law_fraction [0] [(.var 2)])]),
      .asg (.tup [(.tup [(.name 6), (.name 7)]), (.tup [(.name 8), (.name 9)]), (.name 10)]) (.tup [(.var 3), (.var 4), (.call i__law_pick [0, 1] [(.var 2), (.lst [(.cst (.int 1)), (.bin .sub (.cst (.int 0)) (.cst (.int 1))), (.cst (.int 6)), (.bin .sub (.cst (.int 0)) (.cst (.int 35)))])])]),
      .ite (.or (.not (.call i__law_equals [0, 1, 2] [(.call i_plus [0, 1] [(.var 3), (.var 4)]), (.bin .add (.bin .mul (.var 6) (.var 9)) (.bin .mul (.var 8) (.var 7))), (.bin .mul (.var 7) (.var 9))])) (.not (.call i__law_equals [0, 1, 2] [(.call i_times [0, 1] [(.var 3), (.var 4)]), (.bin .mul (.var 6) (.var 8)), (.bin .mul (.var 7) (.var 9))]))) [.ret (.cst (.bl false))] [],
      .ite (.or (.cmp .ne (.call i_plus [1, 0] [(.var 3), (.var 4)]) (.call i_plus [0, 1] [(.var 3), (.var 4)])) (.cmp .ne (.call i_times [1, 0] [(.var 3), (.var 4)]) (.call i_times [0, 1] [(.var 3), (.var 4)]))) [.ret (.cst (.bl false))] [],
      .ite (.or (.not (.call i__law_equals [0, 1, 2] [(.call i_minus [0, 1] [(.var 3), (.var 4)]), (.bin .sub (.bin .mul (.var 6) (.var 9)) (.bin .mul (.var 8) (.var 7))), (.bin .mul (.var 7) (.var 9))])) (.cmp .ne (.call i_fraction_of [0, 1] [(.bin .mul (.var 6) (.var 10)), (.bin .mul (.var 7) (.var 10))]) (.var 3))) [.ret (.cst (.bl false))] [],
      .ite (.ite (.cmp .ne (.var 9) (.cst (.int 9))) (.not (.call i__law_equals [0, 1, 2] [(.call i_fraction_of [1, 0] [(.bin .sub (.var 9) (.cst (.int 9))), (.var 6)]), (.var 6), (.bin .sub (.var 9) (.cst (.int 9)))])) (.cmp .ne (.call i_fraction_of [0, 1] [(.cst (.int 0)), (.bin .sub (.cst (.int 0)) (.var 9))]) (.tup [(.cst (.int 0)), (.cst (.int 1))]))) [.ret (.cst (.bl false))] [],
      .ite (.or (.not (.call i__law_truth [0, 1] [(.call i_less [0, 1] [(.var 3), (.var 4)]), (.cmp .lt (.bin .mul (.var 6) (.var 9)) (.bin .mul (.var 8) (.var 7)))])) (.not (.call i__law_truth [0, 1] [(.call i_less [1, 0] [(.var 3), (.var 4)]), (.cmp .lt (.bin .mul (.var 8) (.var 7)) (.bin .mul (.var 6) (.var 9)))]))) [.ret (.cst (.bl false))] [],
      .ite (.and (.cmp .ne (.var 8) (.cst (.int 0))) (.or (.not (.call i__law_equals [0, 1, 2] [(.call i_ratio [0, 1] [(.var 3), (.var 4)]), (.bin .mul (.var 6) (.var 9)), (.bin .mul (.var 7) (.var 8))])) (.cmp .ne (.call i_ratio [1, 0] [(.var 4), (.var 3)]) (.call i_ratio [0, 1] [(.var 3), (.var 4)])))) [.ret (.cst (.bl false))] [],
      .asg (.name 11) (.lst [(.lam i__law_refused (.call i_ratio [0, 1] [(.var 3), (.tup [(.cst (.int 0)), (.cst (.int 1))])]))]),
      .ex (.meth .append (.var 11) [(.lam i__law_refused (.call i_fraction_of [0, 1] [(.var 6), (.cst (.int 0))]))]),
      .ite (.or (.cmp .ne (.var 11) (.bin .mul (.lst [(.tup [(.cst (.str "number")), (.cst (.str "zero"))])]) (.cst (.int 2)))) (.cmp .ne (.lam i__law_refused (.call i_least_of [0] [(.tup [])])) (.tup [(.cst (.str "refused")), (.cst (.str "none"))]))) [.ret (.cst (.bl false))] [],
      .asg (.name 12) (.slice (.lst [(.var 3), (.var 4), (.var 5), (.var 3), (.var 4), (.var 5)]) (.cst .non) (.bin .add (.cst (.int 1)) (.call i__law_take [0, 1] [(.var 2), (.cst (.int 6))]))),
      .asg (.tup [(.name 13), (.name 14)]) (.tup [(.call i_least_of [0] [(.b1 .tuple (.var 12))]), (.call i_greatest_of [0] [(.b1 .tuple (.var 12))])]),
      .ite (.or (.cmp .notin (.var 13) (.var 12)) (.or (.cmp .notin (.var 14) (.var 12)) (.cmp .ne (.lam i__law_refused (.call i_greatest_of [0] [(.tup [])])) (.tup [(.cst (.str "refused")), (.cst (.str "none"))])))) [.ret (.cst (.bl false))] [],
      .ite (.not (.b1 .all (.comp [20] (.name 20) (.ex (.var 12)) (.cst (.bl true)) (.and (.cmp .le (.bin .mul (.idx (.var 13) (.cst (.int 0))) (.idx (.var 20) (.cst (.int 1)))) (.bin .mul (.idx (.var 20) (.cst (.int 0))) (.idx (.var 13) (.cst (.int 1))))) (.cmp .le (.bin .mul (.idx (.var 20) (.cst (.int 0))) (.idx (.var 14) (.cst (.int 1)))) (.bin .mul (.idx (.var 14) (.cst (.int 0))) (.idx (.var 20) (.cst (.int 1))))))))) [.ret (.cst (.bl false))] [],
      .asg (.name 15) (.b1 .tuple (.comp [20] (.name 20) (.ex (.var 12)) (.cst (.bl true)) (.bin .sub (.call i__law_take [0, 1] [(.var 2), (.cst (.int 9))]) (.cst (.int 4))))),
      .asg (.name 16) (.bin .mul (.idx (.var 15) (.cst (.int 0))) (.idx (.idx (.var 12) (.cst (.int 0))) (.cst (.int 0)))),
      .asg (.name 17) (.idx (.idx (.var 12) (.cst (.int 0))) (.cst (.int 1))),
      .for_ (.name 18) (.range2 (.cst (.int 1)) (.b1 .len (.var 12))) [.asg (.tup [(.name 16), (.name 17)]) (.tup [(.bin .add (.bin .mul (.var 16) (.idx (.idx (.var 12) (.var 18)) (.cst (.int 1)))) (.bin .mul (.bin .mul (.idx (.var 15) (.var 18)) (.idx (.idx (.var 12) (.var 18)) (.cst (.int 0)))) (.var 17))), (.bin .mul (.var 17) (.idx (.idx (.var 12) (.var 18)) (.cst (.int 1))))])],
      .ite (.or (.not (.call i__law_equals [0, 1, 2] [(.call i_weighed [1, 0] [(.b1 .tuple (.var 12)), (.var 15)]), (.var 16), (.var 17)])) (.cmp .ne (.call i_weighed [0, 1] [(.tup []), (.tup [])]) (.tup [(.cst (.int 0)), (.cst (.int 1))]))) [.ret (.cst (.bl false))] [],
      .asg (.name 19) (.call i__law_odd [0, 1] [(.var 2), (.var 3)]),
      .ite (.or (.not (.call i__law_truth [0, 1] [(.call i_is_fraction [0] [(.var 19)]), (.call i__law_is [0] [(.var 19)])])) (.or (.cmp .isnot (.call i_is_fraction [0] [(.var 3)]) (.cst (.bl true))) (.cmp .isnot (.call i_less [0, 1] [(.var 3), (.var 3)]) (.cst (.bl false))))) [.ret (.cst (.bl false))] [],
      .ite (.or (.not (.call i__law_ranges_right [0] [(.var 2)])) (.not (.call i__law_near_right [0] [(.var 2)]))) [.ret (.cst (.bl false))] []],
      .ret (.and (.cmp .eq (.call i_simplest [0, 1] [(.tup [(.cst (.int 31)), (.cst (.int 10))]), (.tup [(.cst (.int 16)), (.cst (.int 5))])]) (.tup [(.cst (.int 16)), (.cst (.int 5))])) (.and (.cmp .is_ (.call i_is_fraction [0] [(.tup [(.cst (.int 0)), (.cst (.int 2))])]) (.cst (.bl false))) (.cmp .is_ (.call i_is_fraction [0] [(.tup [(.cst (.int 0)), (.cst (.int 1))])]) (.cst (.bl true)))))] [.v s, .no, .no, .no, .no, .no, .no, .no, .no, .no, .no, .no, .no, .no, .no, .no, .no, .no, .no, .no, .no] h = .rt (.bl true) h' := by
    refine ss_nx (ρ1 := .v s :: t1 :: ts') (h1 := h') (by rw [s_for, en, kFor_ok]; exact e) (ss_rt ?_)
    simp [permute, g1, g2, g3]
  have tk : ∃ k, trim h (.ok (.bl true) h') = .ok (.bl true) k := by
    unfold trim
    dsimp only
    split <;> exact ⟨_, rfl⟩
  obtain ⟨k, tk⟩ := tk
  refine ⟨k, (call_eq (P := prog) (f := i_law) rfl rfl).trans ?_⟩
  show fin h (evSs (call prog m) (runL prog) (fun _ => .bad) [.for_ (.name 1) (.range1 (.bin .add (.cst (.int 3)) (.b1 .int (.cmp .gt (.b1 .len (.var 0)) (.cst (.int 1)))))) [.asg (.name 2) (.call i__law_box [0, 1] [(.var 0), (.var 1)]),
      .asg (.tup [(.name 3), (.name 4), (.name 5)]) (.tup [(.call i__law_fraction [0] [(.var 2)]), (.call i__law_fraction [0] [(.var 2)]), (.call i__law_fraction [0] [(.var 2)])]),
      .asg (.tup [(.tup [(.name 6), (.name 7)]), (.tup [(.name 8), (.name 9)]), (.name 10)]) (.tup [(.var 3), (.var 4), (.call i__law_pick [0, 1] [(.var 2), (.lst [(.cst (.int 1)), (.bin .sub (.cst (.int 0)) (.cst (.int 1))), (.cst (.int 6)), (.bin .sub (.cst (.int 0)) (.cst (.int 35)))])])]),
      .ite (.or (.not (.call i__law_equals [0, 1, 2] [(.call i_plus [0, 1] [(.var 3), (.var 4)]), (.bin .add (.bin .mul (.var 6) (.var 9)) (.bin .mul (.var 8) (.var 7))), (.bin .mul (.var 7) (.var 9))])) (.not (.call i__law_equals [0, 1, 2] [(.call i_times [0, 1] [(.var 3), (.var 4)]), (.bin .mul (.var 6) (.var 8)), (.bin .mul (.var 7) (.var 9))]))) [.ret (.cst (.bl false))] [],
      .ite (.or (.cmp .ne (.call i_plus [1, 0] [(.var 3), (.var 4)]) (.call i_plus [0, 1] [(.var 3), (.var 4)])) (.cmp .ne (.call i_times [1, 0] [(.var 3), (.var 4)]) (.call i_times [0, 1] [(.var 3), (.var 4)]))) [.ret (.cst (.bl false))] [],
      .ite (.or (.not (.call i__law_equals [0, 1, 2] [(.call i_minus [0, 1] [(.var 3), (.var 4)]), (.bin .sub (.bin .mul (.var 6) (.var 9)) (.bin .mul (.var 8) (.var 7))), (.bin .mul (.var 7) (.var 9))])) (.cmp .ne (.call i_fraction_of [0, 1] [(.bin .mul (.var 6) (.var 10)), (.bin .mul (.var 7) (.var 10))]) (.var 3))) [.ret (.cst (.bl false))] [],
      .ite (.ite (.cmp .ne (.var 9) (.cst (.int 9))) (.not (.call i__law_equals [0, 1, 2] [(.call i_fraction_of [1, 0] [(.bin .sub (.var 9) (.cst (.int 9))), (.var 6)]), (.var 6), (.bin .sub (.var 9) (.cst (.int 9)))])) (.cmp .ne (.call i_fraction_of [0, 1] [(.cst (.int 0)), (.bin .sub (.cst (.int 0)) (.var 9))]) (.tup [(.cst (.int 0)), (.cst (.int 1))]))) [.ret (.cst (.bl false))] [],
      .ite (.or (.not (.call i__law_truth [0, 1] [(.call i_less [0, 1] [(.var 3), (.var 4)]), (.cmp .lt (.bin .mul (.var 6) (.var 9)) (.bin .mul (.var 8) (.var 7)))])) (.not (.call i__law_truth [0, 1] [(.call i_less [1, 0] [(.var 3), (.var 4)]), (.cmp .lt (.bin .mul (.var 8) (.var 7)) (.bin .mul (.var 6) (.var 9)))]))) [.ret (.cst (.bl false))] [],
      .ite (.and (.cmp .ne (.var 8) (.cst (.int 0))) (.or (.not (.call i__law_equals [0, 1, 2] [(.call i_ratio [0, 1] [(.var 3), (.var 4)]), (.bin .mul (.var 6) (.var 9)), (.bin .mul (.var 7) (.var 8))])) (.cmp .ne (.call i_ratio [1, 0] [(.var 4), (.var 3)]) (.call i_ratio [0, 1] [(.var 3), (.var 4)])))) [.ret (.cst (.bl false))] [],
      .asg (.name 11) (.lst [(.lam i__law_refused (.call i_ratio [0, 1] [(.var 3), (.tup [(.cst (.int 0)), (.cst (.int 1))])]))]),
      .ex (.meth .append (.var 11) [(.lam i__law_refused (.call i_fraction_of [0, 1] [(.var 6), (.cst (.int 0))]))]),
      .ite (.or (.cmp .ne (.var 11) (.bin .mul (.lst [(.tup [(.cst (.str "number")), (.cst (.str "zero"))])]) (.cst (.int 2)))) (.cmp .ne (.lam i__law_refused (.call i_least_of [0] [(.tup [])])) (.tup [(.cst (.str "refused")), (.cst (.str "none"))]))) [.ret (.cst (.bl false))] [],
      .asg (.name 12) (.slice (.lst [(.var 3), (.var 4), (.var 5), (.var 3), (.var 4), (.var 5)]) (.cst .non) (.bin .add (.cst (.int 1)) (.call i__law_take [0, 1] [(.var 2), (.cst (.int 6))]))),
      .asg (.tup [(.name 13), (.name 14)]) (.tup [(.call i_least_of [0] [(.b1 .tuple (.var 12))]), (.call i_greatest_of [0] [(.b1 .tuple (.var 12))])]),
      .ite (.or (.cmp .notin (.var 13) (.var 12)) (.or (.cmp .notin (.var 14) (.var 12)) (.cmp .ne (.lam i__law_refused (.call i_greatest_of [0] [(.tup [])])) (.tup [(.cst (.str "refused")), (.cst (.str "none"))])))) [.ret (.cst (.bl false))] [],
      .ite (.not (.b1 .all (.comp [20] (.name 20) (.ex (.var 12)) (.cst (.bl true)) (.and (.cmp .le (.bin .mul (.idx (.var 13) (.cst (.int 0))) (.idx (.var 20) (.cst (.int 1)))) (.bin .mul (.idx (.var 20) (.cst (.int 0))) (.idx (.var 13) (.cst (.int 1))))) (.cmp .le (.bin .mul (.idx (.var 20) (.cst (.int 0))) (.idx (.var 14) (.cst (.int 1)))) (.bin .mul (.idx (.var 14) (.cst (.int 0))) (.idx (.var 20) (.cst (.int 1))))))))) [.ret (.cst (.bl false))] [],
      .asg (.name 15) (.b1 .tuple (.comp [20] (.name 20) (.ex (.var 12)) (.cst (.bl true)) (.bin .sub (.call i__law_take [0, 1] [(.var 2), (.cst (.int 9))]) (.cst (.int 4))))),
      .asg (.name 16) (.bin .mul (.idx (.var 15) (.cst (.int 0))) (.idx (.idx (.var 12) (.cst (.int 0))) (.cst (.int 0)))),
      .asg (.name 17) (.idx (.idx (.var 12) (.cst (.int 0))) (.cst (.int 1))),
      .for_ (.name 18) (.range2 (.cst (.int 1)) (.b1 .len (.var 12))) [.asg (.tup [(.name 16), (.name 17)]) (.tup [(.bin .add (.bin .mul (.var 16) (.idx (.idx (.var 12) (.var 18)) (.cst (.int 1)))) (.bin .mul (.bin .mul (.idx (.var 15) (.var 18)) (.idx (.idx (.var 12) (.var 18)) (.cst (.int 0)))) (.var 17))), (.bin .mul (.var 17) (.idx (.idx (.var 12) (.var 18)) (.cst (.int 1))))])],
      .ite (.or (.not (.call i__law_equals [0, 1, 2] [(.call i_weighed [1, 0] [(.b1 .tuple (.var 12)), (.var 15)]), (.var 16), (.var 17)])) (.cmp .ne (.call i_weighed [0, 1] [(.tup []), (.tup [])]) (.tup [(.cst (.int 0)), (.cst (.int 1))]))) [.ret (.cst (.bl false))] [],
      .asg (.name 19) (.call i__law_odd [0, 1] [(.var 2), (.var 3)]),
      .ite (.or (.not (.call i__law_truth [0, 1] [(.call i_is_fraction [0] [(.var 19)]), (.call i__law_is [0] [(.var 19)])])) (.or (.cmp .isnot (.call i_is_fraction [0] [(.var 3)]) (.cst (.bl true))) (.cmp .isnot (.call i_less [0, 1] [(.var 3), (.var 3)]) (.cst (.bl false))))) [.ret (.cst (.bl false))] [],
      .ite (.or (.not (.call i__law_ranges_right [0] [(.var 2)])) (.not (.call i__law_near_right [0] [(.var 2)]))) [.ret (.cst (.bl false))] []],
      .ret (.and (.cmp .eq (.call i_simplest [0, 1] [(.tup [(.cst (.int 31)), (.cst (.int 10))]), (.tup [(.cst (.int 16)), (.cst (.int 5))])]) (.tup [(.cst (.int 16)), (.cst (.int 5))])) (.and (.cmp .is_ (.call i_is_fraction [0] [(.tup [(.cst (.int 0)), (.cst (.int 2))])]) (.cst (.bl false))) (.cmp .is_ (.call i_is_fraction [0] [(.tup [(.cst (.int 0)), (.cst (.int 1))])]) (.cst (.bl true)))))] [.v s, .no, .no, .no, .no, .no, .no, .no, .no, .no, .no, .no, .no, .no, .no, .no, .no, .no, .no, .no, .no] h) = _
  rw [main, fin_rt, tk]
end
end K03

set_option Elab.async false
set_option linter.all false
set_option maxRecDepth 10000
namespace K03
open PM
def depth : Nat := 6
theorem pure : ∀ ns : List Int, ns.length ≤ 63 → (∀ z ∈ ns, PySem.Builtin.Int.intBits z ≤ 1048576) → (∃ h2, PM.call prog (depth + 1) i_law [.scr (ns.map .int)] [] = .ok (.bl true) h2) ∧ (∃ h2, PM.call prog (depth + 1) i_law [.ref 0] [.lst (ns.map .int)] = .ok (.bl true) h2) :=
  fun ns _ _ => ⟨law_ok rfl (by decide), law_ok (l := ns) (by rfl) (by decide)⟩
end K03

set_option Elab.async false
set_option linter.all false
set_option maxRecDepth 100000
set_option maxHeartbeats 0
namespace K03
open PySem PySem.Spec PyProof.Rows L2 PM
abbrev R : PySem.W.OpenRow := PySem.W.OpenLaw.row PySem.Challenge.rw_rowalone_k03_whole_simplest_fractions
def top (i : Nat) : Stmt := PySem.Challenge.pw_rowalone_k03_whole_simplest_fractions.main.body.getD i (.Pass ⟨0, 0, 0, 0⟩)
def mk (n : Str) (i : Nat) (ps N : List Str) (c : Fn) (lam : Bool) (act : Option Str) : DefE := ⟨⟨(n, none), n, n, defArgs (top i), defBody (top i), defScope (top i), [], []⟩, ps, N, c, lam, act⟩
def e_is_integer : DefE := mk "is_integer" 5 ["value"] ["value"] c_is_integer false none
def e_divisor_of : DefE := mk "divisor_of" 9 ["one", "other"] ["one", "other"] c_divisor_of false none
def e_fraction_of : DefE := mk "fraction_of" 10 ["top", "bottom"] ["top", "bottom", "factor"] (c_fraction_of x_InvalidNumber i_divisor_of) false none
def e_is_fraction : DefE := mk "is_fraction" 11 ["value"] ["value", "item"] (c_is_fraction i_is_integer i_divisor_of) false none
def e_plus : DefE := mk "plus" 12 ["one", "other"] ["one", "other"] (c_plus i_fraction_of) false none
def e_minus : DefE := mk "minus" 13 ["one", "other"] ["one", "other"] (c_minus i_fraction_of) false none
def e_times : DefE := mk "times" 14 ["one", "other"] ["one", "other"] (c_times i_fraction_of) false none
def e_ratio : DefE := mk "ratio" 15 ["one", "other"] ["one", "other"] (c_ratio i_fraction_of) false none
def e_less : DefE := mk "less" 16 ["one", "other"] ["one", "other"] c_less false none
def e_least_of : DefE := mk "least_of" 17 ["some"] ["some", "best", "item"] (c_least_of x_Refused i_less) false none
def e_greatest_of : DefE := mk "greatest_of" 18 ["some"] ["some", "best", "item"] (c_greatest_of x_Refused i_less) false none
def e_floor_of : DefE := mk "floor_of" 19 ["value"] ["value"] c_floor_of false none
def e_simplest_above : DefE := mk "simplest_above" 20 ["low", "high"] ["low", "high", "wholes", "whole", "found"] (c_simplest_above i_floor_of i_minus i_ratio i_plus) false none
def e_simplest : DefE := mk "simplest" 21 ["low", "high"] ["low", "high", "found"] (c_simplest i_less x_Refused i_simplest_above) false none
def e_weighed : DefE := mk "weighed" 22 ["coefficients", "point"] ["coefficients", "point", "total", "amount", "part"] (c_weighed i_plus) false none
def e__law_box : DefE := mk "_law_box" 24 ["_law_script", "_law_k"] ["_law_script", "_law_k", "_law_cell", "_law_great"] c__law_box false none
def e__law_take : DefE := mk "_law_take" 25 ["_law_box_here", "_law_many"] ["_law_box_here", "_law_many", "_law_digit", "_law_raw"] c__law_take false none
def e__law_pick : DefE := mk "_law_pick" 26 ["_law_box_here", "_law_some"] ["_law_box_here", "_law_some"] (c__law_pick i__law_take) false none
def e__law_common : DefE := mk "_law_common" 28 ["_law_numbers"] ["_law_numbers", "_law_found", "_law_item", "_law_one", "_law_other"] c__law_common false none
def e__law_least : DefE := mk "_law_least" 29 ["_law_coefficients", "_law_bound"] ["_law_coefficients", "_law_bound", "_law_factor", "_law_item"] (c__law_least i__law_common) false none
def e__law_fraction : DefE := mk "_law_fraction" 30 ["_law_box_here"] ["_law_box_here", "_law_most", "_law_row"] (c__law_fraction i__law_pick i__law_take i__law_least) false none
def e__law_is : DefE := mk "_law_is" 31 ["_law_value"] ["_law_value", "_law_item"] (c__law_is i__law_common) false none
def e__law_truth : DefE := mk "_law_truth" 32 ["_law_value", "_law_due"] ["_law_value", "_law_due"] c__law_truth false none
def e__law_equals : DefE := mk "_law_equals" 33 ["_law_value", "_law_top", "_law_bottom"] ["_law_value", "_law_top", "_law_bottom"] (c__law_equals i__law_is) false none
def e__law_refused : DefE := mk "_law_refused" 34 ["_law_action"] ["_law_action", "error"] (c__law_refused x_InvalidNumber x_Refused) false (some "_law_action")
def e__law_way : DefE := mk "_law_way" 35 ["_law_box_here"] ["_law_box_here", "_law_left", "_law_right", "_law_some", "_law_k", "_law_run"] (c__law_way i__law_take) false none
def e__law_end : DefE := mk "_law_end" 36 ["_law_box_here", "_law_middle", "_law_side"] ["_law_box_here", "_law_middle", "_law_side", "_law_share", "_law_other", "_law_row"] (c__law_end i__law_take i__law_least) false none
def e__law_turn : DefE := mk "_law_turn" 37 ["_law_end_here"] ["_law_end_here"] c__law_turn false none
def e__law_none_less : DefE := mk "_law_none_less" 38 ["_law_found", "_law_low", "_law_high"] ["_law_found", "_law_low", "_law_high", "_law_bottom", "_law_first", "_law_top", "_law_last"] c__law_none_less false none
def e__law_ranges_right : DefE := mk "_law_ranges_right" 39 ["_law_box_here"] ["_law_box_here", "_law_found", "_law_left", "_law_right", "_law_low", "_law_high", "_law_over", "_law_wrong", "_law_item"] (c__law_ranges_right i__law_way i__law_end i__law_take i__law_turn i_simplest i__law_none_less i__law_refused) true none
def e__law_odd : DefE := mk "_law_odd" 40 ["_law_box_here", "_law_one"] ["_law_box_here", "_law_one", "_law_top", "_law_bottom", "_law_some"] (c__law_odd i__law_pick) false none
def e__law_near_right : DefE := mk "_law_near_right" 41 ["_law_box_here"] ["_law_box_here", "_law_many", "_law_below", "_law_near", "_law_far"] (c__law_near_right i__law_take i__law_turn i_less i_greatest_of i_least_of) false none
def e_law : DefE := mk "law" 42 ["_law_script"] ["_law_script", "_law_k", "_law_box_here", "_law_one", "_law_other", "_law_third", "_law_a", "_law_b", "_law_c", "_law_d", "_law_factor", "_law_wrong", "_law_some", "_law_low", "_law_high", "_law_amounts", "_law_top", "_law_bottom", "_law_at", "_law_odd_here", "_law_item"] (c_law i__law_box i__law_fraction i__law_pick i_times i__law_equals i_plus i_fraction_of i_minus i_less i__law_truth i_ratio i__law_refused i_least_of i__law_take i_greatest_of i_weighed i__law_odd i_is_fraction i__law_is i__law_near_right i__law_ranges_right i_simplest) true none
def es0 : List DefE := [e_is_integer, e_divisor_of, e_fraction_of, e_is_fraction, e_plus, e_minus, e_times, e_ratio, e_less, e_least_of, e_greatest_of, e_floor_of, e_simplest_above, e_simplest, e_weighed, e__law_box, e__law_take, e__law_pick, e__law_common, e__law_least]
def es1 : List DefE := [e__law_fraction, e__law_is, e__law_truth, e__law_equals, e__law_refused, e__law_way, e__law_end, e__law_turn, e__law_none_less, e__law_ranges_right, e__law_odd, e__law_near_right, e_law]
def es : List DefE := es0 ++ es1
def pats0 : List (Nat × Nat × List Str × List Nat) := [(1, 2, [], [0, 1]), (0, 1, [], [0]), (2, 2, [], [0, 1]), (8, 2, [], [0, 1]), (11, 1, [], [0]), (5, 2, [], [0, 1]), (7, 2, [], [0, 1]), (4, 2, [], [0, 1]), (12, 2, [], [0, 1]), (16, 2, [], [0, 1]), (18, 1, [], [0]), (17, 2, [], [0, 1]), (19, 2, [], [0, 1]), (21, 1, [], [0]), (25, 1, [], [0]), (26, 3, [], [0, 1, 2]), (27, 1, [], [0]), (13, 2, [], [0, 1]), (28, 3, [], [0, 1, 2]), (13, 0, ["low", "high"], [0, 1])]
def pats1 : List (Nat × Nat × List Str × List Nat) := [(13, 1, ["high"], [0, 1]), (10, 1, [], [0]), (9, 1, [], [0]), (15, 2, [], [0, 1]), (20, 1, [], [0]), (6, 2, [], [0, 1]), (23, 3, [], [0, 1, 2]), (6, 0, ["other", "one"], [1, 0]), (4, 0, ["other", "one"], [1, 0]), (5, 0, ["one", "other"], [0, 1]), (2, 0, ["bottom", "top"], [1, 0]), (8, 0, ["other", "one"], [1, 0]), (22, 2, [], [0, 1]), (7, 0, ["other", "one"], [1, 0]), (9, 0, ["some"], [0]), (10, 0, ["some"], [0]), (14, 2, [], [0, 1]), (14, 0, ["point", "coefficients"], [1, 0]), (30, 2, [], [0, 1]), (3, 0, ["value"], [0])]
def pats2 : List (Nat × Nat × List Str × List Nat) := [(3, 1, [], [0]), (31, 1, [], [0]), (29, 1, [], [0])]
def pats : List (Nat × Nat × List Str × List Nat) := pats0 ++ pats1 ++ pats2
def frees : List Str := ["isinstance", "bool", "int", "abs", "super", "all", "len", "tuple", "zip", "list", "range", "min"]
def cons : List (Str × Val) := [("ONE", (.tup [(.int 1), (.int 1)])), ("ZERO", (.tup [(.int 0), (.int 1)]))]
def exs : List (Str × Str) := [("InvalidNumber", "word"), ("Refused", "word")]
def cat : List (Str × List Nat) := [("InvalidNumber", [0]), ("Refused", [1])]
def g : Gb := ⟨es.map fun e => FnE.mk e.d.name e.ps, pats, frees, cons, exs, cat, [24], fun _ _ _ _ _ => True⟩
theorem k_is_integer : EOk (fullG g es) e_is_integer := ⟨rfl, rfl, rfl, rfl, by kernel_rfl, by kernel_rfl, rfl, rfl⟩
theorem k_divisor_of : EOk (fullG g es) e_divisor_of := ⟨rfl, rfl, rfl, rfl, by kernel_rfl, by kernel_rfl, rfl, rfl⟩
theorem k_fraction_of : EOk (fullG g es) e_fraction_of := ⟨rfl, rfl, rfl, rfl, by kernel_rfl, by kernel_rfl, rfl, rfl⟩
theorem k_is_fraction : EOk (fullG g es) e_is_fraction := ⟨rfl, rfl, rfl, rfl, by kernel_rfl, by kernel_rfl, rfl, rfl⟩
theorem k_plus : EOk (fullG g es) e_plus := ⟨rfl, rfl, rfl, rfl, by kernel_rfl, by kernel_rfl, rfl, rfl⟩
theorem k_minus : EOk (fullG g es) e_minus := ⟨rfl, rfl, rfl, rfl, by kernel_rfl, by kernel_rfl, rfl, rfl⟩
theorem k_times : EOk (fullG g es) e_times := ⟨rfl, rfl, rfl, rfl, by kernel_rfl, by kernel_rfl, rfl, rfl⟩
theorem k_ratio : EOk (fullG g es) e_ratio := ⟨rfl, rfl, rfl, rfl, by kernel_rfl, by kernel_rfl, rfl, rfl⟩
theorem k_less : EOk (fullG g es) e_less := ⟨rfl, rfl, rfl, rfl, by kernel_rfl, by kernel_rfl, rfl, rfl⟩
theorem k_least_of : EOk (fullG g es) e_least_of := ⟨rfl, rfl, rfl, rfl, by kernel_rfl, by kernel_rfl, rfl, rfl⟩
theorem k_greatest_of : EOk (fullG g es) e_greatest_of := ⟨rfl, rfl, rfl, rfl, by kernel_rfl, by kernel_rfl, rfl, rfl⟩
theorem k_floor_of : EOk (fullG g es) e_floor_of := ⟨rfl, rfl, rfl, rfl, by kernel_rfl, by kernel_rfl, rfl, rfl⟩
theorem k_simplest_above : EOk (fullG g es) e_simplest_above := ⟨rfl, rfl, rfl, rfl, by kernel_rfl, by kernel_rfl, rfl, rfl⟩
theorem k_simplest : EOk (fullG g es) e_simplest := ⟨rfl, rfl, rfl, rfl, by kernel_rfl, by kernel_rfl, rfl, rfl⟩
theorem k_weighed : EOk (fullG g es) e_weighed := ⟨rfl, rfl, rfl, rfl, by kernel_rfl, by kernel_rfl, rfl, rfl⟩
theorem k__law_box : EOk (fullG g es) e__law_box := ⟨rfl, rfl, rfl, rfl, by kernel_rfl, by kernel_rfl, rfl, rfl⟩
theorem k__law_take : EOk (fullG g es) e__law_take := ⟨rfl, rfl, rfl, rfl, by kernel_rfl, by kernel_rfl, rfl, rfl⟩
theorem k__law_pick : EOk (fullG g es) e__law_pick := ⟨rfl, rfl, rfl, rfl, by kernel_rfl, by kernel_rfl, rfl, rfl⟩
theorem k__law_common : EOk (fullG g es) e__law_common := ⟨rfl, rfl, rfl, rfl, by kernel_rfl, by kernel_rfl, rfl, rfl⟩
theorem k__law_least : EOk (fullG g es) e__law_least := ⟨rfl, rfl, rfl, rfl, by kernel_rfl, by kernel_rfl, rfl, rfl⟩
theorem k__law_fraction : EOk (fullG g es) e__law_fraction := ⟨rfl, rfl, rfl, rfl, by kernel_rfl, by kernel_rfl, rfl, rfl⟩
theorem k__law_is : EOk (fullG g es) e__law_is := ⟨rfl, rfl, rfl, rfl, by kernel_rfl, by kernel_rfl, rfl, rfl⟩
theorem k__law_truth : EOk (fullG g es) e__law_truth := ⟨rfl, rfl, rfl, rfl, by kernel_rfl, by kernel_rfl, rfl, rfl⟩
theorem k__law_equals : EOk (fullG g es) e__law_equals := ⟨rfl, rfl, rfl, rfl, by kernel_rfl, by kernel_rfl, rfl, rfl⟩
theorem k__law_refused : EOk (fullG g es) e__law_refused := ⟨rfl, rfl, rfl, rfl, by kernel_rfl, by kernel_rfl, rfl, rfl⟩
theorem k__law_way : EOk (fullG g es) e__law_way := ⟨rfl, rfl, rfl, rfl, by kernel_rfl, by kernel_rfl, rfl, rfl⟩
theorem k__law_end : EOk (fullG g es) e__law_end := ⟨rfl, rfl, rfl, rfl, by kernel_rfl, by kernel_rfl, rfl, rfl⟩
theorem k__law_turn : EOk (fullG g es) e__law_turn := ⟨rfl, rfl, rfl, rfl, by kernel_rfl, by kernel_rfl, rfl, rfl⟩
theorem k__law_none_less : EOk (fullG g es) e__law_none_less := ⟨rfl, rfl, rfl, rfl, by kernel_rfl, by kernel_rfl, rfl, rfl⟩
theorem k__law_ranges_right : EOk (fullG g es) e__law_ranges_right := ⟨rfl, rfl, rfl, rfl, by kernel_rfl, by kernel_rfl, rfl, rfl⟩
theorem k__law_odd : EOk (fullG g es) e__law_odd := ⟨rfl, rfl, rfl, rfl, by kernel_rfl, by kernel_rfl, rfl, rfl⟩
theorem k__law_near_right : EOk (fullG g es) e__law_near_right := ⟨rfl, rfl, rfl, rfl, by kernel_rfl, by kernel_rfl, rfl, rfl⟩
theorem k_law : EOk (fullG g es) e_law := ⟨rfl, rfl, rfl, rfl, by kernel_rfl, by kernel_rfl, rfl, rfl⟩
theorem oks : PM.AllP (EOk (fullG g es)) es := ⟨k_is_integer, k_divisor_of, k_fraction_of, k_is_fraction, k_plus, k_minus, k_times, k_ratio, k_less, k_least_of, k_greatest_of, k_floor_of, k_simplest_above, k_simplest, k_weighed, k__law_box, k__law_take, k__law_pick, k__law_common, k__law_least, k__law_fraction, k__law_is, k__law_truth, k__law_equals, k__law_refused, k__law_way, k__law_end, k__law_turn, k__law_none_less, k__law_ranges_right, k__law_odd, k__law_near_right, k_law, True.intro⟩
theorem b_0 : BindP e_divisor_of 2 [] [0, 1] := fun _ _ _ _ _ _ us ws h1 h2 => match us, ws, h1, h2 with | [a0, a1], [], _, _ => rfl
theorem b_1 : BindP e_is_integer 1 [] [0] := fun _ _ _ _ _ _ us ws h1 h2 => match us, ws, h1, h2 with | [a0], [], _, _ => rfl
theorem b_2 : BindP e_fraction_of 2 [] [0, 1] := fun _ _ _ _ _ _ us ws h1 h2 => match us, ws, h1, h2 with | [a0, a1], [], _, _ => rfl
theorem b_3 : BindP e_less 2 [] [0, 1] := fun _ _ _ _ _ _ us ws h1 h2 => match us, ws, h1, h2 with | [a0, a1], [], _, _ => rfl
theorem b_4 : BindP e_floor_of 1 [] [0] := fun _ _ _ _ _ _ us ws h1 h2 => match us, ws, h1, h2 with | [a0], [], _, _ => rfl
theorem b_5 : BindP e_minus 2 [] [0, 1] := fun _ _ _ _ _ _ us ws h1 h2 => match us, ws, h1, h2 with | [a0, a1], [], _, _ => rfl
theorem b_6 : BindP e_ratio 2 [] [0, 1] := fun _ _ _ _ _ _ us ws h1 h2 => match us, ws, h1, h2 with | [a0, a1], [], _, _ => rfl
theorem b_7 : BindP e_plus 2 [] [0, 1] := fun _ _ _ _ _ _ us ws h1 h2 => match us, ws, h1, h2 with | [a0, a1], [], _, _ => rfl
theorem b_8 : BindP e_simplest_above 2 [] [0, 1] := fun _ _ _ _ _ _ us ws h1 h2 => match us, ws, h1, h2 with | [a0, a1], [], _, _ => rfl
theorem b_9 : BindP e__law_take 2 [] [0, 1] := fun _ _ _ _ _ _ us ws h1 h2 => match us, ws, h1, h2 with | [a0, a1], [], _, _ => rfl
theorem b_10 : BindP e__law_common 1 [] [0] := fun _ _ _ _ _ _ us ws h1 h2 => match us, ws, h1, h2 with | [a0], [], _, _ => rfl
theorem b_11 : BindP e__law_pick 2 [] [0, 1] := fun _ _ _ _ _ _ us ws h1 h2 => match us, ws, h1, h2 with | [a0, a1], [], _, _ => rfl
theorem b_12 : BindP e__law_least 2 [] [0, 1] := fun _ _ _ _ _ _ us ws h1 h2 => match us, ws, h1, h2 with | [a0, a1], [], _, _ => rfl
theorem b_13 : BindP e__law_is 1 [] [0] := fun _ _ _ _ _ _ us ws h1 h2 => match us, ws, h1, h2 with | [a0], [], _, _ => rfl
theorem b_14 : BindP e__law_way 1 [] [0] := fun _ _ _ _ _ _ us ws h1 h2 => match us, ws, h1, h2 with | [a0], [], _, _ => rfl
theorem b_15 : BindP e__law_end 3 [] [0, 1, 2] := fun _ _ _ _ _ _ us ws h1 h2 => match us, ws, h1, h2 with | [a0, a1, a2], [], _, _ => rfl
theorem b_16 : BindP e__law_turn 1 [] [0] := fun _ _ _ _ _ _ us ws h1 h2 => match us, ws, h1, h2 with | [a0], [], _, _ => rfl
theorem b_17 : BindP e_simplest 2 [] [0, 1] := fun _ _ _ _ _ _ us ws h1 h2 => match us, ws, h1, h2 with | [a0, a1], [], _, _ => rfl
theorem b_18 : BindP e__law_none_less 3 [] [0, 1, 2] := fun _ _ _ _ _ _ us ws h1 h2 => match us, ws, h1, h2 with | [a0, a1, a2], [], _, _ => rfl
theorem b_19 : BindP e_simplest 0 ["low", "high"] [0, 1] := fun _ _ _ _ _ _ us ws h1 h2 => match us, ws, h1, h2 with | [], [b0, b1], _, _ => rfl
theorem b_20 : BindP e_simplest 1 ["high"] [0, 1] := fun _ _ _ _ _ _ us ws h1 h2 => match us, ws, h1, h2 with | [a0], [b0], _, _ => rfl
theorem b_21 : BindP e_greatest_of 1 [] [0] := fun _ _ _ _ _ _ us ws h1 h2 => match us, ws, h1, h2 with | [a0], [], _, _ => rfl
theorem b_22 : BindP e_least_of 1 [] [0] := fun _ _ _ _ _ _ us ws h1 h2 => match us, ws, h1, h2 with | [a0], [], _, _ => rfl
theorem b_23 : BindP e__law_box 2 [] [0, 1] := fun _ _ _ _ _ _ us ws h1 h2 => match us, ws, h1, h2 with | [a0, a1], [], _, _ => rfl
theorem b_24 : BindP e__law_fraction 1 [] [0] := fun _ _ _ _ _ _ us ws h1 h2 => match us, ws, h1, h2 with | [a0], [], _, _ => rfl
theorem b_25 : BindP e_times 2 [] [0, 1] := fun _ _ _ _ _ _ us ws h1 h2 => match us, ws, h1, h2 with | [a0, a1], [], _, _ => rfl
theorem b_26 : BindP e__law_equals 3 [] [0, 1, 2] := fun _ _ _ _ _ _ us ws h1 h2 => match us, ws, h1, h2 with | [a0, a1, a2], [], _, _ => rfl
theorem b_27 : BindP e_times 0 ["other", "one"] [1, 0] := fun _ _ _ _ _ _ us ws h1 h2 => match us, ws, h1, h2 with | [], [b0, b1], _, _ => rfl
theorem b_28 : BindP e_plus 0 ["other", "one"] [1, 0] := fun _ _ _ _ _ _ us ws h1 h2 => match us, ws, h1, h2 with | [], [b0, b1], _, _ => rfl
theorem b_29 : BindP e_minus 0 ["one", "other"] [0, 1] := fun _ _ _ _ _ _ us ws h1 h2 => match us, ws, h1, h2 with | [], [b0, b1], _, _ => rfl
theorem b_30 : BindP e_fraction_of 0 ["bottom", "top"] [1, 0] := fun _ _ _ _ _ _ us ws h1 h2 => match us, ws, h1, h2 with | [], [b0, b1], _, _ => rfl
theorem b_31 : BindP e_less 0 ["other", "one"] [1, 0] := fun _ _ _ _ _ _ us ws h1 h2 => match us, ws, h1, h2 with | [], [b0, b1], _, _ => rfl
theorem b_32 : BindP e__law_truth 2 [] [0, 1] := fun _ _ _ _ _ _ us ws h1 h2 => match us, ws, h1, h2 with | [a0, a1], [], _, _ => rfl
theorem b_33 : BindP e_ratio 0 ["other", "one"] [1, 0] := fun _ _ _ _ _ _ us ws h1 h2 => match us, ws, h1, h2 with | [], [b0, b1], _, _ => rfl
theorem b_34 : BindP e_least_of 0 ["some"] [0] := fun _ _ _ _ _ _ us ws h1 h2 => match us, ws, h1, h2 with | [], [b0], _, _ => rfl
theorem b_35 : BindP e_greatest_of 0 ["some"] [0] := fun _ _ _ _ _ _ us ws h1 h2 => match us, ws, h1, h2 with | [], [b0], _, _ => rfl
theorem b_36 : BindP e_weighed 2 [] [0, 1] := fun _ _ _ _ _ _ us ws h1 h2 => match us, ws, h1, h2 with | [a0, a1], [], _, _ => rfl
theorem b_37 : BindP e_weighed 0 ["point", "coefficients"] [1, 0] := fun _ _ _ _ _ _ us ws h1 h2 => match us, ws, h1, h2 with | [], [b0, b1], _, _ => rfl
theorem b_38 : BindP e__law_odd 2 [] [0, 1] := fun _ _ _ _ _ _ us ws h1 h2 => match us, ws, h1, h2 with | [a0, a1], [], _, _ => rfl
theorem b_39 : BindP e_is_fraction 0 ["value"] [0] := fun _ _ _ _ _ _ us ws h1 h2 => match us, ws, h1, h2 with | [], [b0], _, _ => rfl
theorem b_40 : BindP e_is_fraction 1 [] [0] := fun _ _ _ _ _ _ us ws h1 h2 => match us, ws, h1, h2 with | [a0], [], _, _ => rfl
theorem b_41 : BindP e__law_near_right 1 [] [0] := fun _ _ _ _ _ _ us ws h1 h2 => match us, ws, h1, h2 with | [a0], [], _, _ => rfl
theorem b_42 : BindP e__law_ranges_right 1 [] [0] := fun _ _ _ _ _ _ us ws h1 h2 => match us, ws, h1, h2 with | [a0], [], _, _ => rfl
theorem bnd : PM.AllP (fun q : Nat × Nat × List Str × List Nat => ∀ e : DefE, es[q.1]? = some e → BindP e q.2.1 q.2.2.1 q.2.2.2) pats := ⟨(fun e h => by cases h; exact b_0), (fun e h => by cases h; exact b_1), (fun e h => by cases h; exact b_2), (fun e h => by cases h; exact b_3), (fun e h => by cases h; exact b_4), (fun e h => by cases h; exact b_5), (fun e h => by cases h; exact b_6), (fun e h => by cases h; exact b_7), (fun e h => by cases h; exact b_8), (fun e h => by cases h; exact b_9), (fun e h => by cases h; exact b_10), (fun e h => by cases h; exact b_11), (fun e h => by cases h; exact b_12), (fun e h => by cases h; exact b_13), (fun e h => by cases h; exact b_14), (fun e h => by cases h; exact b_15), (fun e h => by cases h; exact b_16), (fun e h => by cases h; exact b_17), (fun e h => by cases h; exact b_18), (fun e h => by cases h; exact b_19), (fun e h => by cases h; exact b_20), (fun e h => by cases h; exact b_21), (fun e h => by cases h; exact b_22), (fun e h => by cases h; exact b_23), (fun e h => by cases h; exact b_24), (fun e h => by cases h; exact b_25), (fun e h => by cases h; exact b_26), (fun e h => by cases h; exact b_27), (fun e h => by cases h; exact b_28), (fun e h => by cases h; exact b_29), (fun e h => by cases h; exact b_30), (fun e h => by cases h; exact b_31), (fun e h => by cases h; exact b_32), (fun e h => by cases h; exact b_33), (fun e h => by cases h; exact b_34), (fun e h => by cases h; exact b_35), (fun e h => by cases h; exact b_36), (fun e h => by cases h; exact b_37), (fun e h => by cases h; exact b_38), (fun e h => by cases h; exact b_39), (fun e h => by cases h; exact b_40), (fun e h => by cases h; exact b_41), (fun e h => by cases h; exact b_42), True.intro⟩
theorem cal_24 : CalOk g es 24 := ⟨e__law_refused, "_law_action", rfl, rfl, rfl, .inl rfl, by decide, fun _ _ _ _ _ _ us h => match us, h with | [_], _ => rfl, by kernel_rfl⟩
theorem cal : ∀ i ∈ g.lams, CalOk g es i := fun i h => by
  simp only [g, List.mem_cons, List.not_mem_nil, or_false] at h
  rcases h with rfl
  exact cal_24
def loose0 : List Str := ["RowError", "InvalidNumber", "Refused", "is_integer", "ZERO", "ONE", "divisor_of", "fraction_of", "is_fraction", "plus", "minus", "times", "ratio", "less", "least_of", "greatest_of", "floor_of", "simplest_above", "simplest", "weighed"]
def loose1 : List Str := ["_law_box", "_law_take", "_law_pick", "_law_names", "_law_common", "_law_least", "_law_fraction", "_law_is", "_law_truth", "_law_equals", "_law_refused", "_law_way", "_law_end", "_law_turn", "_law_none_less", "_law_ranges_right", "_law_odd", "_law_near_right"]
def loose : List Str := loose0 ++ loose1
abbrev hk : PySem.W.Hook := PM.hookY 6 (es.map (·.d)) (tfOf es) (topB PySem.Challenge.rw_rowalone_k03_whole_simplest_fractions.prog g es)
def ob (s : PySem.W.SharedT) : He.AlX := PM.obsY 6 (es.map (·.d)) (tfOf es) (topB PySem.Challenge.rw_rowalone_k03_whole_simplest_fractions.prog g es) (HandSHeadRun.getT s)
theorem ob_eq (s : PySem.W.SharedT) : ob s = hk.obs s.abs := PM.obsY_eq (HandSHeadRun.getT_eq s)
theorem run (w : World) : HandSHeadRun.RunEq R (PySem.W.view R.prog [42]) hk ob 9000 loose w := by
  intro os
  kernel_rfl
theorem b_law : BindN e_law := fun _ _ _ _ _ _ us h => match us, h with | [_], _ => rfl
end K03

set_option Elab.async false
set_option linter.all false
set_option maxRecDepth 100000
set_option maxHeartbeats 0

open PySem PySem.W PySem.Calls PyProof.Rows in
theorem PySem.Challenge.cw_rowalone_k03_whole_simplest_fractions_holds : PySem.Challenge.rw_rowalone_k03_whole_simplest_fractions.Holds := by
  w_on; o_law
  refine HandSHeadRun.head_any (r := OpenLaw.row PySem.Challenge.rw_rowalone_k03_whole_simplest_fractions) (q := view (OpenLaw.row PySem.Challenge.rw_rowalone_k03_whole_simplest_fractions).prog [42]) (H := K03.hk) (ob := K03.ob) (M := 9000) (loose := K03.loose) (d := HandSHeadRun.topDef (OpenLaw.row PySem.Challenge.rw_rowalone_k03_whole_simplest_fractions).prog 42) (kwd := []) K03.ob_eq
    (by kernel_rfl) (fun s => by kernel_rfl) K03.run (by kernel_rfl) (by kernel_rfl) (by kernel_rfl) (by rfl) (by first | assumption | decide +kernel) (by decide +kernel) ⟨rfl, rfl, rfl, rfl, rfl, by decide +kernel⟩ ?hw ?hc
  case hw => w_witness2
  case hc =>
    refine LamX.walk_ofTsE (l := PySem.Challenge.rw_rowalone_k03_whole_simplest_fractions) (n := 63) (k := 3 * (K03.depth + 1)) (x := "_law_script") (CX := fun w => L2.CX (PySem.Challenge.rw_rowalone_k03_whole_simplest_fractions).prog w) rfl (by decide) (by kernel_rfl) ⟨rfl, by decide, by decide⟩ ?F (fun _ _ _ _ _ z => PM.cx_none z)
    intro w mg fa h Y G hmg0
    obtain ⟨K, KX, says⟩ := Y
    have hmg : mg ("law" : PySem.Str) = some (.ref fa) := by
      have e : (HandSHeadRun.topDef (OpenLaw.row PySem.Challenge.rw_rowalone_k03_whole_simplest_fractions).prog 42).name = ("law" : PySem.Str) := by kernel_rfl
      rw [← e]
      exact hmg0
    exact ⟨K, KX, PM.law_at K03.i_law K03.depth 63 K03.e_law "_law_script" KX G rfl K03.oks K03.cal K03.bnd says rfl rfl K03.b_law hmg K03.pure⟩

