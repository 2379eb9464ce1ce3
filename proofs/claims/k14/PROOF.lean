import PyProof.Rows.All
import Wide.All
import OpenK.AllK
import Wide.FinOn
import HandS.ForMost
import HandS.Exc
import HandS.ExcOwn
import PyProof.ReprReads
import HandS.Flow
import HandS.IsInst
import HandS.SortInts
import HandS.TupAny
import HandS.TupMul
import KE.KTupSum
import HandS.CallSlots
import HandS.Zip
import KE.GoesMore
import KE.GoesEnum
import HandS.Style
import HandS.Small
import HandS.ExcIs
import HandS.ExcField
import HandS.ExcInit
import KE.KExcSuper
import KE.KExcIs
import HandS.Deep
import HandS.WideBits
import HandS.Ends
import PyProof.ExcClass
import PyProof.Rows.RegFStrParts
import PyProof.FitsInt
import KE.OsRunLaw
import KE.KPar
import PySem.Challenge.RW_countermarch_k14_whole_costs_of_any_sche
section
set_option Elab.async false
set_option linter.all false
/-! A small language over plain values: what the programs' and the laws' texts do, as total functions. -/
namespace Mi
open PySem

/-- values: tuples and lists that nobody changes are trees; what may change stands at a place of the small heap -/
inductive D where
  | non | bl (b : Bool) | int (i : Int) | str (s : Str)
  | tup (xs : List D) | lst (xs : List D) | ref (i : Nat) | scr (ns : List Int)
instance : Inhabited D := ⟨.non⟩
/-- what stands at a place -/
inductive O where
  | lst (xs : List D)
  | dct (kvs : List (L2.Key × D))
  | dtt (kvs : List (List L2.Key × D))
  | ins (c : Nat) (fs : List (Str × D))
abbrev Hh := List O
abbrev Env := List (Option D)
/-- an exception: its class's number, its fields -/
abbrev Ex := Nat × List (Str × D)

inductive Res (α : Type) where
  | ok (a : α) (h : Hh) | exc (e : Ex) (h : Hh) | stuck
def Res.bind {α β : Type} : Res α → (α → Hh → Res β) → Res β
  | .ok a h, f => f a h
  | .exc e h, _ => .exc e h
  | .stuck, _ => .stuck
def Res.of {α : Type} (o : Option α) (h : Hh) : Res α := match o with
  | some a => .ok a h
  | none => .stuck
/-- no exception may come -/
def Res.calm {α : Type} : Res α → Res α
  | .exc _ _ => .stuck
  | r => r
@[simp] theorem bind_ok {α β : Type} (a : α) (h : Hh) (f : α → Hh → Res β) : (Res.ok a h).bind f = f a h := Eq.trans rfl rfl
@[simp] theorem bind_exc {α β : Type} (e : Ex) (h : Hh) (f : α → Hh → Res β) : (Res.exc e h : Res α).bind f = .exc e h := Eq.trans rfl rfl
@[simp] theorem bind_stuck {α β : Type} (f : α → Hh → Res β) : (Res.stuck : Res α).bind f = .stuck := Eq.trans rfl rfl
@[simp] theorem of_some {α : Type} (a : α) (h : Hh) : Res.of (some a) h = .ok a h := Eq.trans rfl rfl
@[simp] theorem of_none {α : Type} (h : Hh) : Res.of (none : Option α) h = .stuck := Eq.trans rfl rfl
@[simp] theorem calm_ok {α : Type} (a : α) (h : Hh) : (Res.ok a h).calm = .ok a h := Eq.trans rfl rfl
theorem bind_assoc {α β γ : Type} (r : Res α) (f : α → Hh → Res β) (g : β → Hh → Res γ) : (r.bind f).bind g = r.bind fun a h => (f a h).bind g := by
  cases r <;> rfl

inductive SR where
  | nx (env : Env) (h : Hh) | ret (d : D) (h : Hh) | brk (env : Env) (h : Hh) | ct (env : Env) (h : Hh) | exc (e : Ex) (env : Env) (h : Hh) | stuck
def SR.bind : SR → (Env → Hh → SR) → SR
  | .nx env h, f => f env h
  | r, _ => r
/-- an expression, then a statement's rest -/
def Res.then {α : Type} (r : Res α) (env : Env) (f : α → Hh → SR) : SR := match r with
  | .ok a h => f a h
  | .exc e h => .exc e env h
  | .stuck => .stuck
@[simp] theorem sbind_nx (env : Env) (h : Hh) (f : Env → Hh → SR) : (SR.nx env h).bind f = f env h := Eq.trans rfl rfl
@[simp] theorem sbind_ret (d : D) (h : Hh) (f : Env → Hh → SR) : (SR.ret d h).bind f = .ret d h := Eq.trans rfl rfl
@[simp] theorem sbind_brk (env : Env) (h : Hh) (f : Env → Hh → SR) : (SR.brk env h).bind f = .brk env h := Eq.trans rfl rfl
@[simp] theorem sbind_ct (env : Env) (h : Hh) (f : Env → Hh → SR) : (SR.ct env h).bind f = .ct env h := Eq.trans rfl rfl
@[simp] theorem sbind_exc (e : Ex) (env : Env) (h : Hh) (f : Env → Hh → SR) : (SR.exc e env h).bind f = .exc e env h := Eq.trans rfl rfl
@[simp] theorem sbind_stuck (f : Env → Hh → SR) : SR.stuck.bind f = .stuck := Eq.trans rfl rfl
@[simp] theorem then_ok {α : Type} (a : α) (h : Hh) (env : Env) (f : α → Hh → SR) : (Res.ok a h).then env f = f a h := Eq.trans rfl rfl
@[simp] theorem then_exc {α : Type} (e : Ex) (h : Hh) (env : Env) (f : α → Hh → SR) : (Res.exc e h : Res α).then env f = .exc e env h := Eq.trans rfl rfl
@[simp] theorem then_stuck {α : Type} (env : Env) (f : α → Hh → SR) : (Res.stuck : Res α).then env f = .stuck := Eq.trans rfl rfl

/-! ### data -/
mutual
/-- as the library's data; what refers has none -/
def D.py : D → Option PyData
  | .non => some .none
  | .bl b => some (.bool b)
  | .int i => some (.int i)
  | .str s => some (.str s)
  | .tup xs => (pys xs).map .tuple
  | .lst xs => (pys xs).map .list
  | .ref _ => none
  | .scr _ => none
def pys : List D → Option (List PyData)
  | [] => some []
  | x :: xs => match x.py, pys xs with
    | some d, some ds => some (d :: ds)
    | _, _ => none
end
/-- a list at a place, read -/
def rd (h : Hh) : D → D
  | .ref i => match h[i]? with
    | some (.lst xs) => .lst xs
    | _ => .ref i
  | d => d
/-- == of data that the library lays -/
def eqD0 (h : Hh) (a b : D) : Option Bool := match (rd h a).py, (rd h b).py with
  | some x, some y => if SeqAt.shaped x = true ∧ SeqAt.shaped y = true then some (PyData.eqv x y) else none
  | _, _ => none
/-- == -/
def eqD (h : Hh) (a b : D) : Option Bool := match a, b with
  | .str x, .str y => some (decide (x = y))
  | a, b => eqD0 h a b
theorem eq_or {h : Hh} {a b : D} {k : Bool} (e : eqD h a b = some k) : (∃ x y, a = .str x ∧ b = .str y ∧ k = decide (x = y)) ∨ eqD0 h a b = some k := by
  unfold eqD at e
  split at e
  · cases e
    exact .inl ⟨_, _, rfl, rfl, rfl⟩
  · exact .inr e
/-- the items of a sequence -/
def seqD (h : Hh) : D → Option (List D)
  | .scr ns => some (ns.map .int)
  | .tup xs => some xs
  | .lst xs => some xs
  | .ref i => match h[i]? with
    | some (.lst xs) => some xs
    | _ => none
  | _ => none
def keyD : D → Option L2.Key
  | .int i => some (.inl i)
  | .str s => some (.inr s)
  | _ => none
def keysD : List D → Option (List L2.Key)
  | [] => some []
  | x :: xs => match keyD x, keysD xs with
    | some k, some ks => some (k :: ks)
    | _, _ => none
section
variable {κ : Type} [DecidableEq κ]
def getK (kvs : List (κ × D)) (k : κ) : Option D := (kvs.find? fun kv => decide (kv.1 = k)).map (·.2)
def putK (kvs : List (κ × D)) (k : κ) (v : D) : List (κ × D) :=
  if (kvs.any fun kv => decide (kv.1 = k)) = true then kvs.map fun kv => if kv.1 = k then (kv.1, v) else kv else kvs ++ [(k, v)]
end
/-- d[k]: none, where there is no answer (a key of another kind); some none, where the key is not there -/
def dget (o : O) (k : D) : Option (Option D) := match o, k with
  | .dct kvs, k => (keyD k).map (getK kvs)
  | _, _ => none
def dput (o : O) (k v : D) : Option O := match o, k with
  | .dct kvs, k => if kvs.length < sizeLine then (keyD k).map fun k => .dct (putK kvs k v) else none
  | _, _ => none
def putF (f : Str) (v : D) : List (Str × D) → List (Str × D)
  | [] => [(f, v)]
  | p :: r => if p.1 = f then (f, v) :: r else p :: putF f v r
def truthD (h : Hh) : D → Option Bool
  | .non => some false
  | .bl b => some b
  | .int i => some (i != 0)
  | .str s => if s.length ≤ sizeLine then some (s.length != 0) else none
  | .tup xs => some (!xs.isEmpty)
  | .lst xs => some (!xs.isEmpty)
  | .ref i => match h[i]? with
    | some (.lst xs) => some (!xs.isEmpty)
    | some (.dct kvs) => some (!kvs.isEmpty)
    | _ => none
  | .scr _ => none

/-- the items of a list of the program's own -/
def ownD (h : Hh) : D → Option (List D)
  | .lst xs => some xs
  | .ref i => match h[i]? with
    | some (.lst xs) => some xs
    | _ => none
  | _ => none
def catO (h : Hh) (a b : D) : Option (List D) := match ownD h a, ownD h b with
  | some xs, some ys => if xs.length + ys.length ≤ sizeLine then some (xs ++ ys) else none
  | _, _ => none

/-! ### operators -/
open Classical in
/-- (the kernel must not look into the bounds) -/
noncomputable def small64 (i : Int) : Bool := decide (-(2 ^ 64) < i) && decide (i < 2 ^ 64)
open Classical in
/-- (the kernel must not look into the bounds) -/
noncomputable def powOk (i j : Int) : Bool := decide (0 ≤ j) && decide (j ≤ 1000000) && decide (i.natAbs < 2 ^ 64)
def repD {α : Type} (xs : List α) (k : Int) : List α := (List.replicate k.toNat xs).flatten
open Classical in
/-- (the kernel must not look into the bounds) -/
noncomputable def repOk {α : Type} (xs : List α) (k : Int) : Bool := decide (-(2 ^ 63) ≤ k) && decide (k < 2 ^ 63) && decide (xs.length * k.toNat ≤ sizeLine)
def addD (h : Hh) : D → D → Option D
  | .int i, .int j => some (.int (i + j))
  | .str x, .str y => if x.length + y.length ≤ sizeLine then some (.str (x ++ y)) else none
  | .tup xs, .tup ys => if xs.length + ys.length ≤ sizeLine then some (.tup (xs ++ ys)) else none
  | .int _, _ => none
  | .str _, _ => none
  | .tup _, _ => none
  | a, b => (catO h a b).map .lst
noncomputable def mulO (h : Hh) (a : D) (k : Int) : Option (List D) := match ownD h a with
  | some xs => if repOk xs k = true then some (repD xs k) else none
  | none => none
noncomputable def mulD (h : Hh) : D → D → Option D
  | .int i, .int j => if small64 i = true ∨ small64 j = true then some (.int (i * j)) else none
  | .tup xs, .int k => if xs ≠ [] ∧ 2 ≤ k ∧ k ≤ 1000 ∧ xs.length ≤ 1000 then some (.tup (repD xs k)) else none
  | .int _, _ => none
  | .tup _, _ => none
  | a, .int k => (mulO h a k).map .lst
  | _, _ => none
noncomputable def binD (h : Hh) (o : Operator) (a b : D) : Option D := match o with
  | .Add => addD h a b
  | .Mult => mulD h a b
  | .Sub => match a, b with
    | .int i, .int j => some (.int (i - j))
    | _, _ => none
  | .FloorDiv => match a, b with
    | .int i, .int j => if j ≠ 0 ∧ j.natAbs < 1073741824 then some (.int (i.fdiv j)) else none
    | _, _ => none
  | .Mod => match a, b with
    | .int i, .int j => if j ≠ 0 then some (.int (i.fmod j)) else none
    | _, _ => none
  | .Pow => match a, b with
    | .int i, .int j => if powOk i j = true then some (.int (i ^ j.toNat)) else none
    | _, _ => none
  | .LShift => match a, b with
    | .int i, .int j => if powOk i j = true then some (.int (i * 2 ^ j.toNat)) else none
    | _, _ => none
  | .RShift => match a, b with
    | .int i, .int j => if 0 ≤ j then some (.int (i / 2 ^ j.toNat)) else none
    | _, _ => none
  | .BitAnd => match a, b with
    | .int i, .int j => some (.int (Builtin.bitAnd i j))
    | _, _ => none
  | .BitOr => match a, b with
    | .int i, .int j => some (.int (Builtin.bitOr i j))
    | _, _ => none
  | .BitXor => match a, b with
    | .int i, .int j => some (.int (Builtin.bitXor i j))
    | _, _ => none
  | _ => none
/-- x in ys -/
def inL (xs : List D) (x : D) : Option Bool := match pys xs, x.py with
  | some ys, some y => if SeqAt.shaped (.list ys) = true ∧ SeqAt.shaped y = true then some (ys.any fun z => PyData.eqv z y) else none
  | _, _ => none
def inD (h : Hh) (x y : D) : Option Bool := match y with
  | .str t => match x with
    | .str s => some (!(Builtin.Str.occurrences t s 0 t.length 1).isEmpty)
    | _ => none
  | .tup ys => inL ys (rd h x)
  | .lst ys => inL ys (rd h x)
  | .ref i => match h[i]? with
    | some (.lst ys) => inL ys (rd h x)
    | some o => (dget o x).map Option.isSome
    | none => none
  | _ => none
def isNone : D → Bool
  | .non => true
  | _ => false
def cmpD (h : Hh) (o : CmpOp) (a b : D) : Option Bool := match o with
  | .Eq => eqD h a b
  | .NotEq => (eqD h a b).map not
  | .Is => match b with
    | .non => some (isNone a)
    | _ => none
  | .IsNot => match b with
    | .non => some (!isNone a)
    | _ => none
  | .In => inD h a b
  | .NotIn => (inD h a b).map not
  | .Lt => match a, b with
    | .int i, .int j => some (decide (i < j))
    | _, _ => none
  | .LtE => match a, b with
    | .int i, .int j => some (decide (i ≤ j))
    | _, _ => none
  | .Gt => match a, b with
    | .int i, .int j => some (decide (j < i))
    | _, _ => none
  | .GtE => match a, b with
    | .int i, .int j => some (decide (j ≤ i))
    | _, _ => none

/-! ### places -/
def ixD (h : Hh) (a i : D) : Option D := match a, i with
  | .str s, .int k => if s.length ≤ sizeLine then (L2.atI s.cps.toList k).map fun c => .str ⟨#[c]⟩ else none
  | .tup xs, .int k => L2.atI xs k
  | .lst xs, .int k => L2.atI xs k
  | .ref p, k => match h[p]?, k with
    | some (.lst xs), .int k => L2.atI xs k
    | some o, k => match dget o k with
      | some (some d) => some d
      | _ => none
    | _, _ => none
  | _, _ => none
def cutD {α : Type} (xs : List α) (lo hi : Option Int) : List α := (xs.drop (HT.sIx xs.length 0 lo)).take (HT.sIx xs.length xs.length hi - HT.sIx xs.length 0 lo)
def slcD (h : Hh) (a : D) (lo hi : Option Int) : Option D := match a with
  | .str s => if s.length ≤ sizeLine then some (.str (L2.cutS s lo hi)) else none
  | .tup xs => some (.tup (cutD xs lo hi))
  | .lst xs => some (.lst (cutD xs lo hi))
  | .ref p => match h[p]? with
    | some (.lst xs) => some (.lst (cutD xs lo hi))
    | _ => none
  | _ => none

/-! ### built-in functions -/
inductive Bi where
  | len | abs | int | str | tuple | list | sorted | sum | min | max | all | any | repr
  deriving DecidableEq
def intsD : List D → Option (List Int)
  | [] => some []
  | .int i :: xs => (intsD xs).map (i :: ·)
  | _ :: _ => none
def blsD : List D → Option (List Bool)
  | [] => some []
  | .bl i :: xs => (blsD xs).map (i :: ·)
  | _ :: _ => none
def sortI (ns : List Int) : List Int := ns.mergeSort (fun a b => decide (a ≤ b))
def minI : Int → List Int → Int
  | m, [] => m
  | m, n :: r => minI (if n < m then n else m) r
def maxI : Int → List Int → Int
  | m, [] => m
  | m, n :: r => maxI (if m < n then n else m) r
def minL : List Int → Option Int
  | [] => none
  | n :: r => some (minI n r)
def maxL : List Int → Option Int
  | [] => none
  | n :: r => some (maxI n r)
/-- the items of what list(), tuple(), sorted() take -/
def iterD (h : Hh) : D → Option (List D)
  | .scr ns => some (ns.map .int)
  | .ref i => match h[i]? with
    | some (.lst xs) => some xs
    | _ => none
  | .tup xs => some xs
  | .lst xs => some xs
  | _ => none
def lenD (h : Hh) : D → Option Nat
  | .scr ns => some ns.length
  | .str s => if s.length ≤ sizeLine then some s.length else none
  | .ref i => match h[i]? with
    | some (.lst xs) => some xs.length
    | some (.dct kvs) => some kvs.length
    | _ => none
  | .tup xs => some xs.length
  | .lst xs => some xs.length
  | _ => none
/-- the list that list(x), sorted(x) make -/
def listD (h : Hh) (x : D) : Option (List D) := iterD h x
def sortedD (h : Hh) (x : D) : Option (List D) := match ownD h x with
  | some xs => (intsD xs).map fun ns => (sortI ns).map .int
  | none => none
/-- what sum() takes -/
def numsD (h : Hh) : D → Option (List D)
  | .tup xs => some xs
  | u => ownD h u
def biD (h : Hh) : Bi → List D → Option D
  | .len, [x] => (lenD h x).map fun (n : Nat) => D.int (n : Int)
  | .abs, [.int i] => some (.int (if i < 0 then -i else i))
  | .int, [.int i] => some (.int i)
  | .int, [.bl b] => some (.int (if b then 1 else 0))
  | .str, [.int i] => if i.natAbs.log2 < 1920 then some (.str (toString i)) else none
  | .tuple, [x] => (iterD h x).map .tup
  | .list, [x] => (listD h x).map .lst
  | .sorted, [x] => (sortedD h x).map .lst
  | .sum, [x] => (numsD h x).bind fun xs => (intsD xs).map fun ns => .int ns.sum
  | .min, [x] => (ownD h x).bind fun xs => (intsD xs).bind fun ns => (minL ns).map .int
  | .max, [x] => (ownD h x).bind fun xs => (intsD xs).bind fun ns => (maxL ns).map .int
  | .min, [.int i, .int j] => some (.int (if j < i then j else i))
  | .max, [.int i, .int j] => some (.int (if j > i then j else i))
  | .all, [x] => (ownD h x).bind fun xs => (blsD xs).map fun bs => .bl (bs.all id)
  | .any, [x] => (ownD h x).bind fun xs => (blsD xs).map fun bs => .bl (bs.any id)
  | .repr, [x] => match (rd h x).py with
    | some d => if SeqAt.shaped d = true ∧ d.showable = true ∧ d.shown.length ≤ sizeLine then some (.str d.shown) else none
    | none => none
  | _, _ => none

/-! ### isinstance -/
inductive Ty where
  | int | bool | str | tuple | list | dict
  deriving DecidableEq
def isD (h : Hh) (t : Ty) : D → Option Bool
  | .non => some false
  | .bl _ => some (t == .bool || t == .int)
  | .int _ => some (t == .int)
  | .str _ => some (t == .str)
  | .tup _ => some (t == .tuple)
  | .lst _ => some (t == .list)
  | .scr _ => none
  | .ref i => match h[i]? with
    | some (.lst _) => some (t == .list)
    | some (.dct _) => some (t == .dict)
    | _ => none
def isAnyD (h : Hh) : List Ty → D → Option Bool
  | [], _ => some false
  | t :: ts, d => match isD h t d, isAnyD h ts d with
    | some a, some b => some (a || b)
    | _, _ => none
end Mi
end
section
set_option Elab.async false
set_option linter.all false
namespace Mi
open PySem

/-- methods of built-in types -/
inductive BM where
  | append | pop | popAt | get | getOr | extend | bitLength | index
  deriving DecidableEq
/-- what a loop's or a comprehension's variable is -/
inductive MT where
  | nm (i : Nat)
  | tp (is : List Nat)
  deriving DecidableEq
mutual
inductive ME where
  | var (i : Nat) | lit (c : D) | glb (g : Nat)
  | bin (o : Operator) (a b : ME)
  | neg (a : ME)
  | cmp (o : CmpOp) (a b : ME)
  | cmp2 (o o' : CmpOp) (a b c : ME)
  | and (a b : ME) | or (a b : ME) | not (a : ME)
  | ifx (c a b : ME)
  | tup (es : MEs)
  | frz (c : MC) | new (c : MC)
  | call (f : Nat) (es : MEs)
  | bi (b : Bi) (es : MEs)
  | isi (a : ME) (ts : List Ty)
  | fld (a : ME) (f : Str)
  | mth (a : ME) (c m : Nat) (es : MEs)
  | bm (a : ME) (m : BM) (es : MEs)
  | ix (a i : ME)
  | slc (a : ME) (lo hi : MO)
  | dnew (t : Bool)
  | dsp (kvs : MKs)
  | ins (c : Nat) (es : MEs)
  | xf (f : Str) | xis (ts : List (Option Nat))
  | callK (g : Nat) (es ws : MEs)
  | any
inductive MEs where
  | nil | cons (e : ME) (es : MEs)
/-- a dict display's entries, the keys written texts -/
inductive MKs where
  | nil | cons (k : Str) (e : ME) (es : MKs)
inductive MO where
  | none | some (e : ME)
/-- what makes a new list -/
inductive MC where
  | dsp (es : MEs)
  | lc (own : List Nat) (t : MT) (it : MI) (cs : MEs) (e : ME)
  | lc2 (own own1 : List Nat) (t : MT) (it : MI) (t1 : MT) (it1 : MI) (e : ME)
  | bi (b : Bi) (e : ME)
  | cat (a b : ME)
  | rep (a k : ME)
inductive MI where
  | val (e : ME)
  | rng1 (a : ME) | rng2 (a b : ME) | rng3 (a b c : ME)
  | enum (e : ME)
  | zip (a b : ME)
end
mutual
inductive MS where
  | set (t : MT) (e : ME)
  | sets (a i e : ME)
  | setf (a : ME) (f : Str) (e : ME)
  | aug (i : Nat) (o : Operator) (e : ME)
  | augf (a : ME) (f : Str) (o : Operator) (e : ME)
  | ife (c : ME) (a b : MSs)
  | loop (t : MT) (it : MI) (b : MSs)
  | whl (c : ME) (b : MSs)
  | ret (e : ME) | retN
  | exp (e : ME)
  | pass | brk | cont
  | raise (c : Nat) (es : MEs)
  | tryx (b : MSs) (c : Nat) (slot : Nat) (s : MSs)
  | any
inductive MSs where
  | nil | cons (s : MS) (ss : MSs)
end

/-- where a parameter's value comes from: a place in the row, a keyword, the default -/
inductive PSrc where
  | pos (i : Nat) | kw (j : Nat) | dfl (d : D)
/-- a form of call: the def, how many arguments by place, the keywords, what each parameter gets -/
structure Sig where
  f : Nat
  n : Nat
  ks : List Str
  srcs : List PSrc
def PSrc.of (ds zs : List D) : PSrc → Option D
  | .pos i => ds[i]?
  | .kw j => zs[j]?
  | .dfl d => some d
def arrange (ds zs : List D) : List PSrc → Option (List D)
  | [] => some []
  | s :: r => match s.of ds zs, arrange ds zs r with
    | some d, some q => some (d :: q)
    | _, _ => none
structure FInfo where
  name : Str
  top : Bool
  plain : Bool
  params : Nat
  slots : List Str
  body : MSs
structure EInfo where
  name : Str
  fields : List Str
  anc : List Nat
structure CInfo where
  name : Str
  init : Nat
  meths : List (Str × Nat)
  flds : List Str
structure Prog where
  fns : List FInfo
  consts : List (Str × D)
  excs : List EInfo
  inss : List CInfo
  sigs : List Sig

def MC.bis (b : Bi) (h : Hh) (x : D) : Option (List D) := match b with
  | .list => listD h x
  | .sorted => sortedD h x
  | _ => none
/-- list + list -/
def catD (h : Hh) (a b : D) : Option (List D) := match addD h a b with
  | some (.lst xs) => some xs
  | _ => none
noncomputable def mrepD (h : Hh) (a b : D) : Option (List D) := match mulD h a b with
  | some (.lst xs) => some xs
  | _ => none

def setT (t : MT) (d : D) (env : Env) : Option Env := match t with
  | .nm i => some (env.set i (some d))
  | .tp is => match d with
    | .tup ds => if ds.length = is.length then some ((is.zip ds).foldl (fun e p => e.set p.1 (some p.2)) env) else none
    | _ => none
def wipe (env : Env) : List Nat → Env
  | [] => env
  | v :: vs => (wipe env vs).set v none

/-- a list that is walked stands as it stood -/
def MT.slots : MT → List Nat
  | .nm i => [i]
  | .tp is => is
abbrev Gd := List (Nat × List D)
def gok (g : Gd) (h : Hh) : Prop := ∀ q ∈ g, h[q.1]? = some (.lst q.2)
@[simp] theorem gok_nil (h : Hh) : gok [] h = True := eq_true fun _ q => nomatch q
@[simp] theorem gok_one (i : Nat) (xs : List D) (h : Hh) : gok [(i, xs)] h = (h[i]? = some (.lst xs)) := by
  simp only [gok, List.mem_singleton, forall_eq]
open Classical in
/-- a for -/
noncomputable def loopM (g : Gd) (t : MT) (body : Env → Hh → SR) : List D → Env → Hh → SR
  | [], env, h => if gok g h then .nx env h else .stuck
  | d :: ds, env, h => if gok g h then
      match setT t d env with
      | none => .stuck
      | some env1 => match body env1 h with
        | .nx env2 h2 => loopM g t body ds env2 h2
        | .ct env2 h2 => loopM g t body ds env2 h2
        | .brk env2 h2 => .nx env2 h2
        | r => r
    else .stuck
/-- a while, so many turns -/
def whileK (c : Env → Hh → Res Bool) (body : Env → Hh → SR) : Nat → Env → Hh → Option SR
  | 0, _, _ => none
  | n + 1, env, h => match c env h with
    | .stuck => some .stuck
    | .exc e h1 => some (.exc e env h1)
    | .ok false h1 => some (.nx env h1)
    | .ok true h1 => match body env h1 with
      | .nx env2 h2 => whileK c body n env2 h2
      | .ct env2 h2 => whileK c body n env2 h2
      | .brk env2 h2 => some (.nx env2 h2)
      | r => some r
open Classical in
noncomputable def whileM (c : Env → Hh → Res Bool) (body : Env → Hh → SR) (env : Env) (h : Hh) : SR :=
  if p : ∃ n r, whileK c body n env h = some r then p.choose_spec.choose else .stuck
open Classical in
/-- a list comprehension -/
noncomputable def lcM (g : Gd) (own : List Nat) (t : MT) (c : Env → Hh → Res Bool) (e : Env → Hh → Res D) (env : Env) : List D → Hh → Res (List D)
  | [], h => if gok g h then .ok [] h else .stuck
  | d :: ds, h => if gok g h then
      match setT t d (wipe env own) with
      | none => .stuck
      | some env1 => (c env1 h).bind fun b h1 => if b = true then (e env1 h1).bind fun y h2 => (lcM g own t c e env ds h2).bind fun ys h3 => .ok (y :: ys) h3
        else lcM g own t c e env ds h1
    else .stuck
open Classical in
/-- .. with two clauses -/
noncomputable def lc2M (g : Gd) (own : List Nat) (t : MT) (inner : Env → Hh → Res (List D)) (env : Env) : List D → Hh → Res (List D)
  | [], h => if gok g h then .ok [] h else .stuck
  | d :: ds, h => if gok g h then
      match setT t d (wipe env own) with
      | none => .stuck
      | some env1 => (inner env1 h).bind fun zs h1 => (lc2M g own t inner env ds h1).bind fun ys h3 => .ok (zs ++ ys) h3
    else .stuck

open Classical in
/-- (the kernel must not look into the bounds) -/
noncomputable def rngD (a b c : Int) : Option (List D) :=
  if -(2 ^ 62) ≤ a ∧ a < 2 ^ 62 ∧ -(2 ^ 62) ≤ b ∧ b < 2 ^ 62 then
    (if c = 1 then (if (b - a).toNat ≤ sizeLine then some ((List.range (b - a).toNat).map fun (k : Nat) => D.int (a + k)) else none)
    else if c = -1 then (if (a - b).toNat ≤ sizeLine then some ((List.range (a - b).toNat).map fun (k : Nat) => D.int (a - k)) else none)
    else none) else none
def enumD (xs : List D) : List D := (List.range xs.length).zipWith (fun (k : Nat) x => D.tup [.int k, x]) xs
def zipD (xs ys : List D) : List D := xs.zipWith (fun x y => .tup [x, y]) ys
def guardD (h : Hh) : D → Gd
  | .ref i => match h[i]? with
    | some (.lst xs) => [(i, xs)]
    | _ => []
  | _ => []
/-- both are tuples, or both are lists -/
def alikeD : D → D → Bool
  | .tup _, .tup _ => true
  | .tup _, _ => false
  | _, .tup _ => false
  | _, _ => true

/-- o[k] = d -/
def setD (h : Hh) (u k d : D) : Option Hh := match u with
  | .ref p => match h[p]?, k with
    | some (.lst xs), .int k => (L2.ixN xs.length k).map fun j => h.set p (.lst (xs.set j d))
    | some o, k => (dput o k d).map fun o' => h.set p o'
    | none, _ => none
  | _ => none
def intO : D → Option Int
  | .int i => some i
  | _ => none
/-- what has the method m -/
def bmT (h : Hh) (m : BM) : D → Bool
  | .ref i => match h[i]? with
    | some (.lst _) => m == .append || m == .pop || m == .popAt || m == .extend || m == .index
    | some (.dct _) => m == .get || m == .getOr
    | _ => false
  | .int _ => m == .bitLength
  | .lst _ => m == .index
  | _ => false
/-- l.index(x) -/
def indexD (h : Hh) (x y : D) : Option Nat := match (rd h x).py, (rd h y).py with
  | some (.list ds), some d => if SeqAt.shaped (.list ds) = true ∧ SeqAt.shaped d = true then ds.findIdx? fun z => PyData.eqv z d else none
  | _, _ => none
/-- methods of built-in types: the value, the heap behind -/
def bmD (h : Hh) (m : BM) (x : D) (vs : List D) : Option (D × Hh) := match m, x, vs with
  | .append, .ref i, [y] => match h[i]? with
    | some (.lst xs) => if xs.length < sizeLine then some (.non, h.set i (.lst (xs ++ [y]))) else none
    | _ => none
  | .extend, .ref i, [y] => match h[i]?, ownD h y with
    | some (.lst xs), some ys => if xs.length + ys.length ≤ sizeLine then some (.non, h.set i (.lst (xs ++ ys))) else none
    | _, _ => none
  | .pop, .ref i, [] => match h[i]? with
    | some (.lst xs) => match xs[xs.length - 1]? with
      | some y => some (y, h.set i (.lst xs.dropLast))
      | none => none
    | _ => none
  | .popAt, .ref i, [.int k] => match h[i]? with
    | some (.lst xs) => if -(2 ^ 63) ≤ k ∧ k < 2 ^ 63 then match seqIndex? k xs.length with
      | some j => match xs[j]? with
        | some y => some (y, h.set i (.lst (xs.eraseIdx j)))
        | none => none
      | none => none
      else none
    | _ => none
  | .index, x, [y] => (indexD h x y).map fun (j : Nat) => (.int (j : Int), h)
  | .bitLength, .int i, [] => some (.int ((Builtin.Int.intBits i : Nat) : Int), h)
  | .get, .ref i, [k] => match h[i]? with
    | some (.dct kvs) => (dget (.dct kvs) k).map fun o => (o.getD .non, h)
    | some (.dtt kvs) => (dget (.dtt kvs) k).map fun o => (o.getD .non, h)
    | _ => none
  | .getOr, .ref i, [k, z] => match h[i]? with
    | some (.dct kvs) => (dget (.dct kvs) k).map fun o => (o.getD z, h)
    | some (.dtt kvs) => (dget (.dtt kvs) k).map fun o => (o.getD z, h)
    | _ => none
  | _, _, _ => none

section
variable (call : Nat → List D → Hh → Res D) (P : Prog) (x : Option Ex)
mutual
noncomputable def sem : ME → Env → Hh → Res D
  | .var i, env, h => match env[i]? with
    | some (some d) => .ok d h
    | _ => .stuck
  | .lit d, _, h => .ok d h
  | .glb g, _, h => match P.consts[g]? with
    | some c => .ok c.2 h
    | none => .stuck
  | .bin o a b, env, h => (sem a env h).bind fun u h1 => (sem b env h1).bind fun v h2 => .of (binD h2 o u v) h2
  | .neg a, env, h => (sem a env h).bind fun u h1 => match u with
    | .int i => .ok (.int (-i)) h1
    | _ => .stuck
  | .cmp o a b, env, h => (sem a env h).bind fun u h1 => (sem b env h1).bind fun v h2 => .of ((cmpD h2 o u v).map .bl) h2
  | .cmp2 o o' a b c, env, h => (sem a env h).bind fun u h1 => (sem b env h1).bind fun v h2 => (Res.of (cmpD h2 o u v) h2).bind fun k h3 =>
      if k = true then (sem c env h3).bind fun w h4 => .of ((cmpD h4 o' v w).map .bl) h4 else .ok (.bl false) h3
  | .and a b, env, h => (sem a env h).bind fun u h1 => (Res.of (truthD h1 u) h1).bind fun k h2 => if k = true then sem b env h2 else .ok u h2
  | .or a b, env, h => (sem a env h).bind fun u h1 => (Res.of (truthD h1 u) h1).bind fun k h2 => if k = true then .ok u h2 else sem b env h2
  | .not a, env, h => (sem a env h).bind fun u h1 => .of ((truthD h1 u).map fun k => .bl (!k)) h1
  | .ifx c a b, env, h => (sem c env h).bind fun u h1 => (Res.of (truthD h1 u) h1).bind fun k h2 => if k = true then sem a env h2 else sem b env h2
  | .tup es, env, h => (semA es env h).bind fun ds h1 => .ok (.tup ds) h1
  | .frz c, env, h => (semC c env h).bind fun ds h1 => .ok (.lst ds) h1
  | .new c, env, h => (semC c env h).bind fun ds h1 => .ok (.ref h1.length) (h1 ++ [.lst ds])
  | .call f es, env, h => (semA es env h).bind fun ds h1 => call f ds h1
  | .bi b es, env, h => (semA es env h).bind fun ds h1 => .of (biD h1 b ds) h1
  | .isi a ts, env, h => (sem a env h).bind fun u h1 => .of ((isAnyD h1 ts u).map .bl) h1
  | .fld a f, env, h => (sem a env h).bind fun u h1 => match u with
    | .ref i => match h1[i]? with
      | some (.ins _ fs) => .of (fs.lookup f) h1
      | _ => .stuck
    | _ => .stuck
  | .mth a c m es, env, h => (sem a env h).bind fun u h1 => match u with
    | .ref i => match h1[i]?, P.inss[c]? with
      | some (.ins c' fs), some ci => match ci.meths[m]? with
        | some mf => if c' = c ∧ fs.lookup mf.1 = none then (semA es env h1).bind fun ds h2 => call mf.2 (.ref i :: ds) h2 else .stuck
        | none => .stuck
      | _, _ => .stuck
    | _ => .stuck
  | .bm a m es, env, h => (sem a env h).bind fun u h1 => if bmT h1 m u = true then ((semA es env h1).bind fun ds h2 => match bmD h2 m u ds with
    | some (v, h3) => .ok v h3
    | none => .stuck) else .stuck
  | .ix a i, env, h => (sem a env h).bind fun u h1 => (sem i env h1).bind fun v h2 => .of (ixD h2 u v) h2
  | .slc a lo hi, env, h => (sem a env h).bind fun u h1 => (semO lo env h1).bind fun l h2 => (semO hi env h2).bind fun k h3 => .of (slcD h3 u l k) h3
  | .dnew t, _, h => .ok (.ref h.length) (h ++ [if t = true then .dtt [] else .dct []])
  | .dsp kvs, env, h => (semK kvs env h).bind fun ps h1 => .ok (.ref h1.length) (h1 ++ [.dct (ps.foldl (fun d p => putK d (.inr p.1) p.2) [])])
  | .ins c es, env, h => (semA es env h).bind fun ds h1 => match P.inss[c]? with
    | some ci => (call ci.init (.ref h1.length :: ds) (h1 ++ [.ins c []])).bind fun v h2 => match v with
      | .non => .ok (.ref h1.length) h2
      | _ => .stuck
    | none => .stuck
  | .xf f, _, h => match x with
    | some e => .of (e.2.lookup f) h
    | none => .stuck
  | .xis ts, _, h => match x with
    | some e => match P.excs[e.1]? with
      | some ei => .ok (.bl (ts.any fun t => match t with | none => true | some c => ei.anc.contains c)) h
      | none => .stuck
    | none => .stuck
  | .callK g es ws, env, h => (semA es env h).bind fun ds h1 => (semA ws env h1).bind fun zs h2 => match P.sigs[g]? with
    | some sg => if ds.length = sg.n ∧ zs.length = sg.ks.length then (match arrange ds zs sg.srcs with
      | some vs => call sg.f vs h2
      | none => .stuck) else .stuck
    | none => .stuck
  | .any, _, _ => .stuck
noncomputable def semA : MEs → Env → Hh → Res (List D)
  | .nil, _, h => .ok [] h
  | .cons e es, env, h => (sem e env h).bind fun u h1 => (semA es env h1).bind fun us h2 => .ok (u :: us) h2
noncomputable def semK : MKs → Env → Hh → Res (List (Str × D))
  | .nil, _, h => .ok [] h
  | .cons k e es, env, h => (sem e env h).bind fun u h1 => (semK es env h1).bind fun us h2 => .ok ((k, u) :: us) h2
noncomputable def semO : MO → Env → Hh → Res (Option Int)
  | .none, _, h => .ok none h
  | .some e, env, h => (sem e env h).bind fun u h1 => match u with
    | .int i => .ok (some i) h1
    | _ => .stuck
noncomputable def semC : MC → Env → Hh → Res (List D)
  | .dsp es, env, h => semA es env h
  | .lc own t it cs e, env, h => (semI it env h).bind fun dg h1 => (lcM dg.2 own t (semT cs) (sem e) env dg.1 h1).calm
  | .lc2 own own1 t it t1 it1 e, env, h => (semI it env h).bind fun dg h1 =>
      (lc2M dg.2 own t (fun env1 h1 => (semI it1 env1 h1).bind fun dg1 h2 => lcM dg1.2 own1 t1 (fun _ h => .ok true h) (sem e) env1 dg1.1 h2) env dg.1 h1).calm
  | .bi b e, env, h => (sem e env h).bind fun u h1 => .of (MC.bis b h1 u) h1
  | .cat a b, env, h => (sem a env h).bind fun u h1 => (sem b env h1).bind fun v h2 => .of (catD h2 u v) h2
  | .rep a b, env, h => (sem a env h).bind fun u h1 => (sem b env h1).bind fun v h2 => .of (mrepD h2 u v) h2
/-- the tests of a comprehension -/
noncomputable def semT : MEs → Env → Hh → Res Bool
  | .nil, _, h => .ok true h
  | .cons e es, env, h => (sem e env h).bind fun u h1 => (Res.of (truthD h1 u) h1).bind fun k h2 => if k = true then semT es env h2 else .ok false h2
noncomputable def semI : MI → Env → Hh → Res (List D × Gd)
  | .val e, env, h => (sem e env h).bind fun u h1 => .of ((seqD h1 u).map fun xs => (xs, guardD h1 u)) h1
  | .rng1 a, env, h => (sem a env h).bind fun u h1 => match u with
    | .int i => .of ((rngD 0 i 1).map fun xs => (xs, [])) h1
    | _ => .stuck
  | .rng2 a b, env, h => (sem a env h).bind fun u h1 => (sem b env h1).bind fun v h2 => match u, v with
    | .int i, .int j => .of ((rngD i j 1).map fun xs => (xs, [])) h2
    | _, _ => .stuck
  | .rng3 a b c, env, h => (sem a env h).bind fun u h1 => (sem b env h1).bind fun v h2 => (sem c env h2).bind fun w h3 => match u, v, w with
    | .int i, .int j, .int k => .of ((rngD i j k).map fun xs => (xs, [])) h3
    | _, _, _ => .stuck
  | .enum e, env, h => (sem e env h).bind fun u h1 => .of ((seqD h1 u).map fun xs => (enumD xs, guardD h1 u)) h1
  | .zip a b, env, h => (sem a env h).bind fun u h1 => (sem b env h1).bind fun v h2 =>
      .of (match seqD h2 u, seqD h2 v with
        | some xs, some ys => if alikeD u v = true then some (zipD xs ys, guardD h2 u ++ guardD h2 v) else none
        | _, _ => none) h2
end

def ancOf (P : Prog) (e : Ex) (c : Nat) : Bool := match P.excs[e.1]? with
  | some ei => ei.anc.contains c
  | none => false
end
section
variable (call : Nat → List D → Hh → Res D) (P : Prog)
/-- a test's answer -/
noncomputable def semB (x : Option Ex) (e : ME) (env : Env) (h : Hh) : Res Bool := (sem call P x e env h).bind fun u h1 => Res.of (truthD h1 u) h1
mutual
noncomputable def ssem : MS → Option Ex → Env → Hh → SR
  | .set t e, x, env, h => (sem call P x e env h).then env fun d h1 => match setT t d env with
    | some env1 => .nx env1 h1
    | none => .stuck
  | .sets a i e, x, env, h => (sem call P x e env h).then env fun d h1 => (sem call P x a env h1).then env fun u h2 => (sem call P x i env h2).then env fun k h3 => match setD h3 u k d with
    | some h4 => .nx env h4
    | none => .stuck
  | .setf a f e, x, env, h => (sem call P x e env h).then env fun d h1 => (sem call P x a env h1).then env fun u h2 => match u with
    | .ref p => match h2[p]? with
      | some (.ins c fs) => match P.inss[c]? with
        | some ci => if fs.length < 1000 ∧ f ∈ ci.flds then .nx env (h2.set p (.ins c (putF f d fs))) else .stuck
        | none => .stuck
      | _ => .stuck
    | _ => .stuck
  | .aug i o e, x, env, h => match env[i]? with
    | some (some (.int u)) => (sem call P x e env h).then env fun v h1 => match v, o with
      | .int k, .Add => .nx (env.set i (some (.int (u + k)))) h1
      | .int k, .Sub => .nx (env.set i (some (.int (u - k)))) h1
      | _, _ => .stuck
    | _ => .stuck
  | .augf a f o e, x, env, h => (sem call P x a env h).then env fun u h1 => match u with
    | .ref p => match h1[p]? with
      | some (.ins c fs) => match fs.lookup f with
        | some (.int u) => (sem call P x e env h1).then env fun v h2 => match h2[p]?, v, o with
          | some (.ins c' fs'), .int k, .Add => if fs'.length < 1000 ∧ c' = c then .nx env (h2.set p (.ins c' (putF f (.int (u + k)) fs'))) else .stuck
          | some (.ins c' fs'), .int k, .Sub => if fs'.length < 1000 ∧ c' = c then .nx env (h2.set p (.ins c' (putF f (.int (u - k)) fs'))) else .stuck
          | _, _, _ => .stuck
        | _ => .stuck
      | _ => .stuck
    | _ => .stuck
  | .ife c a b, x, env, h => (semB call P x c env h).then env fun k h1 => if k = true then ssems a x env h1 else ssems b x env h1
  | .loop t it b, x, env, h => (semI call P x it env h).then env fun dg h1 => loopM dg.2 t (ssems b x) dg.1 env h1
  | .whl c b, x, env, h => whileM (semB call P x c) (ssems b x) env h
  | .ret e, x, env, h => (sem call P x e env h).then env fun d h1 => .ret d h1
  | .retN, _, env, h => .ret .non h
  | .exp e, x, env, h => (sem call P x e env h).then env fun _ h1 => .nx env h1
  | .pass, _, env, h => .nx env h
  | .brk, _, env, h => .brk env h
  | .cont, _, env, h => .ct env h
  | .raise c es, x, env, h => (semA call P x es env h).then env fun ds h1 => match P.excs[c]? with
    | some ei => if ds.length = ei.fields.length then .exc (c, ei.fields.zip ds) env h1 else .stuck
    | none => .stuck
  | .tryx b c i s, x, env, h => match ssems b x env h with
    | .exc e env1 h1 => if ancOf P e c = true then (if i < env1.length then
        match ssems s (some e) (env1.set i none) h1 with
        | .nx env2 h2 => .nx (env2.set i none) h2
        | .brk env2 h2 => .brk (env2.set i none) h2
        | .ct env2 h2 => .ct (env2.set i none) h2
        | .ret d h2 => .ret d h2
        | _ => .stuck
        else .stuck)
      else .exc e env1 h1
    | r => r
  | .any, _, _, _ => .stuck
noncomputable def ssems : MSs → Option Ex → Env → Hh → SR
  | .nil, _, env, h => .nx env h
  | .cons s ss, x, env, h => (ssem s x env h).bind fun env1 h1 => ssems ss x env1 h1
end
end

/-! ### calls -/
mutual
/-- all places that d names are below n -/
def D.lo (n : Nat) : D → Bool
  | .tup xs => los n xs
  | .lst xs => los n xs
  | .ref i => decide (i < n)
  | _ => true
def los (n : Nat) : List D → Bool
  | [] => true
  | x :: xs => x.lo n && los n xs
end
open Classical in
/-- behind a call: what nobody names any more is forgotten -/
noncomputable def gcD (h : Hh) (d : D) (h' : Hh) : Res D := if d.lo h.length = true ∧ h'.take h.length = h then .ok d h else .ok d h'
open Classical in
noncomputable def gcX (h : Hh) (e : Ex) (h' : Hh) : Res D := if los h.length (e.2.map (·.2)) = true ∧ h'.take h.length = h then .exc e h else .exc e h'
noncomputable def runF (call : Nat → List D → Hh → Res D) (P : Prog) (fd : FInfo) (ds : List D) (h : Hh) : Res D :=
  if ds.length = fd.params then
    match ssems call P fd.body none (ds.map some ++ List.replicate (fd.slots.length - ds.length) none) h with
    | .nx _ h' => gcD h .non h'
    | .ret d h' => gcD h d h'
    | .exc e _ h' => gcX h e h'
    | _ => .stuck
  else .stuck
/-- the defs, so many calls deep -/
noncomputable def den (P : Prog) : Nat → Nat → List D → Hh → Res D
  | 0, _, _, _ => .stuck
  | n + 1, f, ds, h => match P.fns[f]? with
    | some fd => runF (den P n) P fd ds h
    | none => .stuck
end Mi
end
section
set_option Elab.async false
set_option linter.all false
set_option maxRecDepth 100000
namespace Mi
open PySem L2

/-- a handled exception: the object, its slot, what it is -/
structure Hot where
  a : Addr
  i : Nat
  e : Ex
  cls : Value
  dd : Option Addr
/-- what stands around: the written part, the module's names, the program, the handled exception with its slot -/
structure Gam where
  K : PySem.W.Frag
  mg : Str → Option Value
  P : Prog
  hot : Option Hot
abbrev gm (X : Cx) (P : Prog) (hot : Option Hot) : Gam := ⟨X.K, X.mg, P, hot⟩

/-- the addresses of the places, and those that nobody may touch -/
structure Pl where
  pl : List Addr
  ex : List Addr
def Pl.has (ρ : Pl) (a : Addr) : Prop := a ∈ ρ.pl ∨ a ∈ ρ.ex
instance : Membership Addr Pl := ⟨Pl.has⟩
def Pl.push (ρ : Pl) (a : Addr) : Pl := ⟨ρ.pl ++ [a], ρ.ex⟩
/-- one more that nobody may touch -/
def Pl.hide (ρ : Pl) (a : Addr) : Pl := ⟨ρ.pl, a :: ρ.ex⟩
theorem Pl.not_mem {ρ : Pl} {a : Addr} : a ∉ ρ ↔ a ∉ ρ.pl ∧ a ∉ ρ.ex := not_or
theorem Pl.in_ {ρ : Pl} {a : Addr} {i : Nat} (e : ρ.pl[i]? = some a) : a ∈ ρ := .inl (List.mem_of_getElem? e)
def KTup (K : PySem.W.Frag) (a : Addr) (vs : List V) : Prop := ∃ (o : Obj) (its : Array Value) (n : Nat), K.lookup a = some o ∧ o.cls = .type "tuple" ∧ o.data = .seq its n ∧ its.size ≤ sizeLine ∧ Vals vs its.toList
def KLst (K : PySem.W.Frag) (a : Addr) (vs : List V) : Prop := ∃ (o : Obj) (its : Array Value) (n : Nat), K.lookup a = some o ∧ o.cls = .type "list" ∧ o.dict = none ∧ o.data = .seq its n ∧ its.size ≤ sizeLine ∧ Vals vs its.toList
def TupAt (K : PySem.W.Frag) (ρ : Pl) (H : Hp) (a : Addr) (vs : List V) : Prop := (Rd H a (.tup vs) ∧ a ∉ ρ) ∨ KTup K a vs
def LstAt (ρ : Pl) (H : Hp) (a : Addr) (vs : List V) : Prop := H a = some (.lst vs) ∧ a ∉ ρ
/-- a list that the program does not own: the script -/
def ScrAt (K : PySem.W.Frag) (ρ : Pl) (H : Hp) (a : Addr) (vs : List V) : Prop := (Rd H a (.lst vs) ∧ a ∉ ρ) ∨ KLst K a vs
section
variable {K : PySem.W.Frag} {ρ ρ' ρ'' : Pl} {H H' H'' : Hp} {a : Addr} {vs : List V}
theorem TupAt.sq (t : TupAt K ρ H a vs) : SqT K H a vs := t.imp (·.1) id
theorem LstAt.sq (t : LstAt ρ H a vs) : SqL K H a vs := .inl (.inl t.1)
theorem ScrAt.sq (t : ScrAt K ρ H a vs) : SqL K H a vs := t.imp (·.1) id
/-- what was tracked and was no place of the small heap stands as it stood -/
def Wk (ρ : Pl) (H : Hp) (ρ' : Pl) (H' : Hp) : Prop := (∀ (i : Nat) (a : Addr), ρ.pl[i]? = some a → ρ'.pl[i]? = some a) ∧ ∀ b o, H b = some o → b ∉ ρ → H' b = some o ∧ b ∉ ρ'
/-- .. and what nobody may touch -/
def Ext (ρ : Pl) (H : Hp) (ρ' : Pl) (H' : Hp) : Prop := Wk ρ H ρ' H' ∧ ρ'.ex = ρ.ex ∧ ∀ b ∈ ρ.ex, H' b = H b
theorem Wk.refl : Wk ρ H ρ H := ⟨fun _ _ e => e, fun _ _ e n => ⟨e, n⟩⟩
theorem Wk.trans (x : Wk ρ H ρ' H') (y : Wk ρ' H' ρ'' H'') : Wk ρ H ρ'' H'' :=
  ⟨fun i a e => y.1 i a (x.1 i a e), fun b o e n => let ⟨e1, n1⟩ := x.2 b o e n; y.2 b o e1 n1⟩
theorem Ext.refl : Ext ρ H ρ H := ⟨.refl, rfl, fun _ _ => rfl⟩
theorem Ext.trans (x : Ext ρ H ρ' H') (y : Ext ρ' H' ρ'' H'') : Ext ρ H ρ'' H'' :=
  ⟨x.1.trans y.1, y.2.1.trans x.2.1, fun b hb => (y.2.2 b (by rw [x.2.1]; exact hb)).trans (x.2.2 b hb)⟩
theorem rd_ext {o : HO} (r : Rd H a o) (n : a ∉ ρ) (x : Wk ρ H ρ' H') : Rd H' a o ∧ a ∉ ρ' := by
  rcases r with r | ⟨q, r⟩
  · exact ⟨.inl (x.2 a _ r n).1, (x.2 a _ r n).2⟩
  · exact ⟨.inr ⟨q, (x.2 a _ r n).1⟩, (x.2 a _ r n).2⟩
theorem TupAt.wk (t : TupAt K ρ H a vs) (x : Wk ρ H ρ' H') : TupAt K ρ' H' a vs := t.imp (fun t => rd_ext t.1 t.2 x) id
theorem LstAt.wk (t : LstAt ρ H a vs) (x : Wk ρ H ρ' H') : LstAt ρ' H' a vs := x.2 a _ t.1 t.2
theorem ScrAt.wk (t : ScrAt K ρ H a vs) (x : Wk ρ H ρ' H') : ScrAt K ρ' H' a vs := t.imp (fun t => rd_ext t.1 t.2 x) id
end

mutual
/-- v is d -/
def Rep (K : PySem.W.Frag) (ρ : Pl) (H : Hp) : D → V → Prop
  | .non, v => v = .non
  | .bl b, v => v = .bl b
  | .int i, v => v = .int i
  | .str s, v => v = .str s
  | .tup ds, v => ∃ a vs, v = .ref a ∧ TupAt K ρ H a vs ∧ Reps K ρ H ds vs
  | .lst ds, v => ∃ a vs, v = .ref a ∧ LstAt ρ H a vs ∧ Reps K ρ H ds vs
  | .ref i, v => ∃ a, v = .ref a ∧ ρ.pl[i]? = some a
  | .scr ns, v => ∃ a, v = .ref a ∧ ScrAt K ρ H a (ns.map V.int)
def Reps (K : PySem.W.Frag) (ρ : Pl) (H : Hp) : List D → List V → Prop
  | [], vs => vs = []
  | d :: ds, vs => ∃ v r, vs = v :: r ∧ Rep K ρ H d v ∧ Reps K ρ H ds r
end
section
variable {K : PySem.W.Frag} {ρ ρ' ρ'' : Pl} {H H' H'' : Hp}
mutual
theorem Rep.wk (x : Wk ρ H ρ' H') : ∀ (d : D) {v : V}, Rep K ρ H d v → Rep K ρ' H' d v
  | .non, _, r => r
  | .bl _, _, r => r
  | .int _, _, r => r
  | .str _, _, r => r
  | .tup ds, _, r => by
    simp only [Rep] at r ⊢
    obtain ⟨a, vs, e, t, q⟩ := r
    exact ⟨a, vs, e, t.wk x, Reps.wk x ds q⟩
  | .lst ds, _, r => by
    simp only [Rep] at r ⊢
    obtain ⟨a, vs, e, t, q⟩ := r
    exact ⟨a, vs, e, t.wk x, Reps.wk x ds q⟩
  | .ref i, _, r => by
    simp only [Rep] at r ⊢
    obtain ⟨a, e, q⟩ := r
    exact ⟨a, e, x.1 i a q⟩
  | .scr ns, _, r => by
    simp only [Rep] at r ⊢
    obtain ⟨a, e, q⟩ := r
    exact ⟨a, e, q.wk x⟩
theorem Reps.wk (x : Wk ρ H ρ' H') : ∀ (ds : List D) {vs : List V}, Reps K ρ H ds vs → Reps K ρ' H' ds vs
  | [], _, r => by
    simp only [Reps] at r ⊢
    exact r
  | d :: ds, _, r => by
    simp only [Reps] at r ⊢
    obtain ⟨v, q, e, r1, r2⟩ := r
    exact ⟨v, q, e, Rep.wk x d r1, Reps.wk x ds r2⟩
end
theorem Rep.mono (x : Ext ρ H ρ' H') (d : D) {v : V} (r : Rep K ρ H d v) : Rep K ρ' H' d v := Rep.wk x.1 d r
theorem Reps.mono (x : Ext ρ H ρ' H') (ds : List D) {vs : List V} (r : Reps K ρ H ds vs) : Reps K ρ' H' ds vs := Reps.wk x.1 ds r
theorem Reps.length : ∀ {ds : List D} {vs : List V}, Reps K ρ H ds vs → vs.length = ds.length
  | [], _, r => by simp only [Reps] at r; rw [r]; rfl
  | d :: ds, _, r => by
    simp only [Reps] at r
    obtain ⟨v, q, rfl, _, r2⟩ := r
    simp [Reps.length r2]
theorem Reps.nil : Reps K ρ H [] [] := by simp only [Reps]
theorem Reps.cons {d : D} {ds : List D} {v : V} {vs : List V} (r : Rep K ρ H d v) (rs : Reps K ρ H ds vs) : Reps K ρ H (d :: ds) (v :: vs) := by
  simp only [Reps]
  exact ⟨v, vs, rfl, r, rs⟩
theorem Reps.cons_of {d : D} {ds : List D} {vs : List V} (r : Reps K ρ H (d :: ds) vs) : ∃ v q, vs = v :: q ∧ Rep K ρ H d v ∧ Reps K ρ H ds q := by
  simp only [Reps] at r
  exact r
theorem Reps.nil_of {vs : List V} (r : Reps K ρ H [] vs) : vs = [] := by
  simp only [Reps] at r
  exact r
theorem Reps.append : ∀ {ds es : List D} {vs ws : List V}, Reps K ρ H ds vs → Reps K ρ H es ws → Reps K ρ H (ds ++ es) (vs ++ ws)
  | [], _, _, _, r, q => by rw [r.nil_of]; exact q
  | d :: ds, _, _, _, r, q => by
    obtain ⟨v, z, rfl, r1, r2⟩ := r.cons_of
    exact .cons r1 (Reps.append r2 q)
theorem Reps.get : ∀ {ds : List D} {vs : List V} {i : Nat} {d : D}, Reps K ρ H ds vs → ds[i]? = some d → ∃ v, vs[i]? = some v ∧ Rep K ρ H d v
  | [], _, _, _, _, e => by simp at e
  | d :: ds, _, 0, _, r, e => by
    obtain ⟨v, z, rfl, r1, r2⟩ := r.cons_of
    simp at e
    subst e
    exact ⟨v, rfl, r1⟩
  | d :: ds, _, i + 1, _, r, e => by
    obtain ⟨v, z, rfl, r1, r2⟩ := r.cons_of
    obtain ⟨w, e1, q⟩ := Reps.get (i := i) r2 (by simpa using e)
    exact ⟨w, by simpa using e1, q⟩
theorem Reps.getV : ∀ {ds : List D} {vs : List V} {i : Nat} {v : V}, Reps K ρ H ds vs → vs[i]? = some v → ∃ d, ds[i]? = some d ∧ Rep K ρ H d v := fun {ds vs i v} r e => by
  have hl := r.length
  have hi : i < ds.length := by rw [← hl]; exact (List.getElem?_eq_some_iff.mp e).1
  obtain ⟨w, e1, q⟩ := r.get (List.getElem?_eq_getElem hi)
  rw [e] at e1
  cases e1
  exact ⟨_, List.getElem?_eq_getElem hi, q⟩
theorem Reps.set {d : D} {v : V} (rd : Rep K ρ H d v) : ∀ {ds : List D} {vs : List V} (i : Nat), Reps K ρ H ds vs → Reps K ρ H (ds.set i d) (vs.set i v)
  | [], _, _, r => by rw [r.nil_of]; exact Reps.nil
  | e :: ds, _, 0, r => by
    obtain ⟨w, z, rfl, r1, r2⟩ := r.cons_of
    exact .cons rd r2
  | e :: ds, _, i + 1, r => by
    obtain ⟨w, z, rfl, r1, r2⟩ := r.cons_of
    exact .cons r1 (Reps.set rd i r2)
theorem Reps.drop : ∀ {ds : List D} {vs : List V} (n : Nat), Reps K ρ H ds vs → Reps K ρ H (ds.drop n) (vs.drop n)
  | _, _, 0, r => r
  | [], _, _ + 1, r => by rw [r.nil_of]; exact Reps.nil
  | d :: ds, _, n + 1, r => by
    obtain ⟨w, z, rfl, r1, r2⟩ := r.cons_of
    exact Reps.drop n r2
theorem Reps.take : ∀ {ds : List D} {vs : List V} (n : Nat), Reps K ρ H ds vs → Reps K ρ H (ds.take n) (vs.take n)
  | _, _, 0, r => Reps.nil
  | [], _, _ + 1, r => by rw [r.nil_of]; exact Reps.nil
  | d :: ds, _, n + 1, r => by
    obtain ⟨w, z, rfl, r1, r2⟩ := r.cons_of
    exact .cons r1 (Reps.take n r2)
theorem Reps.dropLast {ds : List D} {vs : List V} (r : Reps K ρ H ds vs) : Reps K ρ H ds.dropLast vs.dropLast := by
  rw [List.dropLast_eq_take, List.dropLast_eq_take, r.length]
  exact r.take _
theorem Reps.eraseIdx : ∀ {ds : List D} {vs : List V} (n : Nat), Reps K ρ H ds vs → Reps K ρ H (ds.eraseIdx n) (vs.eraseIdx n)
  | [], _, _, r => by rw [r.nil_of]; exact Reps.nil
  | d :: ds, _, 0, r => by
    obtain ⟨w, z, rfl, r1, r2⟩ := r.cons_of
    exact r2
  | d :: ds, _, n + 1, r => by
    obtain ⟨w, z, rfl, r1, r2⟩ := r.cons_of
    exact .cons r1 (Reps.eraseIdx n r2)
theorem Reps.rep {ds : List D} {vs : List V} (r : Reps K ρ H ds vs) : ∀ k : Nat, Reps K ρ H (List.replicate k ds).flatten (List.replicate k vs).flatten
  | 0 => Reps.nil
  | k + 1 => by
    rw [List.replicate_succ, List.replicate_succ, List.flatten_cons, List.flatten_cons]
    exact r.append (Reps.rep r k)
theorem Reps.ints {ns : List Int} : Reps K ρ H (ns.map D.int) (ns.map V.int) := by
  induction ns with
  | nil => exact Reps.nil
  | cons n ns ih => exact .cons (by simp only [Rep]) ih
theorem Reps.ints_of : ∀ {ds : List D} {vs : List V} {ns : List Int}, Reps K ρ H ds vs → intsD ds = some ns → vs = ns.map V.int
  | [], _, _, r, e => by
    simp only [intsD, Option.some.injEq] at e
    subst e
    rw [r.nil_of]
    rfl
  | d :: ds, _, _, r, e => by
    obtain ⟨w, z, rfl, r1, r2⟩ := r.cons_of
    cases d with
    | int i =>
      simp only [intsD, Option.map_eq_some_iff] at e
      obtain ⟨ms, e1, rfl⟩ := e
      simp only [Rep] at r1
      rw [r1, Reps.ints_of r2 e1]
      rfl
    | _ => simp only [intsD] at e; cases e
theorem Reps.bls_of : ∀ {ds : List D} {vs : List V} {ns : List Bool}, Reps K ρ H ds vs → blsD ds = some ns → vs = ns.map V.bl
  | [], _, _, r, e => by
    simp only [blsD, Option.some.injEq] at e
    subst e
    rw [r.nil_of]
    rfl
  | d :: ds, _, _, r, e => by
    obtain ⟨w, z, rfl, r1, r2⟩ := r.cons_of
    cases d with
    | bl i =>
      simp only [blsD, Option.map_eq_some_iff] at e
      obtain ⟨ms, e1, rfl⟩ := e
      simp only [Rep] at r1
      rw [r1, Reps.bls_of r2 e1]
      rfl
    | _ => simp only [blsD] at e; cases e
end

/-! ### the small heap, the slots -/
def RKV {κ : Type} (K : PySem.W.Frag) (ρ : Pl) (H : Hp) : List (κ × D) → List (κ × V) → Prop := Paired fun p q => p.1 = q.1 ∧ Rep K ρ H p.2 q.2
def RepO (Γ : Gam) (ρ : Pl) (H : Hp) (a : Addr) : O → Prop
  | .lst ds => ∃ vs, H a = some (.lst vs) ∧ Reps Γ.K ρ H ds vs
  | .dct kvs => ∃ vs, H a = some (.dK vs) ∧ RKV Γ.K ρ H kvs vs
  | .dtt kvs => ∃ vs, H a = some (.dT vs) ∧ RKV Γ.K ρ H kvs vs
  | .ins c fs => ∃ C dx vs ci, Γ.P.inss[c]? = some ci ∧ Γ.mg ci.name = some (.ref C) ∧ H a = some (.ins C dx vs) ∧ RKV Γ.K ρ H fs vs ∧ ∀ q ∈ fs, q.1 ∈ ci.flds
structure RH (Γ : Gam) (ρ : Pl) (H : Hp) (h : Hh) : Prop where
  nd : ∀ (i j : Nat) (a : Addr), ρ.pl[i]? = some a → ρ.pl[j]? = some a → i = j
  len : ρ.pl.length = h.length
  ob : ∀ (i : Nat) (a : Addr) (o : O), ρ.pl[i]? = some a → h[i]? = some o → RepO Γ ρ H a o
  sep : ∀ a ∈ ρ.pl, a ∉ ρ.ex
  exs : ∀ a ∈ ρ.ex, ∃ u, H a = some u
def RExc (Γ : Gam) (ρ : Pl) (H : Hp) (e : Ex) (cls : Value) (dd : Option Addr) : Prop :=
  ∃ C ei, Γ.P.excs[e.1]? = some ei ∧ Γ.mg ei.name = some (.ref C) ∧ cls = .ref C ∧
    ((dd = none ∧ e.2 = []) ∨ ∃ b fs, dd = some b ∧ H b = some (.xd fs) ∧ b ∉ ρ ∧ ∀ f d, e.2.lookup f = some d → ∃ v, fs.lookup f = some v ∧ Rep Γ.K ρ H d v)
structure RE (Γ : Gam) (ρ : Pl) (H : Hp) (env : Env) (σ : St) : Prop where
  len : env.length = σ.length
  get : ∀ (i : Nat) (d : D), env[i]? = some (some d) → ∃ v, σ[i]? = some (some v) ∧ Rep Γ.K ρ H d v
  hot : ∀ t, Γ.hot = some t → σ[t.i]? = some (some (.ref t.a)) ∧ env[t.i]? = some none ∧ RExc Γ ρ H t.e t.cls t.dd
section
variable {Γ : Gam} {ρ ρ' ρ'' : Pl} {H H' H'' : Hp} {h h' : Hh} {env : Env} {σ : St}
theorem RKV.wk {κ : Type} {K : PySem.W.Frag} (x : Wk ρ H ρ' H') {ds : List (κ × D)} {vs : List (κ × V)} (r : RKV K ρ H ds vs) : RKV K ρ' H' ds vs := Paired.mapP r fun _ _ q => ⟨q.1, q.2.wk x⟩
theorem RKV.mono {κ : Type} {K : PySem.W.Frag} (x : Ext ρ H ρ' H') {ds : List (κ × D)} {vs : List (κ × V)} (r : RKV K ρ H ds vs) : RKV K ρ' H' ds vs := Paired.mapP r fun _ _ q => ⟨q.1, q.2.mono x⟩
theorem RExc.wk (x : Wk ρ H ρ' H') {e : Ex} {cls : Value} {dd : Option Addr} (r : RExc Γ ρ H e cls dd) : RExc Γ ρ' H' e cls dd := by
  obtain ⟨C, ei, h1, h2, h3, h4⟩ := r
  refine ⟨C, ei, h1, h2, h3, h4.imp id ?_⟩
  rintro ⟨b, fs, e1, e2, e3, k⟩
  refine ⟨b, fs, e1, (x.2 b _ e2 e3).1, (x.2 b _ e2 e3).2, fun f d q => ?_⟩
  obtain ⟨v, e4, e5⟩ := k f d q
  exact ⟨v, e4, e5.wk x⟩
theorem RExc.mono (x : Ext ρ H ρ' H') {e : Ex} {cls : Value} {dd : Option Addr} (r : RExc Γ ρ H e cls dd) : RExc Γ ρ' H' e cls dd := r.wk x.1
theorem RE.wk (x : Wk ρ H ρ' H') (r : RE Γ ρ H env σ) : RE Γ ρ' H' env σ := ⟨r.len, fun i d e => let ⟨v, e1, q⟩ := r.get i d e; ⟨v, e1, q.wk x⟩, fun t e => let ⟨a, b, c⟩ := r.hot t e; ⟨a, b, c.wk x⟩⟩
theorem RE.mono (x : Ext ρ H ρ' H') (r : RE Γ ρ H env σ) : RE Γ ρ' H' env σ := r.wk x.1
/-- what stands at a place is tracked -/
theorem RepO.some {a : Addr} {o : O} (r : RepO Γ ρ H a o) : ∃ u, H a = some u := by
  cases o with
  | lst ds => obtain ⟨vs, e, _⟩ := r; exact ⟨_, e⟩
  | dct ds => obtain ⟨vs, e, _⟩ := r; exact ⟨_, e⟩
  | dtt ds => obtain ⟨vs, e, _⟩ := r; exact ⟨_, e⟩
  | ins c ds => obtain ⟨_, _, _, _, _, _, e, _⟩ := r; exact ⟨_, e⟩
theorem RH.there (r : RH Γ ρ H h) {a : Addr} (ha : a ∈ ρ) : ∃ u, H a = some u := by
  rcases ha with ha | ha
  · obtain ⟨i, hi, e⟩ := List.mem_iff_getElem.mp ha
    have e1 : ρ.pl[i]? = some a := by rw [List.getElem?_eq_getElem hi, e]
    have h1 : i < h.length := by rw [← r.len]; exact hi
    exact (r.ob i a _ e1 (List.getElem?_eq_getElem h1)).some
  · exact r.exs a ha
theorem RH.new (r : RH Γ ρ H h) {a : Addr} (ha : H a = none) : a ∉ ρ := fun hm => by
  obtain ⟨u, e⟩ := r.there hm
  rw [ha] at e
  cases e
theorem RH.get (r : RH Γ ρ H h) {i : Nat} {o : O} (e : h[i]? = some o) : ∃ a, ρ.pl[i]? = some a ∧ RepO Γ ρ H a o := by
  have h1 : i < ρ.pl.length := by rw [r.len]; exact (List.getElem?_eq_some_iff.mp e).1
  exact ⟨ρ.pl[i], List.getElem?_eq_getElem h1, r.ob i _ o (List.getElem?_eq_getElem h1) e⟩
theorem RH.ref (r : RH Γ ρ H h) {i : Nat} {o : O} {v : V} (rv : Rep Γ.K ρ H (.ref i) v) (e : h[i]? = some o) : ∃ a, v = .ref a ∧ ρ.pl[i]? = some a ∧ RepO Γ ρ H a o := by
  simp only [Rep] at rv
  obtain ⟨a, e1, e2⟩ := rv
  exact ⟨a, e1, e2, r.ob i a o e2 e⟩
/-- an object is made that is no place: a tuple, a list that nobody changes -/
theorem Ext.laid {p : Addr} {o : HO} (r : RH Γ ρ H h) (hp : H p = none) : Ext ρ H ρ (upd H p o) :=
  ⟨⟨fun _ _ e => e, fun b u e n => ⟨by rw [upd_ne (ne_of_none e hp)]; exact e, n⟩⟩, rfl, fun b hb => upd_ne (let ⟨_, e⟩ := r.exs b hb; ne_of_none e hp)⟩
theorem RepO.wk_at {a : Addr} {o : O} (x : Wk ρ H ρ' H') (e : H' a = H a) (r : RepO Γ ρ H a o) : RepO Γ ρ' H' a o := by
  cases o with
  | lst ds => obtain ⟨vs, e1, q⟩ := r; exact ⟨vs, e.trans e1, Reps.wk x _ q⟩
  | dct ds => obtain ⟨vs, e1, q⟩ := r; exact ⟨vs, e.trans e1, q.wk x⟩
  | dtt ds => obtain ⟨vs, e1, q⟩ := r; exact ⟨vs, e.trans e1, q.wk x⟩
  | ins c ds => obtain ⟨C, dx, vs, ci, e1, e2, e3, q, q2⟩ := r; exact ⟨C, dx, vs, ci, e1, e2, e.trans e3, q.wk x, q2⟩
theorem RepO.mono_at {a : Addr} {o : O} (x : Ext ρ H ρ' H') (e : H' a = H a) (r : RepO Γ ρ H a o) : RepO Γ ρ' H' a o := r.wk_at x.1 e
theorem upd_some {H : Hp} {b p : Addr} {o u : HO} (e : H b = some u) : ∃ u, upd H p o b = some u := by
  by_cases h : b = p
  · exact ⟨o, by rw [h]; exact upd_same⟩
  · exact ⟨u, by rw [upd_ne h]; exact e⟩
theorem RH.laid {p : Addr} {o : HO} (r : RH Γ ρ H h) (hp : H p = none) : RH Γ ρ (upd H p o) h := by
  refine ⟨r.nd, r.len, fun i a u e1 e2 => (r.ob i a u e1 e2).mono_at (Ext.laid r hp) ?_, r.sep, fun b hb => let ⟨_, e⟩ := r.exs b hb; upd_some e⟩
  obtain ⟨z, ez⟩ := (r.ob i a u e1 e2).some
  exact upd_ne (ne_of_none ez hp)
theorem Pl.push_not {p b : Addr} (n : b ∉ ρ) (h : b ≠ p) : b ∉ ρ.push p := by
  rw [Pl.not_mem] at n ⊢
  refine ⟨fun z => ?_, n.2⟩
  have z' : b ∈ ρ.pl ++ [p] := z
  rw [List.mem_append, List.mem_singleton] at z'
  exact z'.elim n.1 h
/-- a new place -/
theorem Ext.alloc {p : Addr} {o : HO} (r : RH Γ ρ H h) (hp : H p = none) : Ext ρ H (ρ.push p) (upd H p o) := by
  refine ⟨⟨fun i a e => ?_, fun b u e n => ⟨by rw [upd_ne (ne_of_none e hp)]; exact e, Pl.push_not n (ne_of_none e hp)⟩⟩, rfl, fun b hb => upd_ne (let ⟨_, e⟩ := r.exs b hb; ne_of_none e hp)⟩
  show (ρ.pl ++ [p])[i]? = some a
  rw [List.getElem?_append_left (List.getElem?_eq_some_iff.mp e).1]
  exact e
theorem RH.alloc {p : Addr} {o : HO} {oo : O} (r : RH Γ ρ H h) (hp : H p = none) (ro : RepO Γ (ρ.push p) (upd H p o) p oo) : RH Γ (ρ.push p) (upd H p o) (h ++ [oo]) := by
  have np := (Pl.not_mem.mp (r.new hp)).1
  have hl := r.len
  have push : (ρ.push p).pl = ρ.pl ++ [p] := rfl
  refine ⟨fun i j a e1 e2 => ?_, by rw [push]; simp [r.len], fun i a u e1 e2 => ?_, fun a ha => ?_, fun b hb => let ⟨_, e⟩ := r.exs b hb; upd_some e⟩
  · rw [push] at e1 e2
    by_cases hi : i < ρ.pl.length
    · rw [List.getElem?_append_left hi] at e1
      by_cases hj : j < ρ.pl.length
      · rw [List.getElem?_append_left hj] at e2
        exact r.nd i j a e1 e2
      · rw [List.getElem?_append_right (by omega)] at e2
        have : a = p := by
          have z := List.mem_of_getElem? e2
          simpa using z
        subst this
        exact absurd (List.mem_of_getElem? e1) np
    · rw [List.getElem?_append_right (by omega)] at e1
      have ea : a = p := by
        have z := List.mem_of_getElem? e1
        simpa using z
      subst ea
      have h1 := (List.getElem?_eq_some_iff.mp e1).1
      by_cases hj : j < ρ.pl.length
      · rw [List.getElem?_append_left hj] at e2
        exact absurd (List.mem_of_getElem? e2) np
      · rw [List.getElem?_append_right (by omega)] at e2
        have h2 := (List.getElem?_eq_some_iff.mp e2).1
        simp at h1 h2
        omega
  · rw [push] at e1
    by_cases hi : i < ρ.pl.length
    · rw [List.getElem?_append_left hi] at e1
      rw [List.getElem?_append_left (by omega)] at e2
      obtain ⟨z, ez⟩ := (r.ob i a u e1 e2).some
      exact (r.ob i a u e1 e2).mono_at (Ext.alloc r hp) (upd_ne (ne_of_none ez hp))
    · rw [List.getElem?_append_right (by omega)] at e1
      rw [List.getElem?_append_right (by omega)] at e2
      have ea : a = p := by
        have z := List.mem_of_getElem? e1
        simpa using z
      have eu : u = oo := by
        have z := List.mem_of_getElem? e2
        simpa using z
      rw [ea, eu]
      exact ro
  · rw [push, List.mem_append, List.mem_singleton] at ha
    rcases ha with ha | rfl
    · exact r.sep a ha
    · exact (Pl.not_mem.mp (r.new hp)).2
/-- a place is written -/
theorem Ext.write {i : Nat} {a : Addr} {o : HO} (r : RH Γ ρ H h) (e : ρ.pl[i]? = some a) : Ext ρ H ρ (upd H a o) :=
  ⟨⟨fun _ _ e => e, fun b u e1 n => ⟨by rw [upd_ne (fun z => n (by rw [z]; exact Pl.in_ e))]; exact e1, n⟩⟩, rfl, fun b hb => upd_ne fun z => r.sep a (List.mem_of_getElem? e) (z ▸ hb)⟩
theorem RH.write {i : Nat} {a : Addr} {o : HO} {oo : O} (r : RH Γ ρ H h) (e : ρ.pl[i]? = some a) (ro : RepO Γ ρ (upd H a o) a oo) : RH Γ ρ (upd H a o) (h.set i oo) := by
  refine ⟨r.nd, by rw [List.length_set]; exact r.len, fun j b u e1 e2 => ?_, r.sep, fun b hb => let ⟨_, e⟩ := r.exs b hb; upd_some e⟩
  by_cases hj : j = i
  · subst hj
    rw [e] at e1
    cases e1
    have hi : j < h.length := by rw [← r.len]; exact (List.getElem?_eq_some_iff.mp e).1
    rw [List.getElem?_set_self hi] at e2
    cases e2
    exact ro
  · rw [List.getElem?_set_ne (Ne.symm hj)] at e2
    exact (r.ob j b u e1 e2).mono_at (Ext.write r e) (upd_ne fun z => hj (r.nd j i b e1 (by rw [z]; exact e)))
theorem RE.set {i : Nat} {d : D} {v : V} (r : RE Γ ρ H env σ) (rv : Rep Γ.K ρ H d v) (hh : ∀ t, Γ.hot = some t → t.i ≠ i) : RE Γ ρ H (env.set i (some d)) (σ.set i (some v)) := by
  refine ⟨by simp [r.len], fun j e q => ?_, fun t q => ?_⟩
  · by_cases hj : j = i
    · subst hj
      have hl : j < env.length := by
        have := (List.getElem?_eq_some_iff.mp q).1
        simpa using this
      rw [List.getElem?_set_self hl] at q
      cases q
      exact ⟨v, List.getElem?_set_self (by rw [← r.len]; exact hl), rv⟩
    · rw [List.getElem?_set_ne (Ne.symm hj)] at q
      obtain ⟨w, e1, q1⟩ := r.get j e q
      exact ⟨w, by rw [List.getElem?_set_ne (Ne.symm hj)]; exact e1, q1⟩
  · have hj := hh t q
    obtain ⟨e1, e2, e3⟩ := r.hot t q
    exact ⟨by rw [List.getElem?_set_ne (Ne.symm hj)]; exact e1, by rw [List.getElem?_set_ne (Ne.symm hj)]; exact e2, e3⟩
/-- a slot that is forgotten -/
theorem RE.forget {i : Nat} {v : Option V} (r : RE Γ ρ H env σ) (hh : Γ.hot = none) : RE Γ ρ H (env.set i none) (σ.set i v) := by
  refine ⟨by simp [r.len], fun j e q => ?_, fun t q => (by rw [hh] at q; cases q)⟩
  by_cases hj : j = i
  · subst hj
    have hl : j < env.length := by
      have := (List.getElem?_eq_some_iff.mp q).1
      simpa using this
    rw [List.getElem?_set_self hl] at q
    cases q
  · rw [List.getElem?_set_ne (Ne.symm hj)] at q
    obtain ⟨w, e1, q1⟩ := r.get j e q
    exact ⟨w, by rw [List.getElem?_set_ne (Ne.symm hj)]; exact e1, q1⟩
theorem RE.wipe (r : RE Γ ρ H env σ) (hh : Γ.hot = none) : ∀ vs : List Nat, RE Γ ρ H (Mi.wipe env vs) (L2.wipe σ vs)
  | [] => r
  | v :: vs => (RE.wipe r hh vs).forget hh
end

/-! ### what is wanted behind a step -/
def Post {α : Type} (Γ : Gam) (W : WX) (σ : St) (ρ : Pl) (H : Hp) (r : Res α) (k : α → Pl → Hp → Hh → Prop) : Prop := match r with
  | .ok a h' => ∀ ρ' H', Ext ρ H ρ' H' → RH Γ ρ' H' h' → k a ρ' H' h'
  | .exc e h' => ∀ cls dd ρ' H', Ext ρ H ρ' H' → RH Γ ρ' H' h' → RExc Γ ρ' H' e cls dd → W cls dd σ H'
  | .stuck => False
section
variable {α β : Type} {Γ : Gam} {W : WX} {σ : St} {ρ ρ' : Pl} {H H' : Hp} {h : Hh} {r : Res α} {f : α → Hh → Res β}
theorem Post.mono {k k' : α → Pl → Hp → Hh → Prop} (p : Post Γ W σ ρ H r k) (g : ∀ a h1 ρ1 H1, Ext ρ H ρ1 H1 → RH Γ ρ1 H1 h1 → k a ρ1 H1 h1 → k' a ρ1 H1 h1) : Post Γ W σ ρ H r k' := by
  cases r with
  | ok a h1 => exact fun ρ1 H1 x r1 => g a h1 ρ1 H1 x r1 (p ρ1 H1 x r1)
  | exc e h1 => exact p
  | stuck => exact p
theorem Post.later {k : α → Pl → Hp → Hh → Prop} (x : Ext ρ H ρ' H') (p : Post Γ W σ ρ H r k) : Post Γ W σ ρ' H' r k := by
  cases r with
  | ok a h1 => exact fun ρ1 H1 y r1 => p ρ1 H1 (x.trans y) r1
  | exc e h1 => exact fun cls dd ρ1 H1 y r1 => p cls dd ρ1 H1 (x.trans y) r1
  | stuck => exact p
theorem Post.bind {k : β → Pl → Hp → Hh → Prop} {k' : α → Pl → Hp → Hh → Prop} (p : Post Γ W σ ρ H (r.bind f) k)
    (g : ∀ a h1 ρ1 H1, Ext ρ H ρ1 H1 → RH Γ ρ1 H1 h1 → Post Γ W σ ρ1 H1 (f a h1) k → k' a ρ1 H1 h1) : Post Γ W σ ρ H r k' := by
  cases r with
  | ok a h1 => exact fun ρ1 H1 x r1 => g a h1 ρ1 H1 x r1 (Post.later x p)
  | exc e h1 => exact p
  | stuck => exact p
theorem Post.ok {a : α} {k : α → Pl → Hp → Hh → Prop} (r1 : RH Γ ρ H h) (p : Post Γ W σ ρ H (.ok a h) k) : k a ρ H h := p ρ H .refl r1
theorem Post.of {o : Option α} {k : α → Pl → Hp → Hh → Prop} (r1 : RH Γ ρ H h) (p : Post Γ W σ ρ H (.of o h) k) : ∃ a, o = some a ∧ Post Γ W σ ρ H (.ok a h) k := by
  cases o with
  | none => exact False.elim p
  | some a => exact ⟨a, rfl, p⟩
end

/-- an expression's reading -/
def tM (Γ : Gam) (W : WX) (m : Env → Hh → Res D) : TE := fun σ H Q => ∃ ρ env h, RH Γ ρ H h ∧ RE Γ ρ H env σ ∧ Post Γ W σ ρ H (m env h) fun d ρ' H' _ => ∀ v, Rep Γ.K ρ' H' d v → Q v H'
def tMb (Γ : Gam) (W : WX) (m : Env → Hh → Res Bool) : TT := fun σ H Q => ∃ ρ env h, RH Γ ρ H h ∧ RE Γ ρ H env σ ∧ Post Γ W σ ρ H (m env h) fun b _ H' _ => Q b H'
def tMa (Γ : Gam) (W : WX) (m : Env → Hh → Res (List D)) : TA := fun σ H Q => ∃ ρ env h, RH Γ ρ H h ∧ RE Γ ρ H env σ ∧ Post Γ W σ ρ H (m env h) fun ds ρ' H' _ => ∀ vs, Reps Γ.K ρ' H' ds vs → Q vs H'
/-- .. of what makes a list -/
def tMl (Γ : Gam) (W : WX) (m : Env → Hh → Res (List D)) : TE := fun σ H Q => ∃ ρ env h, RH Γ ρ H h ∧ RE Γ ρ H env σ ∧ Post Γ W σ ρ H (m env h) fun ds ρ' H' _ => ∀ p vs, Reps Γ.K ρ' H' ds vs → H' p = none → Q (.ref p) (upd H' p (.lst vs))
def SPost (Γ : Gam) (W : WX) (D : Ends) (ρ : Pl) (H : Hp) : SR → Prop
  | .nx env' h' => ∀ σ' ρ' H', Ext ρ H ρ' H' → RH Γ ρ' H' h' → RE Γ ρ' H' env' σ' → D.nx σ' H'
  | .brk env' h' => ∀ σ' ρ' H', Ext ρ H ρ' H' → RH Γ ρ' H' h' → RE Γ ρ' H' env' σ' → D.bk σ' H'
  | .ct env' h' => ∀ σ' ρ' H', Ext ρ H ρ' H' → RH Γ ρ' H' h' → RE Γ ρ' H' env' σ' → D.ct σ' H'
  | .ret d h' => ∀ v ρ' H', Ext ρ H ρ' H' → RH Γ ρ' H' h' → Rep Γ.K ρ' H' d v → D.rt v H'
  | .exc e env' h' => ∀ σ' cls dd ρ' H', Ext ρ H ρ' H' → RH Γ ρ' H' h' → RE Γ ρ' H' env' σ' → RExc Γ ρ' H' e cls dd → W cls dd σ' H'
  | .stuck => False
def tMs (Γ : Gam) (W : WX) (m : Env → Hh → SR) : TS := fun D σ H => ∃ ρ env h, RH Γ ρ H h ∧ RE Γ ρ H env σ ∧ SPost Γ W D ρ H (m env h)
section
variable {α : Type} {Γ : Gam} {W : WX} {σ : St} {ρ ρ' : Pl} {H H' : Hp} {h : Hh} {env : Env} {r : Res α} {D : Ends}
theorem SPost.later {r : SR} (x : Ext ρ H ρ' H') (p : SPost Γ W D ρ H r) : SPost Γ W D ρ' H' r := by
  cases r with
  | nx e h' => exact fun σ1 ρ1 H1 y => p σ1 ρ1 H1 (x.trans y)
  | brk e h' => exact fun σ1 ρ1 H1 y => p σ1 ρ1 H1 (x.trans y)
  | ct e h' => exact fun σ1 ρ1 H1 y => p σ1 ρ1 H1 (x.trans y)
  | ret d h' => exact fun σ1 ρ1 H1 y => p σ1 ρ1 H1 (x.trans y)
  | exc e env' h' => exact fun σ1 cls dd ρ1 H1 y => p σ1 cls dd ρ1 H1 (x.trans y)
  | stuck => exact p
theorem SPost.then {f : α → Hh → SR} {k : α → Pl → Hp → Hh → Prop} (re : RE Γ ρ H env σ) (p : SPost Γ W D ρ H (r.then env f))
    (g : ∀ a h1 ρ1 H1, Ext ρ H ρ1 H1 → RH Γ ρ1 H1 h1 → SPost Γ W D ρ1 H1 (f a h1) → k a ρ1 H1 h1) : Post Γ W σ ρ H r k := by
  cases r with
  | ok a h1 => exact fun ρ1 H1 x r1 => g a h1 ρ1 H1 x r1 (SPost.later x p)
  | exc e h1 => exact fun cls dd ρ1 H1 x r1 q => p σ cls dd ρ1 H1 x r1 (re.mono x) q
  | stuck => exact p
end
end Mi
end
section
set_option Elab.async false
set_option linter.all false
set_option maxRecDepth 100000
namespace Mi
open PySem PySem.Spec PyProof.Rows L2

theorem _root_.L2.PE.imp {X : Cx} {e : Expr} {t t' : TE} (h : PE X e t) (i : ∀ σ H Q, t' σ H Q → t σ H Q) : PE X e t' := ⟨fun pins s σ H Q I q => h.run pins s σ H Q I (i σ H Q q)⟩
theorem _root_.L2.PT.imp {X : Cx} {e : Expr} {t t' : TT} (h : PT X e t) (i : ∀ σ H Q, t' σ H Q → t σ H Q) : PT X e t' := ⟨fun pins s σ H Q I q => h.run pins s σ H Q I (i σ H Q q)⟩
theorem _root_.L2.PW.imp {X : Cx} {e : Expr} {t t' : TT} (h : PW X e t) (i : ∀ σ H Q, t' σ H Q → t σ H Q) : PW X e t' := ⟨fun wh pins s σ H Q I q => h.run wh pins s σ H Q I (i σ H Q q)⟩
theorem _root_.L2.PA.imp {X : Cx} {e : List Expr} {t t' : TA} (h : PA X e t) (i : ∀ σ H Q, t' σ H Q → t σ H Q) : PA X e t' := ⟨fun pos pins s σ H Q I q => h.run pos pins s σ H Q I (i σ H Q q)⟩
theorem _root_.L2.PS.imp {X : Cx} {e : Stmt} {t t' : TS} (h : PS X e t) (i : ∀ D σ H, t' D σ H → t D σ H) : PS X e t' := ⟨fun pins s σ H D I q => h.run pins s σ H D I (i D σ H q)⟩
theorem _root_.L2.PSs.imp {X : Cx} {e : List Stmt} {t t' : TS} (h : PSs X e t) (i : ∀ D σ H, t' D σ H → t D σ H) : PSs X e t' := ⟨fun pins s σ H D I q => h.run pins s σ H D I (i D σ H q)⟩

section
variable {X : Cx} {P : Prog} {hot : Option Hot} {W : WX} {call : Nat → List D → Hh → Res D} {x : Option Ex}
variable {e a b c : Expr} {pos : Pos} {ma mb mc : Env → Hh → Res D}

theorem r_var {i : Nat} {y : Str} (hN : X.N[i]? = some y) (hv : Vis X.env.scope y) (hd : (y == ("__debug__" : Str)) = false) (hcd : (y == ("__classdict__" : Str)) = false) :
    PE X (.Name y pos) (tM (gm X P hot) W (sem call P x (.var i))) := by
  refine (pe_var hN hv hd hcd).imp fun σ H Q ⟨ρ, env, h, rh, re, p⟩ => ?_
  simp only [sem] at p
  split at p
  · rename_i d he
    obtain ⟨v, e1, r⟩ := re.get i d he
    exact ⟨v, e1, p.ok rh v r⟩
  · exact False.elim p
theorem r_lit {d : D} {v : V} (hp : PE X e (L2.tC v)) (hr : ∀ ρ H, Rep X.K ρ H d v) : PE X e (tM (gm X P hot) W (sem call P x (.lit d))) := by
  refine hp.imp fun σ H Q ⟨ρ, env, h, rh, re, p⟩ => ?_
  simp only [sem] at p
  exact p.ok rh v (hr ρ H)
theorem r_glb {g : Nat} {y : Str} {d : D} {v : V} {u : Value} (hg : Gl X y) (hm : X.mg y = some u) (r : RelV v u) (hd : (y == ("__debug__" : Str)) = false) (hc : P.consts[g]? = some (y, d)) (hr : ∀ ρ H, Rep X.K ρ H d v) :
    PE X (.Name y pos) (tM (gm X P hot) W (sem call P x (.glb g))) := by
  refine (pe_glob hg hm r hd).imp fun σ H Q ⟨ρ, env, h, rh, re, p⟩ => ?_
  simp only [sem, hc] at p
  exact p.ok rh v (hr ρ H)

/-! ### two values -/
/-- an operator over values: what f says -/
def rD (X : Cx) (P : Prog) (hot : Option Hot) (f : Hh → D → D → Option D) : R2 := fun x y H Q => ∃ ρ h u v d, RH (gm X P hot) ρ H h ∧ Rep X.K ρ H u x ∧ Rep X.K ρ H v y ∧ f h u v = some d ∧
  ∀ w ρ' H', Ext ρ H ρ' H' → RH (gm X P hot) ρ' H' h → Rep X.K ρ' H' d w → Q w H'
theorem two (f : Hh → D → D → Option D) {σ : L2.St} {H : Hp} {Q : VK} {r : R2}
    (h : tM (gm X P hot) W (fun env h => (ma env h).bind fun u h1 => (mb env h1).bind fun v h2 => .of (f h2 u v) h2) σ H Q)
    (hr : ∀ x y H, rD X P hot f x y H Q → r x y H Q) : tOp r (tM (gm X P hot) W ma) (tM (gm X P hot) W mb) σ H Q := by
  obtain ⟨ρ, env, h, rh, re, p⟩ := h
  refine ⟨ρ, env, h, rh, re, p.bind fun u h1 ρ1 H1 x1 rh1 p1 v rv => ⟨ρ1, env, h1, rh1, re.mono x1, p1.bind fun w h2 ρ2 H2 x2 rh2 p2 z rz => hr _ _ _ ?_⟩⟩
  obtain ⟨d, e, p3⟩ := p2.of rh2
  exact ⟨ρ2, h2, u, w, d, rh2, rv.mono x2, rz, e, fun q ρ' H' x' r' rq => p3 ρ' H' x' r' q rq⟩
/-- ints alone -/
theorem rD_int {f : Hh → D → D → Option D} {C : Int → Int → Prop} {g : Int → Int → V} {gd : Int → Int → D} {x y : V} {H : Hp} {Q : VK}
    (hf : ∀ h u v d, f h u v = some d → ∃ i j, u = .int i ∧ v = .int j ∧ C i j ∧ d = gd i j) (hg : ∀ i j ρ H, Rep X.K ρ H (gd i j) (g i j)) (q : rD X P hot f x y H Q) : rI C g x y H Q := by
  obtain ⟨ρ, h, u, v, d, rh, r1, r2, e, k⟩ := q
  obtain ⟨i, j, rfl, rfl, hc, rfl⟩ := hf h u v d e
  simp only [Rep] at r1 r2
  exact ⟨i, j, r1, r2, hc, k _ ρ H .refl rh (hg i j ρ H)⟩
theorem rI0_of {g : Int → Int → V} {x y : V} {H : Hp} {Q : VK} (h : rI (fun _ _ => True) g x y H Q) : rI0 g x y H Q := let ⟨i, j, a, b, _, q⟩ := h; ⟨i, j, a, b, q⟩
theorem rep_int {i : Int} {ρ : Pl} {H : Hp} {K : PySem.W.Frag} : Rep K ρ H (.int i) (.int i) := by simp only [Rep]
theorem rep_bl {i : Bool} {ρ : Pl} {H : Hp} {K : PySem.W.Frag} : Rep K ρ H (.bl i) (.bl i) := by simp only [Rep]
theorem rep_str {i : Str} {ρ : Pl} {H : Hp} {K : PySem.W.Frag} : Rep K ρ H (.str i) (.str i) := by simp only [Rep]
theorem rep_non {ρ : Pl} {H : Hp} {K : PySem.W.Frag} : Rep K ρ H .non .non := by simp only [Rep]

/-! ### sequences at places -/
section
variable {Γ : Gam} {ρ : Pl} {H : Hp} {h : Hh}
/-- a list of the program's own -/
theorem own_at (rh : RH Γ ρ H h) {u : D} {v : V} {xs : List D} (r : Rep Γ.K ρ H u v) (e : ownD h u = some xs) : ∃ a vs, v = .ref a ∧ H a = some (.lst vs) ∧ Reps Γ.K ρ H xs vs := by
  cases u with
  | lst ds =>
    simp only [ownD, Option.some.injEq] at e
    subst e
    simp only [Rep] at r
    obtain ⟨a, vs, e1, t, q⟩ := r
    exact ⟨a, vs, e1, t.1, q⟩
  | ref i =>
    simp only [ownD] at e
    split at e
    · rename_i zs hz
      cases e
      obtain ⟨a, e1, e2, vs, e3, q⟩ := rh.ref r hz
      exact ⟨a, vs, e1, e3, q⟩
    · cases e
  | _ => simp only [ownD] at e; cases e
/-- what has items is a list or a tuple at an address -/
theorem seq_at (rh : RH Γ ρ H h) {u : D} {v : V} {xs : List D} (r : Rep Γ.K ρ H u v) (e : seqD h u = some xs) :
    ∃ a vs, v = .ref a ∧ ((SqL Γ.K H a vs ∧ ∀ ds, u ≠ .tup ds) ∨ (SqT Γ.K H a vs ∧ u = .tup xs)) ∧ Reps Γ.K ρ H xs vs := by
  cases u with
  | tup ds =>
    simp only [seqD, Option.some.injEq] at e
    subst e
    simp only [Rep] at r
    obtain ⟨a, vs, e1, t, q⟩ := r
    exact ⟨a, vs, e1, .inr ⟨t.sq, rfl⟩, q⟩
  | lst ds =>
    simp only [seqD, Option.some.injEq] at e
    subst e
    simp only [Rep] at r
    obtain ⟨a, vs, e1, t, q⟩ := r
    exact ⟨a, vs, e1, .inl ⟨t.sq, fun _ z => nomatch z⟩, q⟩
  | ref i =>
    simp only [seqD] at e
    split at e
    · rename_i zs hz
      cases e
      obtain ⟨a, e1, e2, vs, e3, q⟩ := rh.ref r hz
      exact ⟨a, vs, e1, .inl ⟨.inl (.inl e3), fun _ z => nomatch z⟩, q⟩
    · cases e
  | scr ns =>
    simp only [seqD, Option.some.injEq] at e
    subst e
    simp only [Rep] at r
    obtain ⟨a, e1, t⟩ := r
    exact ⟨a, _, e1, .inl ⟨t.sq, fun _ z => nomatch z⟩, Reps.ints⟩
  | _ => simp only [seqD] at e; cases e
theorem iter_seq {u : D} {xs : List D} (e : iterD h u = some xs) : seqD h u = some xs := by
  cases u with
  | ref i =>
    simp only [iterD] at e
    simp only [seqD]
    exact e
  | tup ds => exact e
  | lst ds => exact e
  | scr ds => exact e
  | _ => simp only [iterD] at e; cases e
/-- what has items and is no tuple is a list -/
theorem lst_at (rh : RH Γ ρ H h) {u : D} {v : V} {xs : List D} (r : Rep Γ.K ρ H u v) (e : seqD h u = some xs) (nt : ∀ ds, u ≠ .tup ds) : ∃ a vs, v = .ref a ∧ SqL Γ.K H a vs ∧ Reps Γ.K ρ H xs vs := by
  obtain ⟨a, vs, e1, t | t, q⟩ := seq_at rh r e
  · exact ⟨a, vs, e1, t.1, q⟩
  · exact absurd t.2 (nt _)
theorem tupAt_new {K : PySem.W.Frag} {p : Addr} {vs : List V} (rh : RH Γ ρ H h) (hp : H p = none) : TupAt K ρ (upd H p (.tup vs)) p vs := .inl ⟨.inl upd_same, rh.new hp⟩
/-- a new list nobody will change -/
theorem rep_lst {p : Addr} {vs : List V} {ds : List D} (rh : RH Γ ρ H h) (hp : H p = none) (r : Reps Γ.K ρ H ds vs) : Rep Γ.K ρ (upd H p (.lst vs)) (.lst ds) (.ref p) := by
  simp only [Rep]
  exact ⟨p, vs, rfl, ⟨upd_same, rh.new hp⟩, r.mono (Ext.laid rh hp)⟩
theorem rep_tup {p : Addr} {vs : List V} {ds : List D} (rh : RH Γ ρ H h) (hp : H p = none) (r : Reps Γ.K ρ H ds vs) : Rep Γ.K ρ (upd H p (.tup vs)) (.tup ds) (.ref p) := by
  simp only [Rep]
  exact ⟨p, vs, rfl, tupAt_new rh hp, r.mono (Ext.laid rh hp)⟩
end

/-! ### operators -/
theorem op_add_any : OpR X (binaryOp .Add) (rD X P hot addD) := by
  intro pins s σ H x y v u Q I rx ry h
  obtain ⟨ρ, hh, d, e, w, rh, r1, r2, hw, k⟩ := h
  have gen : (catO hh d e).map D.lst = some w → wpAny (model X.prog X.w) X.A (binaryOp .Add v u) (EP X pins σ Q) X.xe s := fun hw => by
    obtain ⟨zs, e0, rfl⟩ := Option.map_eq_some_iff.mp hw
    unfold catO at e0
    split at e0
    · rename_i xs ys e1 e2
      split at e0
      · rename_i hz
        cases e0
        obtain ⟨a, vs, ea, h1, q1⟩ := own_at (Γ := gm X P hot) rh r1 e1
        obtain ⟨b, ws, eb, h2, q2⟩ := own_at (Γ := gm X P hot) rh r2 e2
        refine op_cat pins s σ H x y v u Q I rx ry ⟨a, b, vs, ws, ea, eb, h1, h2, by rw [q1.length, q2.length]; exact hz, fun p hp => ?_⟩
        exact k _ ρ _ (Ext.laid rh hp) (rh.laid hp) (rep_lst rh hp (q1.append q2))
      · cases e0
    · cases e0
  cases d with
  | int i =>
    cases e with
    | int j =>
      simp only [addD, Option.some.injEq] at hw
      subst hw
      simp only [Rep] at r1 r2
      exact op_add pins s σ H x y v u Q I rx ry ⟨i, j, r1, r2, k _ ρ H .refl rh rep_int⟩
    | _ => simp only [addD] at hw; cases hw
  | str i =>
    cases e with
    | str j =>
      simp only [addD] at hw
      split at hw
      · cases hw
        simp only [Rep] at r1 r2
        exact op_add_str pins s σ H x y v u Q I rx ry ⟨i, j, r1, r2, by assumption, k _ ρ H .refl rh rep_str⟩
      · cases hw
    | _ => simp only [addD] at hw; cases hw
  | tup xs =>
    cases e with
    | tup ys =>
      simp only [addD] at hw
      split at hw
      · rename_i hz
        cases hw
        simp only [Rep] at r1 r2
        obtain ⟨a, vs, rfl, t1, q1⟩ := r1
        obtain ⟨b, ws, rfl, t2, q2⟩ := r2
        refine op_catA pins s σ H _ _ v u Q I rx ry ⟨a, b, vs, ws, rfl, rfl, t1.sq, t2.sq, by rw [q1.length, q2.length]; exact hz, fun e0 => ?_, fun e1 e0 => ?_, fun e1 e2 p hp => ?_⟩
        · have ex : xs = [] := List.eq_nil_of_length_eq_zero (by rw [← q1.length, e0]; rfl)
          subst ex
          exact k _ ρ H .refl rh (by simp only [Rep]; exact ⟨b, ws, rfl, t2, q2⟩)
        · have ex : ys = [] := List.eq_nil_of_length_eq_zero (by rw [← q2.length, e0]; rfl)
          subst ex
          exact k _ ρ H .refl rh (by simp only [Rep]; exact ⟨a, vs, rfl, t1, by simpa using q1⟩)
        · exact k _ ρ _ (Ext.laid rh hp) (rh.laid hp) (rep_tup rh hp (q1.append q2))
      · cases hw
    | _ => simp only [addD] at hw; cases hw
  | _ => exact gen (by simpa only [addD] using hw)
theorem op_mul_any : OpR X (binaryOp .Mult) (rD X P hot mulD) := by
  intro pins s σ H x y v u Q I rx ry h
  obtain ⟨ρ, hh, d, e, w, rh, r1, r2, hw, k⟩ := h
  have gen : ∀ n, e = .int n → (mulO hh d n).map D.lst = some w → wpAny (model X.prog X.w) X.A (binaryOp .Mult v u) (EP X pins σ Q) X.xe s := fun n en hw2 => by
    subst en
    obtain ⟨zs, e0, rfl⟩ := Option.map_eq_some_iff.mp hw2
    unfold mulO at e0
    split at e0
    · rename_i xs e1
      split at e0
      · rename_i hz
        cases e0
        obtain ⟨a, vs, ea, h1, q1⟩ := own_at (Γ := gm X P hot) rh r1 e1
        simp only [repOk, Bool.and_eq_true, decide_eq_true_eq] at hz
        simp only [Rep] at r2
        refine op_rep pins s σ H x y v u Q I rx ry ⟨a, n, vs, ea, r2, h1, hz.1.1, hz.1.2, by rw [q1.length]; exact hz.2, fun p hp => ?_⟩
        exact k _ ρ _ (Ext.laid rh hp) (rh.laid hp) (rep_lst rh hp (q1.rep n.toNat))
      · cases e0
    · cases e0
  cases d with
  | int i =>
    cases e with
    | int j =>
      simp only [mulD] at hw
      split at hw
      · rename_i hs
        cases hw
        simp only [Rep] at r1 r2
        simp only [small64, Bool.and_eq_true, decide_eq_true_eq] at hs
        exact op_mul pins s σ H x y v u Q I rx ry ⟨i, j, r1, r2, hs, k _ ρ H .refl rh rep_int⟩
      · cases hw
    | _ => simp only [mulD] at hw; cases hw
  | tup xs =>
    cases e with
    | int n =>
      simp only [mulD] at hw
      split at hw
      · rename_i hz
        cases hw
        simp only [Rep] at r1 r2
        obtain ⟨a, vs, rfl, t1, q1⟩ := r1
        refine op_repT pins s σ H _ y v u Q I rx ry ⟨a, n, vs, rfl, r2, t1.sq, fun z => hz.1 (List.eq_nil_of_length_eq_zero (by rw [← q1.length, z]; rfl)), hz.2.1, hz.2.2.1, by rw [q1.length]; exact hz.2.2.2, fun p hp => ?_⟩
        exact k _ ρ _ (Ext.laid rh hp) (rh.laid hp) (rep_tup rh hp (q1.rep n.toNat))
      · cases hw
    | _ => simp only [mulD] at hw; cases hw
  | _ =>
    cases e with
    | int n => exact gen n rfl (by simpa only [mulD] using hw)
    | _ => simp only [mulD] at hw; cases hw
/-- every operator -/
theorem op_bin (o : Operator) : OpR X (binaryOp o) (rD X P hot fun h => binD h o) := by
  cases o with
  | Add => exact op_add_any
  | Mult => exact op_mul_any
  | Sub => exact fun pins s σ H x y v u Q I rx ry h => op_sub pins s σ H x y v u Q I rx ry (rI0_of (rD_int (C := fun _ _ => True) (gd := fun i j => .int (i - j)) (fun h u v d e => by
      simp only [binD] at e
      split at e
      · cases e; exact ⟨_, _, rfl, rfl, trivial, rfl⟩
      · cases e) (fun _ _ _ _ => rep_int) h))
  | FloorDiv => exact fun pins s σ H x y v u Q I rx ry h => op_fdivN pins s σ H x y v u Q I rx ry (rD_int (gd := fun i j => .int (i.fdiv j)) (fun h u v d e => by
      simp only [binD] at e
      split at e
      · split at e
        · cases e; exact ⟨_, _, rfl, rfl, by assumption, rfl⟩
        · cases e
      · cases e) (fun _ _ _ _ => rep_int) h)
  | Mod => exact fun pins s σ H x y v u Q I rx ry h => op_modN pins s σ H x y v u Q I rx ry (rD_int (gd := fun i j => .int (i.fmod j)) (fun h u v d e => by
      simp only [binD] at e
      split at e
      · split at e
        · cases e; exact ⟨_, _, rfl, rfl, by assumption, rfl⟩
        · cases e
      · cases e) (fun _ _ _ _ => rep_int) h)
  | Pow => exact fun pins s σ H x y v u Q I rx ry h => op_pow pins s σ H x y v u Q I rx ry (rD_int (gd := fun i j => .int (i ^ j.toNat)) (fun h u v d e => by
      simp only [binD] at e
      split at e
      · split at e
        · rename_i hp
          simp only [powOk, Bool.and_eq_true, decide_eq_true_eq] at hp
          cases e; exact ⟨_, _, rfl, rfl, ⟨hp.1.1, hp.1.2, hp.2⟩, rfl⟩
        · cases e
      · cases e) (fun _ _ _ _ => rep_int) h)
  | LShift => exact fun pins s σ H x y v u Q I rx ry h => op_shl pins s σ H x y v u Q I rx ry (rD_int (gd := fun i j => .int (i * 2 ^ j.toNat)) (fun h u v d e => by
      simp only [binD] at e
      split at e
      · split at e
        · rename_i hp
          simp only [powOk, Bool.and_eq_true, decide_eq_true_eq] at hp
          cases e; exact ⟨_, _, rfl, rfl, ⟨hp.1.1, hp.1.2, hp.2⟩, rfl⟩
        · cases e
      · cases e) (fun _ _ _ _ => rep_int) h)
  | RShift => exact fun pins s σ H x y v u Q I rx ry h => op_shr pins s σ H x y v u Q I rx ry (rD_int (gd := fun i j => .int (i / 2 ^ j.toNat)) (fun h u v d e => by
      simp only [binD] at e
      split at e
      · split at e
        · cases e; exact ⟨_, _, rfl, rfl, by assumption, rfl⟩
        · cases e
      · cases e) (fun _ _ _ _ => rep_int) h)
  | BitAnd => exact fun pins s σ H x y v u Q I rx ry h => op_and pins s σ H x y v u Q I rx ry (rI0_of (rD_int (C := fun _ _ => True) (gd := fun i j => .int (Builtin.bitAnd i j)) (fun h u v d e => by
      simp only [binD] at e
      split at e
      · cases e; exact ⟨_, _, rfl, rfl, trivial, rfl⟩
      · cases e) (fun _ _ _ _ => rep_int) h))
  | BitOr => exact fun pins s σ H x y v u Q I rx ry h => op_or pins s σ H x y v u Q I rx ry (rI0_of (rD_int (C := fun _ _ => True) (gd := fun i j => .int (Builtin.bitOr i j)) (fun h u v d e => by
      simp only [binD] at e
      split at e
      · cases e; exact ⟨_, _, rfl, rfl, trivial, rfl⟩
      · cases e) (fun _ _ _ _ => rep_int) h))
  | BitXor => exact fun pins s σ H x y v u Q I rx ry h => op_xor pins s σ H x y v u Q I rx ry (rI0_of (rD_int (C := fun _ _ => True) (gd := fun i j => .int (Builtin.bitXor i j)) (fun h u v d e => by
      simp only [binD] at e
      split at e
      · cases e; exact ⟨_, _, rfl, rfl, trivial, rfl⟩
      · cases e) (fun _ _ _ _ => rep_int) h))
  | _ => exact fun pins s σ H x y v u Q I rx ry h => (by
      obtain ⟨_, _, _, _, _, _, _, _, e, _⟩ := h
      simp only [binD] at e
      cases e)
theorem r_bin {o : Operator} {ea eb : ME} (ha : PE X a (tM (gm X P hot) W (sem call P x ea))) (hb : PE X b (tM (gm X P hot) W (sem call P x eb))) :
    PE X (.BinOp a o b pos) (tM (gm X P hot) W (sem call P x (.bin o ea eb))) :=
  (pe_op (op_bin o) ha hb).imp fun σ H Q h => two (fun h => binD h o) (by simpa only [sem] using h) fun _ _ _ q => q
end
end Mi
end
section
set_option Elab.async false
set_option linter.all false
set_option maxRecDepth 100000
namespace Mi
open PySem PySem.Spec PyProof.Rows L2

section
variable {K : PySem.W.Frag} {ρ : Pl} {H : Hp}
mutual
theorem Rep.dp : ∀ (d : D) {v : V} {y : PyData}, Rep K ρ H d v → d.py = some y → Dp K H v y
  | .non, v, y, r, e => by
    simp only [Rep] at r; simp only [D.py, Option.some.injEq] at e; subst r e; exact .non
  | .bl b, v, y, r, e => by
    simp only [Rep] at r; simp only [D.py, Option.some.injEq] at e; subst r e; exact .bl b
  | .int b, v, y, r, e => by
    simp only [Rep] at r; simp only [D.py, Option.some.injEq] at e; subst r e; exact .int b
  | .str b, v, y, r, e => by
    simp only [Rep] at r; simp only [D.py, Option.some.injEq] at e; subst r e; exact .str b
  | .tup ds, v, y, r, e => by
    simp only [Rep] at r
    simp only [D.py, Option.map_eq_some_iff] at e
    obtain ⟨a, vs, rfl, t, q⟩ := r
    obtain ⟨ys, e, rfl⟩ := e
    exact .tup t.sq (Reps.dp ds q e)
  | .lst ds, v, y, r, e => by
    simp only [Rep] at r
    simp only [D.py, Option.map_eq_some_iff] at e
    obtain ⟨a, vs, rfl, t, q⟩ := r
    obtain ⟨ys, e, rfl⟩ := e
    exact .lst t.sq (Reps.dp ds q e)
  | .ref i, v, y, r, e => by simp only [D.py] at e; cases e
  | .scr i, v, y, r, e => by simp only [D.py] at e; cases e
theorem Reps.dp : ∀ (ds : List D) {vs : List V} {ys : List PyData}, Reps K ρ H ds vs → pys ds = some ys → DpAll K H vs ys
  | [], vs, ys, r, e => by
    rw [r.nil_of]
    simp only [pys, Option.some.injEq] at e
    subst e
    exact .nil
  | d :: ds, vs, ys, r, e => by
    obtain ⟨v, z, rfl, r1, r2⟩ := r.cons_of
    simp only [pys] at e
    split at e
    · rename_i y yr e1 e2
      cases e
      exact .cons (Rep.dp d r1 e1) (Reps.dp ds r2 e2)
    · cases e
end
end
section
variable {Γ : Gam} {ρ : Pl} {H : Hp} {h : Hh}
theorem rd_dp (rh : RH Γ ρ H h) {d : D} {v : V} {y : PyData} (r : Rep Γ.K ρ H d v) (e : (rd h d).py = some y) : Dp Γ.K H v y := by
  cases d with
  | ref i =>
    simp only [rd] at e
    split at e
    · rename_i xs hx
      obtain ⟨a, rfl, e2, vs, e3, q⟩ := rh.ref r hx
      simp only [D.py, Option.map_eq_some_iff] at e
      obtain ⟨ys, e, rfl⟩ := e
      exact .lst (.inl (.inl e3)) (Reps.dp xs q e)
    · simp only [D.py] at e; cases e
  | _ => exact Rep.dp _ r e
theorem eq_dp (rh : RH Γ ρ H h) {a b : D} {v w : V} {k : Bool} (ra : Rep Γ.K ρ H a v) (rb : Rep Γ.K ρ H b w) (e : eqD0 h a b = some k) :
    ∃ x y, Dp Γ.K H v x ∧ Dp Γ.K H w y ∧ SeqAt.shaped x = true ∧ SeqAt.shaped y = true ∧ PyData.eqv x y = k := by
  unfold eqD0 at e
  split at e
  · rename_i x y e1 e2
    split at e
    · rename_i hs
      cases e
      exact ⟨x, y, rd_dp rh ra e1, rd_dp rh rb e2, hs.1, hs.2, rfl⟩
    · cases e
  · cases e
end

section
variable {X : Cx} {P : Prog} {hot : Option Hot} {W : WX} {call : Nat → List D → Hh → Res D} {x : Option Ex}
variable {e a b c : Expr} {pos : Pos} {ma mb mc : Env → Hh → Res D}

/-! ### comparisons -/
def rB (X : Cx) (P : Prog) (hot : Option Hot) (f : Hh → D → D → Option Bool) : R2 := fun x y H Q => ∃ ρ h u v b, RH (gm X P hot) ρ H h ∧ Rep X.K ρ H u x ∧ Rep X.K ρ H v y ∧ f h u v = some b ∧ Q (.bl b) H
theorem rB_of {f : Hh → D → D → Option Bool} {x y : V} {H : Hp} {Q : VK} (q : rD X P hot (fun h u v => (f h u v).map .bl) x y H Q) : rB X P hot f x y H Q := by
  obtain ⟨ρ, h, u, v, d, rh, r1, r2, e, k⟩ := q
  obtain ⟨b, e1, rfl⟩ := Option.map_eq_some_iff.mp e
  exact ⟨ρ, h, u, v, b, rh, r1, r2, e1, k _ ρ H .refl rh rep_bl⟩
theorem rB_int {f : Hh → D → D → Option Bool} {g : Int → Int → Bool} {x y : V} {H : Hp} {Q : VK} (hf : ∀ h u v d, f h u v = some d → ∃ i j, u = .int i ∧ v = .int j ∧ d = g i j) (q : rB X P hot f x y H Q) :
    rI0 (fun i j => .bl (g i j)) x y H Q := by
  obtain ⟨ρ, h, u, v, d, rh, r1, r2, e, k⟩ := q
  obtain ⟨i, j, rfl, rfl, rfl⟩ := hf h u v d e
  simp only [Rep] at r1 r2
  exact ⟨i, j, r1, r2, k⟩

theorem depth_shaped {ys : List PyData} (h : SeqAt.shaped (.list ys) = true) : PyData.canLayAll0 ys = true := by
  have := SeqAt.canLay_of_shaped h
  simpa only [PyData.canLay0] using this
theorem room_shaped {A : Around} {ys : List PyData} {y : PyData} (hy : SeqAt.shaped y = true) (hu : A.units + 65 < cLine) : A.units + 1 + min (PyData.depthAll ys) y.depth < cLine := by
  have h1 := SeqAt.depth_of_shaped hy
  have h2 : min (PyData.depthAll ys) y.depth ≤ y.depth := Nat.min_le_right _ _
  omega
/-- what a key reads -/
theorem key_rep {K : PySem.W.Frag} {ρ : Pl} {H : Hp} {d : D} {v : V} {k : Key} (r : Rep K ρ H d v) (e : keyD d = some k) : v = kV k := by
  cases d with
  | int i => simp only [keyD, Option.some.injEq] at e; subst e; simp only [Rep] at r; exact r
  | str i => simp only [keyD, Option.some.injEq] at e; subst e; simp only [Rep] at r; exact r
  | _ => simp only [keyD] at e; cases e
theorem keys_rep {K : PySem.W.Frag} {ρ : Pl} {H : Hp} : ∀ {ds : List D} {vs : List V} {ks : List Key}, Reps K ρ H ds vs → keysD ds = some ks → vs = ks.map kV
  | [], _, _, r, e => by
    simp only [keysD, Option.some.injEq] at e
    subst e
    rw [r.nil_of]
    rfl
  | d :: ds, _, _, r, e => by
    obtain ⟨w, z, rfl, r1, r2⟩ := r.cons_of
    simp only [keysD] at e
    split at e
    · rename_i k ks e1 e2
      cases e
      rw [key_rep r1 e1, keys_rep r2 e2]
      rfl
    · cases e
/-- a tuple that is a key is tracked, or it is a written one: only the tracked serve -/
def RO (K : PySem.W.Frag) (ρ : Pl) (H : Hp) : Option D → Option V → Prop
  | some d, some v => Rep K ρ H d v
  | none, none => True
  | _, _ => False
def KeyAt (H : Hp) (v : V) (ks : List Key) : Prop := ∃ b, v = .ref b ∧ H b = some (.tup (ks.map kV))
theorem rkv_get {κ : Type} [DecidableEq κ] {K : PySem.W.Frag} {ρ : Pl} {H : Hp} {kvs : List (κ × D)} {vs : List (κ × V)} (r : RKV K ρ H kvs vs) (k : κ) :
    RO K ρ H (getK kvs k) (valV vs k) := by
  induction r with
  | nil => simp [getK, valV, RO]
  | @cons p q l l' h t ih =>
    by_cases e : p.1 = k
    · have e2 : q.1 = k := h.1 ▸ e
      rw [valV_pos e2]
      have : getK (p :: l) k = some p.2 := by simp [getK, List.find?_cons, e]
      rw [this]
      exact h.2
    · have e2 : ¬ q.1 = k := h.1 ▸ e
      rw [valV_neg e2]
      have : getK (p :: l) k = getK l k := by simp [getK, List.find?_cons, e]
      rw [this]
      exact ih
/-- a look-up -/
theorem dget_of {Γ : Gam} {ρ : Pl} {H : Hp} {h : Hh} (rh : RH Γ ρ H h) {i : Nat} {o : O} {a : Addr} {k : D} {kv : V} {r : Option D} (ea : ρ.pl[i]? = some a) (eo : h[i]? = some o) (rk : Rep Γ.K ρ H k kv) (e : dget o k = some r) :
    ∃ v, DGet H a kv v ∧ RO Γ.K ρ H r v := by
  have ro := rh.ob i a o ea eo
  cases o with
  | dct kvs =>
    obtain ⟨vs, e1, q⟩ := ro
    simp only [dget, Option.map_eq_some_iff] at e
    obtain ⟨kk, e2, rfl⟩ := e
    rw [key_rep rk e2]
    exact ⟨valV vs kk, DGet.k e1, rkv_get q kk⟩
  | _ => simp only [dget] at e; cases e
theorem RO.isSome {K : PySem.W.Frag} {ρ : Pl} {H : Hp} : ∀ {o : Option D} {p : Option V}, RO K ρ H o p → p.isSome = o.isSome
  | some _, some _, _ => rfl
  | none, none, _ => rfl
  | some _, none, h => False.elim h
  | none, some _, h => False.elim h
theorem op_in_any (hu : X.A.units + 65 < cLine) (neg : Bool) : OpR X (compareOp (if neg = true then .NotIn else .In)) (rB X P hot fun h a b => (inD h a b).map fun k => if neg = true then !k else k) := by
  intro pins s σ H x y v u Q I rx ry h
  obtain ⟨ρ, hh, d, e, k, rh, r1, r2, hk, q⟩ := h
  obtain ⟨k0, hi, rfl⟩ := Option.map_eq_some_iff.mp hk
  have seq : ∀ {xs : List D} {a : Addr} {vs : List V}, y = .ref a → (SqL X.K H a vs ∨ SqT X.K H a vs) → Reps X.K ρ H xs vs → inL xs (rd hh d) = some k0 →
      wpAny (model X.prog X.w) X.A (compareOp (if neg = true then .NotIn else .In) v u) (EP X pins σ Q) X.xe s := fun {xs a vs} ey hs hr hi => by
    unfold inL at hi
    split at hi
    · rename_i ys yy e1 e2
      split at hi
      · rename_i hz
        cases hi
        have dd := rd_dp (Γ := gm X P hot) rh r1 e2
        obtain ⟨as, q1⟩ := Dp.reads I yy x v dd rx
        have fin : ∀ k, k = ys.any (fun z => PyData.eqv z yy) → EP X pins σ Q (.bool (if neg = true then !k else k)) s := fun k ek => ⟨.bl _, H, I, rfl, by rw [ek]; exact q⟩
        rcases hs with hs | hs
        · obtain ⟨bs, q2⟩ := Dp.reads I (.list ys) y u (by rw [ey]; exact Dp.lst hs (Reps.dp xs hr e1)) ry
          cases neg with
          | false => exact SeqAt.in_list_reads q2 q1 (depth_shaped hz.1) (SeqAt.canLay_of_shaped hz.2) (room_shaped hz.2 hu) (fin _ rfl)
          | true => exact SeqAt.notIn_list_reads q2 q1 (depth_shaped hz.1) (SeqAt.canLay_of_shaped hz.2) (room_shaped hz.2 hu) (fin _ rfl)
        · obtain ⟨bs, q2⟩ := Dp.reads I (.tuple ys) y u (by rw [ey]; exact Dp.tup hs (Reps.dp xs hr e1)) ry
          cases neg with
          | false => exact SeqAt.in_tuple_reads q2 q1 (depth_shaped hz.1) (SeqAt.canLay_of_shaped hz.2) (room_shaped hz.2 hu) (fin _ rfl)
          | true => exact SeqAt.notIn_tuple_reads q2 q1 (depth_shaped hz.1) (SeqAt.canLay_of_shaped hz.2) (room_shaped hz.2 hu) (fin _ rfl)
      · cases hi
    · cases hi
  have hu1 : X.A.units + 1 < cLine := by omega
  simp only [inD] at hi
  split at hi
  · rename_i t
    split at hi
    · rename_i z
      cases hi
      simp only [Rep] at r1 r2
      cases neg with
      | false => exact op_in_str pins s σ H x y v u Q I rx ry ⟨z, t, r1, r2, q⟩
      | true => exact op_notin_str pins s σ H x y v u Q I rx ry ⟨z, t, r1, r2, q⟩
    · cases hi
  · rename_i ys
    simp only [Rep] at r2
    obtain ⟨a, vs, e1, t, q2⟩ := r2
    exact seq e1 (.inr t.sq) q2 hi
  · rename_i ys
    simp only [Rep] at r2
    obtain ⟨a, vs, e1, t, q2⟩ := r2
    exact seq e1 (.inl t.sq) q2 hi
  · rename_i i
    split at hi
    · rename_i ys hy
      obtain ⟨a, e1, _, vs, e3, q2⟩ := rh.ref (Γ := gm X P hot) r2 hy
      exact seq e1 (.inl (.inl (.inl e3))) q2 hi
    · rename_i o ho
      obtain ⟨r, e1, rfl⟩ := Option.map_eq_some_iff.mp hi
      simp only [Rep] at r2
      obtain ⟨a, rfl, ea⟩ := r2
      obtain ⟨p, hg, ro⟩ := dget_of (Γ := gm X P hot) rh ea ho r1 e1
      obtain rfl : u = Value.ref a := ry
      cases neg with
      | false => exact d_in hu1 I hg rx fun s' I' => ⟨.bl _, H, I', rfl, by rw [ro.isSome]; exact q⟩
      | true => exact d_notIn hu1 I hg rx fun s' I' => ⟨.bl _, H, I', rfl, by rw [ro.isSome]; exact q⟩
    · cases hi
  · cases hi
theorem op_cmp (hu : X.A.units + 65 < cLine) (o : CmpOp) : OpR X (compareOp o) (rB X P hot fun h => cmpD h o) := by
  cases o with
  | Eq =>
    intro pins s σ H x y v u Q I rx ry h
    obtain ⟨ρ, hh, d, e, k, rh, r1, r2, hk, q⟩ := h
    rcases eq_or hk with ⟨a, b, rfl, rfl, rfl⟩ | hk
    · simp only [Rep] at r1 r2
      subst r1 r2
      refine op_eq pins s σ H _ _ v u Q I rx ry ⟨rfl, ?_⟩
      simpa using q
    obtain ⟨a, b, d1, d2, s1, s2, rfl⟩ := eq_dp (Γ := gm X P hot) rh r1 r2 hk
    exact op_eqD (by omega) pins s σ H x y v u Q I rx ry ⟨a, b, d1, d2, s1, s2, q⟩
  | NotEq =>
    intro pins s σ H x y v u Q I rx ry h
    obtain ⟨ρ, hh, d, e, k, rh, r1, r2, hk, q⟩ := h
    obtain ⟨k0, hi, rfl⟩ := Option.map_eq_some_iff.mp hk
    rcases eq_or hi with ⟨a, b, rfl, rfl, rfl⟩ | hi
    · simp only [Rep] at r1 r2
      subst r1 r2
      refine op_ne pins s σ H _ _ v u Q I rx ry ⟨rfl, ?_⟩
      simpa using q
    obtain ⟨a, b, d1, d2, s1, s2, rfl⟩ := eq_dp (Γ := gm X P hot) rh r1 r2 hi
    exact op_neD (by omega) pins s σ H x y v u Q I rx ry ⟨a, b, d1, d2, s1, s2, q⟩
  | Is =>
    intro pins s σ H x y v u Q I rx ry h
    obtain ⟨ρ, hh, d, e, k, rh, r1, r2, hk, q⟩ := h
    simp only [cmpD] at hk
    split at hk
    · cases hk
      simp only [Rep] at r2
      refine op_isN pins s σ H x y v u Q I rx ry ⟨r2, ?_⟩
      have : decide (x = V.non) = isNone d := by
        cases d <;> simp only [Rep] at r1 <;> first | (subst r1; rfl) | (obtain ⟨a, vs, rfl, _⟩ := r1; rfl) | (obtain ⟨a, rfl, _⟩ := r1; rfl)
      rw [this]
      exact q
    · cases hk
  | IsNot =>
    intro pins s σ H x y v u Q I rx ry h
    obtain ⟨ρ, hh, d, e, k, rh, r1, r2, hk, q⟩ := h
    simp only [cmpD] at hk
    split at hk
    · cases hk
      simp only [Rep] at r2
      refine op_notN pins s σ H x y v u Q I rx ry ⟨r2, ?_⟩
      have : decide (x = V.non) = isNone d := by
        cases d <;> simp only [Rep] at r1 <;> first | (subst r1; rfl) | (obtain ⟨a, vs, rfl, _⟩ := r1; rfl) | (obtain ⟨a, rfl, _⟩ := r1; rfl)
      rw [this]
      exact q
    · cases hk
  | In =>
    intro pins s σ H x y v u Q I rx ry h
    refine op_in_any (P := P) (hot := hot) hu false pins s σ H x y v u Q I rx ry ?_
    obtain ⟨ρ, hh, d, e, k, rh, r1, r2, hk, q⟩ := h
    exact ⟨ρ, hh, d, e, k, rh, r1, r2, by show (inD hh d e).map _ = _; rw [show inD hh d e = some k from hk]; rfl, q⟩
  | NotIn =>
    intro pins s σ H x y v u Q I rx ry h
    refine op_in_any (P := P) (hot := hot) hu true pins s σ H x y v u Q I rx ry ?_
    obtain ⟨ρ, hh, d, e, k, rh, r1, r2, hk, q⟩ := h
    obtain ⟨k0, hi, rfl⟩ := Option.map_eq_some_iff.mp hk
    exact ⟨ρ, hh, d, e, !k0, rh, r1, r2, by show (inD hh d e).map _ = _; rw [hi]; rfl, q⟩
  | Lt => exact fun pins s σ H x y v u Q I rx ry h => op_lt pins s σ H x y v u Q I rx ry (rB_int (g := fun i j => decide (i < j)) (fun h u v d e => by
      simp only [cmpD] at e
      split at e
      · cases e; exact ⟨_, _, rfl, rfl, rfl⟩
      · cases e) h)
  | LtE => exact fun pins s σ H x y v u Q I rx ry h => op_le pins s σ H x y v u Q I rx ry (rB_int (g := fun i j => decide (i ≤ j)) (fun h u v d e => by
      simp only [cmpD] at e
      split at e
      · cases e; exact ⟨_, _, rfl, rfl, rfl⟩
      · cases e) h)
  | Gt => exact fun pins s σ H x y v u Q I rx ry h => op_gt pins s σ H x y v u Q I rx ry (rB_int (g := fun i j => decide (j < i)) (fun h u v d e => by
      simp only [cmpD] at e
      split at e
      · cases e; exact ⟨_, _, rfl, rfl, rfl⟩
      · cases e) h)
  | GtE => exact fun pins s σ H x y v u Q I rx ry h => op_ge pins s σ H x y v u Q I rx ry (rB_int (g := fun i j => decide (j ≤ i)) (fun h u v d e => by
      simp only [cmpD] at e
      split at e
      · cases e; exact ⟨_, _, rfl, rfl, rfl⟩
      · cases e) h)
theorem r_cmp (hu : X.A.units + 65 < cLine) {o : CmpOp} {ea eb : ME} (ha : PE X a (tM (gm X P hot) W (sem call P x ea))) (hb : PE X b (tM (gm X P hot) W (sem call P x eb))) (hm : behindInMarks o b = false) :
    PE X (.Compare a [o] [b] pos) (tM (gm X P hot) W (sem call P x (.cmp o ea eb))) :=
  (pe_cmpR (op_cmp hu o) ha hb hm).imp fun σ H Q h => two (fun h u v => (cmpD h o u v).map .bl) (by simpa only [sem] using h) fun _ _ _ q => rB_of q
theorem r_cmp2 (hu : X.A.units + 65 < cLine) {o o' : CmpOp} {ea eb ec : ME} (ha : PE X a (tM (gm X P hot) W (sem call P x ea))) (hb : PE X b (tM (gm X P hot) W (sem call P x eb))) (hc : PE X c (tM (gm X P hot) W (sem call P x ec)))
    (hm : lastMarks [o, o'] [b, c] = false) : PE X (.Compare a [o, o'] [b, c] pos) (tM (gm X P hot) W (sem call P x (.cmp2 o o' ea eb ec))) := by
  refine (pe_chain (op_cmp (P := P) (hot := hot) hu o) (op_cmp (P := P) (hot := hot) hu o') ha hb hc hm).imp fun σ H Q h => ?_
  obtain ⟨ρ, env, h, rh, re, p⟩ := h
  simp only [sem] at p
  refine ⟨ρ, env, h, rh, re, p.bind fun u h1 ρ1 H1 x1 rh1 p1 v rv => ⟨ρ1, env, h1, rh1, re.mono x1, p1.bind fun w h2 ρ2 H2 x2 rh2 p2 z rz => ?_⟩⟩
  cases ek : cmpD h2 o u w with
  | none => rw [ek] at p2; exact False.elim p2
  | some k =>
    rw [ek, of_some, bind_ok] at p2
    refine ⟨ρ2, h2, u, w, k, rh2, rv.mono x2, rz, ek, k, rfl, ?_⟩
    cases k with
    | false =>
      rw [if_neg Bool.false_ne_true] at p2 ⊢
      exact p2.ok rh2 _ rep_bl
    | true =>
      rw [if_pos rfl] at p2 ⊢
      refine ⟨ρ2, env, h2, rh2, (re.mono x1).mono x2, p2.bind fun t h3 ρ3 H3 x3 rh3 p3 q rq => ?_⟩
      obtain ⟨d, e, p4⟩ := p3.of rh3
      obtain ⟨b, e1, rfl⟩ := Option.map_eq_some_iff.mp e
      exact ⟨ρ3, h3, w, t, b, rh3, rz.mono x3, rq, e1, p4 ρ3 H3 .refl rh3 _ rep_bl⟩
end
end Mi
end
section
set_option Elab.async false
set_option linter.all false
set_option maxRecDepth 100000
namespace Mi
open PySem PySem.Spec PyProof.Rows L2
section
variable {X : Cx} {P : Prog} {hot : Option Hot} {W : WX} {call : Nat → List D → Hh → Res D} {x : Option Ex}
variable {e a b c : Expr} {pos : Pos} {ma mb mc : Env → Hh → Res D}

/-! ### truth -/
theorem truth_rep {Γ : Gam} {ρ : Pl} {H : Hp} {h : Hh} (rh : RH Γ ρ H h) {d : D} {v : V} {k : Bool} (r : Rep Γ.K ρ H d v) (e : truthD h d = some k) : TruV Γ.K v H k := by
  have emp : ∀ {ds : List D} {vs : List V}, Reps Γ.K ρ H ds vs → (!ds.isEmpty) = !vs.isEmpty := fun {ds vs} q => by
    cases ds with
    | nil => rw [q.nil_of]; rfl
    | cons d ds => obtain ⟨v, z, rfl, _⟩ := q.cons_of; rfl
  cases d with
  | non => simp only [Rep] at r; simp only [truthD, Option.some.injEq] at e; subst r; exact e.symm
  | bl b => simp only [Rep] at r; simp only [truthD, Option.some.injEq] at e; subst r; exact e.symm
  | int b => simp only [Rep] at r; simp only [truthD, Option.some.injEq] at e; subst r; exact e.symm
  | str b =>
    simp only [Rep] at r
    simp only [truthD] at e
    split at e
    · rename_i hl
      simp only [Option.some.injEq] at e
      subst r e
      refine ⟨hl, ?_⟩
      cases b.length <;> rfl
    · cases e
  | tup ds =>
    simp only [Rep] at r
    simp only [truthD, Option.some.injEq] at e
    obtain ⟨a, vs, rfl, t, q⟩ := r
    subst e
    exact .inr (.inl ⟨vs, t.sq, emp q⟩)
  | lst ds =>
    simp only [Rep] at r
    simp only [truthD, Option.some.injEq] at e
    obtain ⟨a, vs, rfl, t, q⟩ := r
    subst e
    exact .inl ⟨vs, t.sq, emp q⟩
  | ref i =>
    simp only [truthD] at e
    split at e
    · rename_i xs hx
      simp only [Option.some.injEq] at e
      obtain ⟨a, rfl, _, vs, e3, q⟩ := rh.ref r hx
      subst e
      exact .inl ⟨vs, .inl (.inl e3), emp q⟩
    · rename_i kvs hx
      simp only [Option.some.injEq] at e
      obtain ⟨a, rfl, _, vs, e3, q⟩ := rh.ref r hx
      subst e
      refine .inr (.inr ⟨vs, e3, ?_⟩)
      cases q <;> rfl
    · cases e
  | scr ns => simp only [truthD] at e; cases e
/-- an expression as a test, by its truth -/
theorem tMb_of {ce : ME} {σ : L2.St} {H : Hp} {Q : Bool → Hp → Prop} (h : tMb (gm X P hot) W (semB call P x ce) σ H Q) : tM (gm X P hot) W (sem call P x ce) σ H fun v H1 => ∃ k, TruV X.K v H1 k ∧ Q k H1 := by
  obtain ⟨ρ, env, h, rh, re, p⟩ := h
  refine ⟨ρ, env, h, rh, re, p.bind fun u h1 ρ1 H1 x1 rh1 p1 v rv => ?_⟩
  obtain ⟨k, e, p2⟩ := p1.of rh1
  exact ⟨k, truth_rep (Γ := gm X P hot) rh1 rv e, p2.ok rh1⟩
theorem t_truth {ce : ME} (h : PE X e (tM (gm X P hot) W (sem call P x ce))) (he : ∀ whole, isTrue e X.env whole = (do let v ← whole; standAt e.pos; holding [v] (truthy v))) : PT X e (tMb (gm X P hot) W (semB call P x ce)) :=
  (pt_truth h he).imp fun _ _ _ q => tMb_of q
theorem semB_cmp {o : CmpOp} {ea eb : ME} {env : Env} {h : Hh} : semB call P x (.cmp o ea eb) env h = (sem call P x ea env h).bind fun u h1 => (sem call P x eb env h1).bind fun v h2 => Res.of (cmpD h2 o u v) h2 := by
  unfold semB
  rw [sem, bind_assoc]
  congr 1
  funext u h1
  rw [bind_assoc]
  congr 1
  funext v h2
  cases cmpD h2 o u v <;> rfl
/-- a comparison as a test -/
theorem t_cmp (hu : X.A.units + 65 < cLine) {o : CmpOp} {ea eb : ME} (ha : PE X a (tM (gm X P hot) W (sem call P x ea))) (hb : PE X b (tM (gm X P hot) W (sem call P x eb))) (hm : behindInMarks o b = false) :
    PT X (.Compare a [o] [b] pos) (tMb (gm X P hot) W (semB call P x (.cmp o ea eb))) := by
  refine (pt_cmpR (op_cmp (P := P) (hot := hot) hu o) ha hb hm).imp fun σ H Q ⟨ρ, env, h, rh, re, p⟩ => ?_
  rw [semB_cmp] at p
  refine ⟨ρ, env, h, rh, re, p.bind fun u h1 ρ1 H1 x1 rh1 p1 v rv => ⟨ρ1, env, h1, rh1, re.mono x1, p1.bind fun w h2 ρ2 H2 x2 rh2 p2 z rz => ?_⟩⟩
  obtain ⟨k, e, p3⟩ := p2.of rh2
  exact ⟨ρ2, h2, u, w, k, rh2, rv.mono x2, rz, e, k, rfl, p3.ok rh2⟩
theorem semB_cmp2 {o o' : CmpOp} {ea eb ec : ME} {env : Env} {h : Hh} : semB call P x (.cmp2 o o' ea eb ec) env h = (sem call P x ea env h).bind fun u h1 => (sem call P x eb env h1).bind fun v h2 =>
    (Res.of (cmpD h2 o u v) h2).bind fun k h3 => if k = true then (sem call P x ec env h3).bind fun w h4 => Res.of (cmpD h4 o' v w) h4 else .ok false h3 := by
  unfold semB
  rw [sem, bind_assoc]
  congr 1
  funext u h1
  rw [bind_assoc]
  congr 1
  funext v h2
  rw [bind_assoc]
  congr 1
  funext k h3
  cases k with
  | false => rfl
  | true =>
    rw [if_pos rfl, if_pos rfl, bind_assoc]
    congr 1
    funext w h4
    cases cmpD h4 o' v w <;> rfl
theorem t_cmp2 (hu : X.A.units + 65 < cLine) {o o' : CmpOp} {ea eb ec : ME} (ha : PE X a (tM (gm X P hot) W (sem call P x ea))) (hb : PE X b (tM (gm X P hot) W (sem call P x eb))) (hc : PE X c (tM (gm X P hot) W (sem call P x ec)))
    (hm : lastMarks [o, o'] [b, c] = false) : PT X (.Compare a [o, o'] [b, c] pos) (tMb (gm X P hot) W (semB call P x (.cmp2 o o' ea eb ec))) := by
  refine (pt_chain (op_cmp (P := P) (hot := hot) hu o) (op_cmp (P := P) (hot := hot) hu o') ha hb hc hm).imp fun σ H Q ⟨ρ, env, h, rh, re, p⟩ => ?_
  rw [semB_cmp2] at p
  refine ⟨ρ, env, h, rh, re, p.bind fun u h1 ρ1 H1 x1 rh1 p1 v rv => ⟨ρ1, env, h1, rh1, re.mono x1, p1.bind fun w h2 ρ2 H2 x2 rh2 p2 z rz => ?_⟩⟩
  cases ek : cmpD h2 o u w with
  | none => rw [ek] at p2; exact False.elim p2
  | some k =>
    rw [ek, of_some, bind_ok] at p2
    refine ⟨ρ2, h2, u, w, k, rh2, rv.mono x2, rz, ek, k, rfl, ?_⟩
    cases k with
    | false =>
      rw [if_neg Bool.false_ne_true] at p2 ⊢
      exact ⟨false, rfl, p2.ok rh2⟩
    | true =>
      rw [if_pos rfl] at p2 ⊢
      refine ⟨ρ2, env, h2, rh2, (re.mono x1).mono x2, p2.bind fun t h3 ρ3 H3 x3 rh3 p3 q rq => ?_⟩
      obtain ⟨b, e1, p4⟩ := p3.of rh3
      exact ⟨ρ3, h3, w, t, b, rh3, rz.mono x3, rq, e1, b, rfl, p4.ok rh3⟩

/-! ### and, or, not -/
theorem semB_and {ea eb : ME} {env : Env} {h : Hh} : semB call P x (.and ea eb) env h = (semB call P x ea env h).bind fun k h1 => if k = true then semB call P x eb env h1 else .ok false h1 := by
  unfold semB
  rw [sem, bind_assoc, bind_assoc]
  congr 1
  funext u h1
  cases e : truthD h1 u with
  | none => rfl
  | some k =>
    rw [of_some, bind_ok, bind_ok]
    cases k with
    | true => rfl
    | false =>
      rw [if_neg Bool.false_ne_true, if_neg Bool.false_ne_true, bind_ok, e]
      rfl
theorem semB_or {ea eb : ME} {env : Env} {h : Hh} : semB call P x (.or ea eb) env h = (semB call P x ea env h).bind fun k h1 => if k = true then .ok true h1 else semB call P x eb env h1 := by
  unfold semB
  rw [sem, bind_assoc, bind_assoc]
  congr 1
  funext u h1
  cases e : truthD h1 u with
  | none => rfl
  | some k =>
    rw [of_some, bind_ok, bind_ok]
    cases k with
    | false => rfl
    | true =>
      rw [if_pos rfl, if_pos rfl, bind_ok, e]
      rfl
theorem semB_not {ea : ME} {env : Env} {h : Hh} : semB call P x (.not ea) env h = (semB call P x ea env h).bind fun k h1 => .ok (!k) h1 := by
  unfold semB
  rw [sem, bind_assoc, bind_assoc]
  congr 1
  funext u h1
  cases truthD h1 u <;> rfl
theorem semB_ifx {ec ea eb : ME} {env : Env} {h : Hh} : sem call P x (.ifx ec ea eb) env h = (semB call P x ec env h).bind fun k h1 => if k = true then sem call P x ea env h1 else sem call P x eb env h1 := by
  unfold semB
  rw [sem, bind_assoc]
/-- the chains of and, or as tests; the last one -/
theorem t_and1 {o : BoolOp} {ea : ME} (ha : PT X a (tMb (gm X P hot) W (semB call P x ea))) : PW X (.BoolOp o [a] pos) (tMb (gm X P hot) W (semB call P x ea)) := by
  cases o with
  | And => exact pw_and1 ha
  | Or => exact pw_or1 ha
theorem t_and {ea eb : ME} {rest : List Expr} (ha : PT X a (tMb (gm X P hot) W (semB call P x ea))) (hb : PW X (.BoolOp .And (b :: rest) pos) (tMb (gm X P hot) W (semB call P x eb))) :
    PW X (.BoolOp .And (a :: b :: rest) pos) (tMb (gm X P hot) W (semB call P x (.and ea eb))) := by
  refine (pw_and ha hb).imp fun σ H Q ⟨ρ, env, h, rh, re, p⟩ => ?_
  rw [semB_and] at p
  refine ⟨ρ, env, h, rh, re, p.bind fun k h1 ρ1 H1 x1 rh1 p1 => ?_⟩
  cases k with
  | true => exact ⟨ρ1, env, h1, rh1, re.mono x1, p1⟩
  | false => exact p1.ok rh1
theorem t_or {ea eb : ME} {rest : List Expr} (ha : PT X a (tMb (gm X P hot) W (semB call P x ea))) (hb : PW X (.BoolOp .Or (b :: rest) pos) (tMb (gm X P hot) W (semB call P x eb))) :
    PW X (.BoolOp .Or (a :: b :: rest) pos) (tMb (gm X P hot) W (semB call P x (.or ea eb))) := by
  refine (pw_or ha hb).imp fun σ H Q ⟨ρ, env, h, rh, re, p⟩ => ?_
  rw [semB_or] at p
  refine ⟨ρ, env, h, rh, re, p.bind fun k h1 ρ1 H1 x1 rh1 p1 => ?_⟩
  cases k with
  | false => exact ⟨ρ1, env, h1, rh1, re.mono x1, p1⟩
  | true => exact p1.ok rh1
theorem t_not {ea : ME} (ha : PT X a (tMb (gm X P hot) W (semB call P x ea))) : PT X (.UnaryOp .Not a pos) (tMb (gm X P hot) W (semB call P x (.not ea))) := by
  refine (pt_not ha).imp fun σ H Q ⟨ρ, env, h, rh, re, p⟩ => ?_
  rw [semB_not] at p
  exact ⟨ρ, env, h, rh, re, p.bind fun k h1 ρ1 H1 x1 rh1 p1 => p1.ok rh1⟩
/-- as values -/
theorem r_one {o : BoolOp} {t : TE} (ha : PE X a t) : PE X (.BoolOp o [a] pos) t := pe_one ha
theorem r_and {ea eb : ME} {rest : List Expr} (ha : PE X a (tM (gm X P hot) W (sem call P x ea))) (hb : PE X (.BoolOp .And (b :: rest) pos) (tM (gm X P hot) W (sem call P x eb))) :
    PE X (.BoolOp .And (a :: b :: rest) pos) (tM (gm X P hot) W (sem call P x (.and ea eb))) := by
  refine (pe_andT ha hb).imp fun σ H Q ⟨ρ, env, h, rh, re, p⟩ => ?_
  rw [sem] at p
  refine ⟨ρ, env, h, rh, re, p.bind fun u h1 ρ1 H1 x1 rh1 p1 v rv => ?_⟩
  cases ek : truthD h1 u with
  | none => rw [ek] at p1; exact False.elim p1
  | some k =>
    rw [ek, of_some, bind_ok] at p1
    refine ⟨k, truth_rep (Γ := gm X P hot) rh1 rv ek, ?_⟩
    cases k with
    | true => exact ⟨ρ1, env, h1, rh1, re.mono x1, p1⟩
    | false => exact p1.ok rh1 _ rv
theorem r_or {ea eb : ME} {rest : List Expr} (ha : PE X a (tM (gm X P hot) W (sem call P x ea))) (hb : PE X (.BoolOp .Or (b :: rest) pos) (tM (gm X P hot) W (sem call P x eb))) :
    PE X (.BoolOp .Or (a :: b :: rest) pos) (tM (gm X P hot) W (sem call P x (.or ea eb))) := by
  refine (pe_orT ha hb).imp fun σ H Q ⟨ρ, env, h, rh, re, p⟩ => ?_
  rw [sem] at p
  refine ⟨ρ, env, h, rh, re, p.bind fun u h1 ρ1 H1 x1 rh1 p1 v rv => ?_⟩
  cases ek : truthD h1 u with
  | none => rw [ek] at p1; exact False.elim p1
  | some k =>
    rw [ek, of_some, bind_ok] at p1
    refine ⟨k, truth_rep (Γ := gm X P hot) rh1 rv ek, ?_⟩
    cases k with
    | false => exact ⟨ρ1, env, h1, rh1, re.mono x1, p1⟩
    | true => exact p1.ok rh1 _ rv
theorem r_not {ea : ME} (ha : PE X a (tM (gm X P hot) W (sem call P x ea))) : PE X (.UnaryOp .Not a pos) (tM (gm X P hot) W (sem call P x (.not ea))) := by
  refine (pe_notT ha).imp fun σ H Q ⟨ρ, env, h, rh, re, p⟩ => ?_
  rw [sem] at p
  refine ⟨ρ, env, h, rh, re, p.bind fun u h1 ρ1 H1 x1 rh1 p1 v rv => ?_⟩
  obtain ⟨d, e, p2⟩ := p1.of rh1
  obtain ⟨k, e1, rfl⟩ := Option.map_eq_some_iff.mp e
  exact ⟨k, truth_rep (Γ := gm X P hot) rh1 rv e1, p2.ok rh1 _ rep_bl⟩
theorem r_ifx {ec ea eb : ME} (hc : PT X c (tMb (gm X P hot) W (semB call P x ec))) (ha : PE X a (tM (gm X P hot) W (sem call P x ea))) (hb : PE X b (tM (gm X P hot) W (sem call P x eb))) :
    PE X (.IfExp c a b pos) (tM (gm X P hot) W (sem call P x (.ifx ec ea eb))) := by
  refine (pe_ifExp hc ha hb).imp fun σ H Q ⟨ρ, env, h, rh, re, p⟩ => ?_
  rw [semB_ifx] at p
  refine ⟨ρ, env, h, rh, re, p.bind fun k h1 ρ1 H1 x1 rh1 p1 => ?_⟩
  cases k with
  | true => exact ⟨ρ1, env, h1, rh1, re.mono x1, p1⟩
  | false => exact ⟨ρ1, env, h1, rh1, re.mono x1, p1⟩
theorem r_neg {ea : ME} (ha : PE X a (tM (gm X P hot) W (sem call P x ea))) : PE X (.UnaryOp .USub a pos) (tM (gm X P hot) W (sem call P x (.neg ea))) := by
  refine (pe_un un_neg ha).imp fun σ H Q ⟨ρ, env, h, rh, re, p⟩ => ?_
  rw [sem] at p
  refine ⟨ρ, env, h, rh, re, p.bind fun u h1 ρ1 H1 x1 rh1 p1 v rv => ?_⟩
  cases u with
  | int i =>
    simp only [Rep] at rv
    exact ⟨i, rv, p1.ok rh1 _ rep_int⟩
  | _ => exact False.elim p1

/-! ### argument lists, displays -/
theorem a_nil : PA X [] (tMa (gm X P hot) W (semA call P x .nil)) := pa_nil.imp fun σ H Q ⟨ρ, env, h, rh, re, p⟩ => by
  rw [semA] at p
  exact p.ok rh _ Reps.nil
theorem a_cons {es : List Expr} {ee : ME} {ees : MEs} (he : PE X e (tM (gm X P hot) W (sem call P x ee))) (hr : PA X es (tMa (gm X P hot) W (semA call P x ees))) (hs : starEach (e :: es) X.env = (false, eval e X.env) :: starEach es X.env) :
    PA X (e :: es) (tMa (gm X P hot) W (semA call P x (.cons ee ees))) := by
  refine (pa_cons he hr hs).imp fun σ H Q ⟨ρ, env, h, rh, re, p⟩ => ?_
  rw [semA] at p
  refine ⟨ρ, env, h, rh, re, p.bind fun u h1 ρ1 H1 x1 rh1 p1 v rv => ⟨ρ1, env, h1, rh1, re.mono x1, p1.bind fun us h2 ρ2 H2 x2 rh2 p2 vs rvs => ?_⟩⟩
  exact p2.ok rh2 _ (.cons (rv.mono x2) rvs)
theorem r_tup {es : List Expr} {ees : MEs} {k : Nat} (ha : PA X es (tMa (gm X P hot) W (semA call P x ees))) (hl : es.length ≤ 1000) (hel : ∀ env h ds h', semA call P x ees env h = .ok ds h' → ds.length = es.length) :
    PE X (.Tuple es k pos) (tM (gm X P hot) W (sem call P x (.tup ees))) := by
  refine (pe_tup ha).imp fun σ H Q ⟨ρ, env, h, rh, re, p⟩ => ?_
  rw [sem] at p
  cases e : semA call P x ees env h with
  | stuck => rw [e] at p; exact False.elim p
  | exc z h1 => rw [e] at p; exact ⟨ρ, env, h, rh, re, by rw [e]; exact p⟩
  | ok ds h1 =>
    rw [e] at p
    refine ⟨ρ, env, h, rh, re, by
      rw [e]
      intro ρ1 H1 x1 rh1 vs rvs
      refine ⟨by rw [rvs.length, hel _ _ _ _ e, sizeLine_eq]; omega, fun q hq => ?_⟩
      exact Post.ok (rh1.laid hq) (Post.later ((x1.trans (Ext.laid rh1 hq))) p) _ (rep_tup rh1 hq rvs)⟩
end
end Mi
end
section
set_option Elab.async false
set_option linter.all false
set_option maxRecDepth 100000
namespace Mi
open PySem PySem.Spec PyProof.Rows L2
def MEs.len : MEs → Nat
  | .nil => 0
  | .cons _ es => es.len + 1
section
variable {X : Cx} {P : Prog} {hot : Option Hot} {W : WX} {call : Nat → List D → Hh → Res D} {x : Option Ex}
variable {e a b c : Expr} {pos : Pos} {ma mb mc : Env → Hh → Res D}

theorem bind_is_ok {α β : Type} {r : Res α} {f : α → Hh → Res β} {b : β} {h : Hh} (e : r.bind f = .ok b h) : ∃ a h1, r = .ok a h1 ∧ f a h1 = .ok b h := by
  cases r with
  | ok a h1 => exact ⟨a, h1, rfl, e⟩
  | exc _ _ => cases e
  | stuck => cases e
theorem semA_len : ∀ {es : MEs} {env : Env} {h h' : Hh} {ds : List D}, semA call P x es env h = .ok ds h' → ds.length = es.len
  | .nil, _, _, _, _, e => by rw [semA] at e; cases e; rfl
  | .cons e0 es, _, _, _, _, e => by
    rw [semA] at e
    obtain ⟨u, h1, _, e1⟩ := bind_is_ok e
    obtain ⟨us, h2, e2, e3⟩ := bind_is_ok e1
    cases e3
    rw [List.length_cons, semA_len e2]
    rfl
theorem r_tup' {es : List Expr} {ees : MEs} {k : Nat} (ha : PA X es (tMa (gm X P hot) W (semA call P x ees))) (hl : ees.len ≤ 1000) :
    PE X (.Tuple es k pos) (tM (gm X P hot) W (sem call P x (.tup ees))) := by
  refine (pe_tup ha).imp fun σ H Q ⟨ρ, env, h, rh, re, p⟩ => ?_
  rw [sem] at p
  cases e : semA call P x ees env h with
  | stuck => rw [e] at p; exact False.elim p
  | exc z h1 => rw [e] at p; exact ⟨ρ, env, h, rh, re, by rw [e]; exact p⟩
  | ok ds h1 =>
    rw [e] at p
    refine ⟨ρ, env, h, rh, re, by
      rw [e]
      intro ρ1 H1 x1 rh1 vs rvs
      refine ⟨by rw [rvs.length, semA_len e, sizeLine_eq]; omega, fun q hq => ?_⟩
      exact Post.ok (rh1.laid hq) (Post.later ((x1.trans (Ext.laid rh1 hq))) p) _ (rep_tup rh1 hq rvs)⟩
/-! ### lists that are made -/
theorem frz_go {m : MC} : ∀ σ H Q, tM (gm X P hot) W (sem call P x (.frz m)) σ H Q → tMl (gm X P hot) W (semC call P x m) σ H Q := by
  intro σ H Q ⟨ρ, env, h, rh, re, p⟩
  rw [sem] at p
  exact ⟨ρ, env, h, rh, re, p.bind fun ds h1 ρ1 H1 x1 rh1 p1 q vs rvs hq => Post.ok (rh1.laid hq) (p1.later (Ext.laid rh1 hq)) _ (rep_lst rh1 hq rvs)⟩
theorem r_frz {m : MC} (hm : PE X e (tMl (gm X P hot) W (semC call P x m))) : PE X e (tM (gm X P hot) W (sem call P x (.frz m))) := hm.imp frz_go
theorem rep_ref {K : PySem.W.Frag} {ρ : Pl} {H : Hp} {i : Nat} {a : Addr} (e : ρ.pl[i]? = some a) : Rep K ρ H (.ref i) (.ref a) := by
  simp only [Rep]
  exact ⟨a, rfl, e⟩
theorem last_ref {ρ : Pl} {h : Hh} {Γ : Gam} {H : Hp} (rh : RH Γ ρ H h) {q : Addr} : (ρ.push q).pl[h.length]? = some q := by
  show (ρ.pl ++ [q])[h.length]? = some q
  rw [← rh.len]
  simp
theorem new_go {m : MC} : ∀ σ H Q, tM (gm X P hot) W (sem call P x (.new m)) σ H Q → tMl (gm X P hot) W (semC call P x m) σ H Q := by
  intro σ H Q ⟨ρ, env, h, rh, re, p⟩
  rw [sem] at p
  refine ⟨ρ, env, h, rh, re, p.bind fun ds h1 ρ1 H1 x1 rh1 p1 q vs rvs hq => ?_⟩
  exact p1 (ρ1.push q) _ (Ext.alloc rh1 hq) (rh1.alloc hq ⟨vs, upd_same, rvs.mono (Ext.alloc rh1 hq)⟩) _ (rep_ref (last_ref rh1))
theorem r_new {m : MC} (hm : PE X e (tMl (gm X P hot) W (semC call P x m))) : PE X e (tM (gm X P hot) W (sem call P x (.new m))) := hm.imp new_go
theorem c_dsp {es : List Expr} {ees : MEs} (ha : PA X es (tMa (gm X P hot) W (semA call P x ees))) (hl : ees.len ≤ 1000) : PE X (.List es pos) (tMl (gm X P hot) W (semC call P x (.dsp ees))) := by
  refine (pe_lst ha).imp fun σ H Q ⟨ρ, env, h, rh, re, p⟩ => ?_
  rw [semC] at p
  cases e : semA call P x ees env h with
  | stuck => rw [e] at p; exact False.elim p
  | exc z h1 => rw [e] at p; exact ⟨ρ, env, h, rh, re, by rw [e]; exact p⟩
  | ok ds h1 =>
    rw [e] at p
    refine ⟨ρ, env, h, rh, re, by
      rw [e]
      intro ρ1 H1 x1 rh1 vs rvs
      exact ⟨by rw [rvs.length, semA_len e, sizeLine_eq]; omega, fun q hq => Post.ok rh1 (Post.later x1 p) q vs rvs hq⟩⟩
/-- two values that make a list -/
def rC (X : Cx) (P : Prog) (hot : Option Hot) (f : Hh → D → D → Option (List D)) : R2 := fun x y H Q => ∃ ρ h u v ds, RH (gm X P hot) ρ H h ∧ Rep X.K ρ H u x ∧ Rep X.K ρ H v y ∧ f h u v = some ds ∧
  ∀ p vs, Reps X.K ρ H ds vs → H p = none → Q (.ref p) (upd H p (.lst vs))
theorem twoC (f : Hh → D → D → Option (List D)) {σ : L2.St} {H : Hp} {Q : VK} {r : R2}
    (h : tMl (gm X P hot) W (fun env h => (ma env h).bind fun u h1 => (mb env h1).bind fun v h2 => .of (f h2 u v) h2) σ H Q)
    (hr : ∀ x y H, rC X P hot f x y H Q → r x y H Q) : tOp r (tM (gm X P hot) W ma) (tM (gm X P hot) W mb) σ H Q := by
  obtain ⟨ρ, env, h, rh, re, p⟩ := h
  refine ⟨ρ, env, h, rh, re, p.bind fun u h1 ρ1 H1 x1 rh1 p1 v rv => ⟨ρ1, env, h1, rh1, re.mono x1, p1.bind fun w h2 ρ2 H2 x2 rh2 p2 z rz => hr _ _ _ ?_⟩⟩
  obtain ⟨d, e, p3⟩ := p2.of rh2
  exact ⟨ρ2, h2, u, w, d, rh2, rv.mono x2, rz, e, fun q vs rvs hq => p3.ok rh2 q vs rvs hq⟩
theorem op_catC : OpR X (binaryOp .Add) (rC X P hot catD) := by
  intro pins s σ H x y v u Q I rx ry h
  obtain ⟨ρ, hh, d, e, ds, rh, r1, r2, hw, k⟩ := h
  unfold catD at hw
  split at hw
  · rename_i xs hx
    cases hw
    have e0 : (catO hh d e).map D.lst = some (.lst ds) := by
      cases d <;> cases e <;> simp only [addD] at hx <;> first | exact hx | (cases hx) | (split at hx <;> cases hx)
    obtain ⟨zs, e0, e1⟩ := Option.map_eq_some_iff.mp e0
    cases e1
    unfold catO at e0
    split at e0
    · rename_i xs ys e1 e2
      split at e0
      · rename_i hz
        cases e0
        obtain ⟨a, vs, ea, h1, q1⟩ := own_at (Γ := gm X P hot) rh r1 e1
        obtain ⟨b, ws, eb, h2, q2⟩ := own_at (Γ := gm X P hot) rh r2 e2
        exact op_cat pins s σ H x y v u Q I rx ry ⟨a, b, vs, ws, ea, eb, h1, h2, by rw [q1.length, q2.length]; exact hz, fun p hp => k p _ (q1.append q2) hp⟩
      · cases e0
    · cases e0
  · cases hw
theorem op_repC : OpR X (binaryOp .Mult) (rC X P hot mrepD) := by
  intro pins s σ H x y v u Q I rx ry h
  obtain ⟨ρ, hh, d, e, ds, rh, r1, r2, hw, k⟩ := h
  unfold mrepD at hw
  split at hw
  · rename_i xs hx
    cases hw
    have e0 : ∃ n, e = .int n ∧ (mulO hh d n).map D.lst = some (.lst ds) := by
      cases d <;> cases e <;> simp only [mulD] at hx <;> first | exact ⟨_, rfl, hx⟩ | (cases hx) | (split at hx <;> cases hx)
    obtain ⟨n, rfl, e0⟩ := e0
    obtain ⟨zs, e0, e1⟩ := Option.map_eq_some_iff.mp e0
    cases e1
    unfold mulO at e0
    split at e0
    · rename_i xs e1
      split at e0
      · rename_i hz
        cases e0
        obtain ⟨a, vs, ea, h1, q1⟩ := own_at (Γ := gm X P hot) rh r1 e1
        simp only [repOk, Bool.and_eq_true, decide_eq_true_eq] at hz
        simp only [Rep] at r2
        exact op_rep pins s σ H x y v u Q I rx ry ⟨a, n, vs, ea, r2, h1, hz.1.1, hz.1.2, by rw [q1.length]; exact hz.2, fun p hp => k p _ (q1.rep n.toNat) hp⟩
      · cases e0
    · cases e0
  · cases hw
theorem c_cat {ea eb : ME} (ha : PE X a (tM (gm X P hot) W (sem call P x ea))) (hb : PE X b (tM (gm X P hot) W (sem call P x eb))) : PE X (.BinOp a .Add b pos) (tMl (gm X P hot) W (semC call P x (.cat ea eb))) :=
  (pe_op op_catC ha hb).imp fun σ H Q h => twoC catD (by simpa only [semC] using h) fun _ _ _ q => q
theorem c_rep {ea eb : ME} (ha : PE X a (tM (gm X P hot) W (sem call P x ea))) (hb : PE X b (tM (gm X P hot) W (sem call P x eb))) : PE X (.BinOp a .Mult b pos) (tMl (gm X P hot) W (semC call P x (.rep ea eb))) :=
  (pe_op op_repC ha hb).imp fun σ H Q h => twoC mrepD (by simpa only [semC] using h) fun _ _ _ q => q

/-! ### places -/
theorem atI_rep {K : PySem.W.Frag} {ρ : Pl} {H : Hp} {ds : List D} {vs : List V} {k : Int} {d : D} (r : Reps K ρ H ds vs) (e : atI ds k = some d) : ∃ v, atI vs k = some v ∧ Rep K ρ H d v := by
  unfold atI at e ⊢
  rw [r.length]
  cases h : ixN ds.length k with
  | none => rw [h] at e; cases e
  | some j =>
    rw [h] at e
    exact r.get (show ds[j]? = some d from e)
/-- o[i] by values -/
def rIxD (X : Cx) (hu : X.A.units + 1 < cLine) : R2 := fun x y H Q => rIx X.K x y H Q ∨ ∃ a v, x = .ref a ∧ DGet H a y (some v) ∧ Q v H
theorem ix_any (hu : X.A.units + 1 < cLine) : IxR X (rIxD X hu) := by
  intro value slice pins s σ H x y v u Q I rx ry h hs
  rcases h with h | ⟨a, z, rfl, g, q⟩
  · exact ix_seq value slice pins s σ H x y v u Q I rx ry h hs
  · obtain rfl : v = Value.ref a := rx
    exact tail_any (dict_typeIs I g) PySem.F.slot_dict_getitem.lookup (d_getItem hu I g ry fun w' s' I' r' => ⟨z, H, I', r', q⟩) hs
theorem ix_of (hu : X.A.units + 1 < cLine) {x y : V} {H : Hp} {Q : VK} (q : rD X P hot ixD x y H Q) : rIxD X hu x y H Q := by
  obtain ⟨ρ, hh, u, v, d, rh, r1, r2, e, k⟩ := q
  have fin : ∀ {w : V}, Rep X.K ρ H d w → Q w H := fun r => k _ ρ H .refl rh r
  have seq : ∀ {xs : List D} {a : Addr} {vs : List V} {n : Int}, x = .ref a → (SqL X.K H a vs ∨ SqT X.K H a vs) → Reps X.K ρ H xs vs → v = .int n → atI xs n = some d → rIxD X hu x y H Q := fun {xs a vs n} ex hs hr ev he => by
    subst ev
    simp only [Rep] at r2
    obtain ⟨w, e1, rw'⟩ := atI_rep hr he
    rcases hs with hs | hs
    · exact .inl (.inl ⟨a, vs, n, w, ex, r2, hs, e1, fin rw'⟩)
    · exact .inl (.inr (.inl ⟨a, vs, n, w, ex, r2, hs, e1, fin rw'⟩))
  cases u with
  | str z =>
    cases v with
    | int n =>
      simp only [ixD] at e
      split at e
      · rename_i hl
        obtain ⟨c, e1, rfl⟩ := Option.map_eq_some_iff.mp e
        simp only [Rep] at r1 r2
        exact .inl (.inr (.inr ⟨z, n, c, r1, r2, hl, e1, fin rep_str⟩))
      · cases e
    | _ => simp only [ixD] at e; cases e
  | tup xs =>
    cases v with
    | int n =>
      simp only [ixD] at e
      have r1' := r1
      simp only [Rep] at r1'
      obtain ⟨a, vs, e1, t, q⟩ := r1'
      exact seq e1 (.inr t.sq) q rfl e
    | _ => simp only [ixD] at e; cases e
  | lst xs =>
    cases v with
    | int n =>
      simp only [ixD] at e
      have r1' := r1
      simp only [Rep] at r1'
      obtain ⟨a, vs, e1, t, q⟩ := r1'
      exact seq e1 (.inl t.sq) q rfl e
    | _ => simp only [ixD] at e; cases e
  | ref p =>
    simp only [ixD] at e
    split at e
    · rename_i xs n hp
      obtain ⟨a, e1, _, vs, e3, q⟩ := rh.ref (Γ := gm X P hot) r1 hp
      exact seq e1 (.inl (.inl (.inl e3))) q rfl e
    · rename_i k o hp hn
      split at e
      · rename_i d' hd
        cases e
        simp only [Rep] at r1
        obtain ⟨a, rfl, ea⟩ := r1
        obtain ⟨w, g, ro⟩ := dget_of (Γ := gm X P hot) rh ea hp r2 hd
        cases w with
        | none => exact False.elim ro
        | some w => exact .inr ⟨a, w, rfl, g, fin ro⟩
      · cases e
    · cases e
  | _ => simp only [ixD] at e; cases e
theorem r_ix (hu : X.A.units + 1 < cLine) {ea eb : ME} (ha : PE X a (tM (gm X P hot) W (sem call P x ea))) (hb : PE X b (tM (gm X P hot) W (sem call P x eb))) (hs : PlainIx b) :
    PE X (.Subscript a b pos) (tM (gm X P hot) W (sem call P x (.ix ea eb))) :=
  (pe_ix (ix_any hu) ha hb hs).imp fun σ H Q h => two ixD (by simpa only [sem] using h) fun _ _ _ q => ix_of hu q

/-! ### slices -/
theorem cut_rep {K : PySem.W.Frag} {ρ : Pl} {H : Hp} {ds : List D} {vs : List V} {lo hi : Option Int} (r : Reps K ρ H ds vs) : Reps K ρ H (cutD ds lo hi) (cutV vs lo hi) := by
  unfold cutD cutV
  rw [r.length]
  exact (r.drop _).take _
def rSl (X : Cx) : V → Option Int → Option Int → Hp → VK → Prop := fun x lo hi H Q => rSlL X.K x lo hi H Q ∨ rSlA X.K x lo hi H Q ∨ rSlS x lo hi H Q
theorem sl_any : SlR X (rSl X) := sl_list.or (sl_tupA.or sl_str)
theorem sIx_whole {α : Type} {xs : List α} {lo hi : Option Int} (h : HT.sIx xs.length 0 lo = 0 ∧ HT.sIx xs.length xs.length hi = xs.length) : cutD xs lo hi = xs := by
  unfold cutD
  rw [h.1, h.2]
  simp
/-- a slice's part -/
def tMo (Γ : Gam) (W : WX) (m : Env → Hh → Res (Option Int)) : TO := fun σ H Q => ∃ ρ env h, RH Γ ρ H h ∧ RE Γ ρ H env σ ∧ Post Γ W σ ρ H (m env h) fun o _ H' _ => Q o H'
theorem o_none : PO X none (tMo (gm X P hot) W (semO call P x .none)) := ⟨fun pins s σ H Q I ⟨ρ, env, h, rh, re, p⟩ => po_none.run pins s σ H Q I (by
  rw [semO] at p
  exact p.ok rh)⟩
theorem o_some {ea : ME} (ha : PE X a (tM (gm X P hot) W (sem call P x ea))) : PO X (some a) (tMo (gm X P hot) W (semO call P x (.some ea))) := ⟨fun pins s σ H Q I ⟨ρ, env, h, rh, re, p⟩ => (po_some ha).run pins s σ H Q I (by
  rw [semO] at p
  refine ⟨ρ, env, h, rh, re, p.bind fun u h1 ρ1 H1 x1 rh1 p1 v rv => ?_⟩
  cases u with
  | int i =>
    simp only [Rep] at rv
    exact ⟨i, rv, p1.ok rh1⟩
  | _ => exact False.elim p1)⟩
theorem r_slc {ea : ME} {lo hi : Option Expr} {el eh : MO} {p2 : Pos} (ha : PE X a (tM (gm X P hot) W (sem call P x ea))) (hl : PO X lo (tMo (gm X P hot) W (semO call P x el))) (hh : PO X hi (tMo (gm X P hot) W (semO call P x eh))) :
    PE X (.Subscript a (.Slice lo hi none p2) pos) (tM (gm X P hot) W (sem call P x (.slc ea el eh))) := by
  refine (pe_slice sl_any ha hl hh).imp fun σ H Q ⟨ρ, env, h, rh, re, p⟩ => ?_
  rw [sem] at p
  refine ⟨ρ, env, h, rh, re, p.bind fun u h1 ρ1 H1 x1 rh1 p1 v rv => ⟨ρ1, env, h1, rh1, re.mono x1, p1.bind fun l h2 ρ2 H2 x2 rh2 p2 => ⟨ρ2, env, h2, rh2, (re.mono x1).mono x2, p2.bind fun k h3 ρ3 H3 x3 rh3 p3 => ?_⟩⟩⟩
  obtain ⟨d, e, p4⟩ := p3.of rh3
  have r3 : Rep X.K ρ3 H3 u v := (rv.mono x2).mono x3
  cases u with
  | str z =>
    simp only [slcD] at e
    split at e
    · rename_i hz
      cases e
      simp only [Rep] at r3
      exact .inr (.inr ⟨z, r3, hz, p4.ok rh3 _ rep_str⟩)
    · cases e
  | tup xs =>
    simp only [slcD, Option.some.injEq] at e
    subst e
    simp only [Rep] at r3
    obtain ⟨a, vs, rfl, t, q⟩ := r3
    refine .inr (.inl ⟨a, vs, rfl, t.sq, fun hw => ?_, fun hw q' hq => ?_⟩)
    · refine p4.ok rh3 _ ?_
      rw [q.length] at hw
      rw [sIx_whole hw]
      simp only [Rep]
      exact ⟨a, vs, rfl, t, q⟩
    · exact p4 ρ3 _ (Ext.laid rh3 hq) (rh3.laid hq) _ (rep_tup rh3 hq (cut_rep q))
  | lst xs =>
    simp only [slcD, Option.some.injEq] at e
    subst e
    simp only [Rep] at r3
    obtain ⟨a, vs, rfl, t, q⟩ := r3
    exact .inl ⟨a, vs, rfl, t.sq, fun q' hq => p4 ρ3 _ (Ext.laid rh3 hq) (rh3.laid hq) _ (rep_lst rh3 hq (cut_rep q))⟩
  | ref i =>
    simp only [slcD] at e
    split at e
    · rename_i xs hx
      cases e
      obtain ⟨a, rfl, _, vs, e3, q⟩ := rh3.ref (Γ := gm X P hot) r3 hx
      exact .inl ⟨a, vs, rfl, .inl (.inl e3), fun q' hq => p4 ρ3 _ (Ext.laid rh3 hq) (rh3.laid hq) _ (rep_lst rh3 hq (cut_rep q))⟩
    · cases e
  | _ => simp only [slcD] at e; cases e
end
end Mi
end
section
set_option Elab.async false
set_option linter.all false
set_option maxRecDepth 100000
namespace Mi
open PySem PySem.Spec PyProof.Rows L2
def Bi.name : Bi → Str
  | .len => "len" | .abs => "abs" | .int => "int" | .str => "str" | .tuple => "tuple" | .list => "list" | .sorted => "sorted" | .sum => "sum" | .min => "min" | .max => "max" | .all => "all" | .any => "any" | .repr => "repr"
def Bi.val : Bi → Value
  | .len => .builtin "len" | .abs => .builtin "abs" | .int => .type "int" | .str => .type "str" | .tuple => .type "tuple" | .list => .type "list" | .sorted => .builtin "sorted" | .sum => .builtin "sum" | .min => .builtin "min" | .max => .builtin "max" | .all => .builtin "all" | .any => .builtin "any" | .repr => .builtin "repr"
theorem Bi.boot (b : Bi) : bootBuiltins b.name = some b.val := by cases b <;> decide +kernel
section
variable {X : Cx} {P : Prog} {hot : Option Hot} {W : WX} {call : Nat → List D → Hh → Res D} {x : Option Ex}
variable {e a b c : Expr} {pos : Pos} {ma mb mc : Env → Hh → Res D}

def rBi (X : Cx) (P : Prog) (hot : Option Hot) (f : Hh → List D → Option D) : List V → Hp → VK → Prop := fun xs H Q => ∃ ρ h ds d, RH (gm X P hot) ρ H h ∧ Reps X.K ρ H ds xs ∧ f h ds = some d ∧
  ∀ w ρ' H', Ext ρ H ρ' H' → RH (gm X P hot) ρ' H' h → Rep X.K ρ' H' d w → Q w H'
theorem rBi1 {f : Hh → List D → Option D} {xs : List V} {H : Hp} {Q : VK} (q : rBi X P hot f xs H Q) (hf : ∀ h ds d, f h ds = some d → ∃ u, ds = [u]) :
    ∃ ρ h u v d, RH (gm X P hot) ρ H h ∧ xs = [v] ∧ Rep X.K ρ H u v ∧ f h [u] = some d ∧ ∀ w ρ' H', Ext ρ H ρ' H' → RH (gm X P hot) ρ' H' h → Rep X.K ρ' H' d w → Q w H' := by
  obtain ⟨ρ, h, ds, d, rh, r, e, k⟩ := q
  obtain ⟨u, rfl⟩ := hf h ds d e
  obtain ⟨v, z, rfl, r1, r2⟩ := r.cons_of
  rw [r2.nil_of]
  exact ⟨ρ, h, u, v, d, rh, rfl, r1, e, k⟩
theorem sorted_unique {xs ys : List Int} (p : xs.Perm ys) (s1 : xs.Pairwise (· ≤ ·)) (s2 : ys.Pairwise (· ≤ ·)) : xs = ys :=
  List.Perm.eq_of_pairwise (fun _ _ _ _ => Int.le_antisymm) s1 s2 p
theorem sortI_perm (ns : List Int) : (sortI ns).Perm ns := List.mergeSort_perm _ _
theorem sortI_sorted (ns : List Int) : (sortI ns).Pairwise (· ≤ ·) := by
  have h := List.pairwise_mergeSort (le := fun a b : Int => decide (a ≤ b)) (fun a b c h1 h2 => by simp only [decide_eq_true_eq] at *; omega) (fun a b => by simp only [Bool.or_eq_true, decide_eq_true_eq]; omega) ns
  exact h.imp fun h => by simpa using h
theorem minI_le : ∀ (r : List Int) (m : Int), minI m r ≤ m ∧ (∀ y ∈ r, minI m r ≤ y) ∧ (minI m r = m ∨ minI m r ∈ r)
  | [], m => ⟨Int.le_refl _, (fun _ h => nomatch h), .inl rfl⟩
  | n :: r, m => by
    obtain ⟨h1, h2, h3⟩ := minI_le r (if n < m then n else m)
    have h1' : minI (if n < m then n else m) r ≤ m ∧ minI (if n < m then n else m) r ≤ n := by split at h1 <;> rename_i hc <;> simp only [hc, if_true, if_false] <;> omega
    refine ⟨h1'.1, fun y hy => ?_, ?_⟩
    · rcases List.mem_cons.mp hy with rfl | hy
      · exact h1'.2
      · exact h2 y hy
    · show minI (if n < m then n else m) r = m ∨ minI (if n < m then n else m) r ∈ n :: r
      rcases h3 with h3 | h3
      · by_cases hc : n < m
        · rw [if_pos hc] at h3 ⊢
          exact .inr (by rw [h3]; exact List.mem_cons_self)
        · rw [if_neg hc] at h3 ⊢
          exact .inl h3
      · exact .inr (List.mem_cons_of_mem _ h3)
theorem maxI_le : ∀ (r : List Int) (m : Int), m ≤ maxI m r ∧ (∀ y ∈ r, y ≤ maxI m r) ∧ (maxI m r = m ∨ maxI m r ∈ r)
  | [], m => ⟨Int.le_refl _, (fun _ h => nomatch h), .inl rfl⟩
  | n :: r, m => by
    obtain ⟨h1, h2, h3⟩ := maxI_le r (if m < n then n else m)
    have h1' : m ≤ maxI (if m < n then n else m) r ∧ n ≤ maxI (if m < n then n else m) r := by split at h1 <;> rename_i hc <;> simp only [hc, if_true, if_false] <;> omega
    refine ⟨h1'.1, fun y hy => ?_, ?_⟩
    · rcases List.mem_cons.mp hy with rfl | hy
      · exact h1'.2
      · exact h2 y hy
    · show maxI (if m < n then n else m) r = m ∨ maxI (if m < n then n else m) r ∈ n :: r
      rcases h3 with h3 | h3
      · by_cases hc : m < n
        · rw [if_pos hc] at h3 ⊢
          exact .inr (by rw [h3]; exact List.mem_cons_self)
        · rw [if_neg hc] at h3 ⊢
          exact .inl h3
      · exact .inr (List.mem_cons_of_mem _ h3)
theorem own_seq {h : Hh} {u : D} {xs : List D} (e : ownD h u = some xs) : seqD h u = some xs := by
  cases u with
  | ref i => exact e
  | lst ds => exact e
  | _ => simp only [ownD] at e; cases e
theorem reps1 {K : PySem.W.Frag} {ρ : Pl} {H : Hp} {u : D} {xs : List V} (r : Reps K ρ H [u] xs) : ∃ v, xs = [v] ∧ Rep K ρ H u v := by
  obtain ⟨v, z, rfl, r1, r2⟩ := r.cons_of
  rw [r2.nil_of]
  exact ⟨v, rfl, r1⟩
theorem reps2 {K : PySem.W.Frag} {ρ : Pl} {H : Hp} {u t : D} {xs : List V} (r : Reps K ρ H [u, t] xs) : ∃ v w, xs = [v, w] ∧ Rep K ρ H u v ∧ Rep K ρ H t w := by
  obtain ⟨v, z, rfl, r1, r2⟩ := r.cons_of
  obtain ⟨w, rfl, r3⟩ := reps1 r2
  exact ⟨v, w, rfl, r1, r3⟩
theorem cr_sumT (hc : X.calm = true) : CallR X (.builtin "sum") (fun vs H Q => ∃ (a : Addr) (ns : List Int), vs = [V.ref a] ∧ SqT X.K H a (ns.map V.int) ∧ Q (.int ns.sum) H) := by
  intro pins s σ H vs us Q I r h
  obtain ⟨a, ns, rfl, hs, q⟩ := h
  obtain ⟨its, rv, hl, _⟩ := I.tuple hs
  rw [Vals.ref1 r]
  have hi := rv.ints
  obtain ⟨xs, e⟩ := hi.allInts.items
  have hn : numsOf (intItems xs).toList = ns := by rw [← e]; exact hi.numsOf
  rw [nums_intItems] at hn
  rw [e] at hl
  refine PySem.W.ktm_sumG (I.ok.hd hc) hl fun h' tk t' hk => ?_
  rw [PySem.preSum_eq, List.take_of_length_le (by simp), hn]
  exact ⟨.int _, H, I.kept hk, ⟨_, rfl⟩, q⟩
theorem call_bi (hc : X.calm = true) (hu : X.A.units + 66 < cLine) (hg : X.A.guards = some []) (b : Bi) : CallR X b.val (rBi X P hot fun h => biD h b) := by
  intro pins s σ H vs us Q I rx q
  obtain ⟨ρ, h, ds, d, rh, r, e, k⟩ := q
  have fin : ∀ {w : V}, Rep X.K ρ H d w → Q w H := fun r => k _ ρ H .refl rh r
  have dd : ∀ {n : Nat}, d = .int n → Rep X.K ρ H d (.int n) := fun e => by rw [e]; exact rep_int
  cases b with
  | len =>
    match ds, e with
    | [u], e =>
      obtain ⟨n, e1, rfl⟩ := Option.map_eq_some_iff.mp (show (lenD h u).map (fun (n : Nat) => D.int (n : Int)) = some d from e)
      obtain ⟨v, rfl, r1⟩ := reps1 r
      have seq : ∀ xs, seqD h u = some xs → n = xs.length → wpAny (model X.prog X.w) X.A (PySem.call (.builtin "len") us) (EP X pins σ Q) X.xe s := fun xs e2 en => by
        obtain ⟨a, ws, rfl, h1, q1⟩ := seq_at (Γ := gm X P hot) rh r1 e2
        exact call_len_seq pins s σ H _ us Q I rx ⟨a, ws, rfl, h1.imp (·.1) (·.1), by rw [q1.length, ← en]; exact fin rep_int⟩
      cases u with
      | str z =>
        simp only [lenD] at e1
        split at e1
        · rename_i hz
          cases e1
          simp only [Rep] at r1
          subst r1
          exact call_len_str pins s σ H _ us Q I rx ⟨z, rfl, hz, fin rep_int⟩
        · cases e1
      | tup xs => simp only [lenD, Option.some.injEq] at e1; exact seq xs rfl e1.symm
      | lst xs => simp only [lenD, Option.some.injEq] at e1; exact seq xs rfl e1.symm
      | scr ns => simp only [lenD, Option.some.injEq] at e1; exact seq _ rfl (by rw [List.length_map]; exact e1.symm)
      | ref i =>
        simp only [lenD] at e1
        split at e1
        · rename_i xs hx
          cases e1
          exact seq xs (by simp only [seqD, hx]) rfl
        · rename_i kvs hx
          cases e1
          obtain ⟨a, rfl, _, ws, e3, q1⟩ := rh.ref (Γ := gm X P hot) r1 hx
          obtain ⟨u, rfl, ru⟩ := vals1 rx
          obtain rfl : u = Value.ref a := ru
          have hl : ws.length = kvs.length := (Paired.length q1).symm
          exact d_len I (.inl e3) fun t s' I' => ⟨.int kvs.length, H, I', ⟨t, by rw [hl]⟩, fin rep_int⟩
        · cases e1
      | _ => simp only [lenD] at e1; cases e1
    | [], e => cases e
    | _ :: _ :: _, e => cases e
  | abs =>
    match ds, e with
    | [.int i], e =>
      obtain ⟨v, rfl, r1⟩ := reps1 r
      simp only [Rep] at r1
      subst r1
      simp only [biD, Option.some.injEq] at e
      subst e
      exact call_abs pins s σ H _ us Q I rx ⟨i, rfl, fin rep_int⟩
  | int =>
    match ds, e with
    | [.int i], e =>
      obtain ⟨v, rfl, r1⟩ := reps1 r
      simp only [Rep] at r1
      subst r1
      simp only [biD, Option.some.injEq] at e
      subst e
      exact call_int1 pins s σ H _ us Q I rx (.inl ⟨i, rfl, fin rep_int⟩)
    | [.bl i], e =>
      obtain ⟨v, rfl, r1⟩ := reps1 r
      simp only [Rep] at r1
      subst r1
      simp only [biD, Option.some.injEq] at e
      subst e
      exact call_int1 pins s σ H _ us Q I rx (.inr ⟨i, rfl, fin rep_int⟩)
  | str =>
    match ds, e with
    | [.int i], e =>
      obtain ⟨v, rfl, r1⟩ := reps1 r
      simp only [Rep] at r1
      subst r1
      simp only [biD] at e
      split at e
      · rename_i hl
        cases e
        exact call_str_int pins s σ H _ us Q I rx ⟨i, rfl, hl, fin rep_str⟩
      · cases e
  | tuple =>
    match ds, e with
    | [u], e =>
      obtain ⟨xs, e1, rfl⟩ := Option.map_eq_some_iff.mp (show (iterD h u).map .tup = some d from e)
      obtain ⟨v, rfl, r1⟩ := reps1 r
      obtain ⟨a, ws, rfl, h1, q1⟩ := seq_at (Γ := gm X P hot) rh r1 (iter_seq e1)
      rcases h1 with ⟨h1, _⟩ | ⟨h1, hu⟩
      · exact call_tuple_of pins s σ H _ us Q I rx ⟨a, ws, rfl, .inl ⟨h1, fun l hl => k _ ρ _ (Ext.laid rh hl) (rh.laid hl) (rep_tup rh hl q1)⟩⟩
      · subst hu
        exact call_tuple_of pins s σ H _ us Q I rx ⟨a, ws, rfl, .inr ⟨h1, fin r1⟩⟩
    | [], e => cases e
    | _ :: _ :: _, e => cases e
  | list =>
    match ds, e with
    | [u], e =>
      obtain ⟨xs, e1, rfl⟩ := Option.map_eq_some_iff.mp (show (listD h u).map .lst = some d from e)
      obtain ⟨v, rfl, r1⟩ := reps1 r
      obtain ⟨a, ws, rfl, h1, q1⟩ := seq_at (Γ := gm X P hot) rh r1 (iter_seq e1)
      exact call_list_of pins s σ H _ us Q I rx ⟨a, ws, rfl, h1.imp (·.1) (·.1), fun l hl => k _ ρ _ (Ext.laid rh hl) (rh.laid hl) (rep_lst rh hl q1)⟩
    | [], e => cases e
    | _ :: _ :: _, e => cases e
  | sorted =>
    match ds, e with
    | [u], e =>
      obtain ⟨xs, e1, rfl⟩ := Option.map_eq_some_iff.mp (show (sortedD h u).map .lst = some d from e)
      obtain ⟨v, rfl, r1⟩ := reps1 r
      unfold sortedD at e1
      split at e1
      · rename_i ys e2
        obtain ⟨ns, e3, rfl⟩ := Option.map_eq_some_iff.mp e1
        obtain ⟨a, ws, rfl, h1, q1⟩ := own_at (Γ := gm X P hot) rh r1 e2
        have ew := q1.ints_of e3
        subst ew
        refine cr_sortedI pins s σ H _ us Q I rx ⟨a, ns, rfl, .inl (.inl h1), fun ns' p hp hs hq => ?_⟩
        have : ns' = sortI ns := sorted_unique (hp.trans (sortI_perm ns).symm) hs (sortI_sorted ns)
        subst this
        exact k _ ρ _ (Ext.laid rh hq) (rh.laid hq) (rep_lst rh hq Reps.ints)
      · cases e1
    | [], e => cases e
    | _ :: _ :: _, e => cases e
  | sum =>
    match ds, e with
    | [u], e =>
      obtain ⟨xs, e1, e2⟩ := Option.bind_eq_some_iff.mp (show ((numsD h u).bind fun xs => (intsD xs).map fun ns => D.int ns.sum) = some d from e)
      obtain ⟨ns, e3, rfl⟩ := Option.map_eq_some_iff.mp e2
      obtain ⟨v, rfl, r1⟩ := reps1 r
      by_cases ht : ∃ zs, u = .tup zs
      · obtain ⟨zs, rfl⟩ := ht
        simp only [numsD, Option.some.injEq] at e1
        subst e1
        simp only [Rep] at r1
        obtain ⟨a, ws, rfl, t, q1⟩ := r1
        have ew := q1.ints_of e3
        subst ew
        exact cr_sumT hc pins s σ H _ us Q I rx ⟨a, ns, rfl, t.sq, fin rep_int⟩
      have e1 : ownD h u = some xs := by
        cases u with
        | tup zs => exact absurd ⟨zs, rfl⟩ ht
        | _ => exact e1
      obtain ⟨a, ws, rfl, h1, q1⟩ := own_at (Γ := gm X P hot) rh r1 e1
      have ew := q1.ints_of e3
      subst ew
      exact cr_sum hc pins s σ H _ us Q I rx ⟨a, ns, rfl, .inl (.inl h1), fin rep_int⟩
    | [], e => cases e
    | _ :: _ :: _, e => simp only [biD] at e; cases e
  | min =>
    match ds, e with
    | [u], e =>
      obtain ⟨xs, e1, e2⟩ := Option.bind_eq_some_iff.mp (show ((ownD h u).bind fun xs => (intsD xs).bind fun ns => (minL ns).map D.int) = some d from by cases u <;> exact e)
      obtain ⟨ns, e3, e4⟩ := Option.bind_eq_some_iff.mp e2
      obtain ⟨m, e5, rfl⟩ := Option.map_eq_some_iff.mp e4
      obtain ⟨v, rfl, r1⟩ := reps1 r
      obtain ⟨a, ws, rfl, h1, q1⟩ := own_at (Γ := gm X P hot) rh r1 e1
      have ew := q1.ints_of e3
      subst ew
      cases ns with
      | nil => cases e5
      | cons n ns =>
        simp only [minL, Option.some.injEq] at e5
        subst e5
        obtain ⟨m1, m2, m3⟩ := minI_le ns n
        refine cr_min hc pins s σ H _ us Q I rx ⟨a, n :: ns, rfl, .inl (.inl h1), Nat.succ_pos _, fun m hm hle => ?_⟩
        have : m = minI n ns := by
          have a1 : minI n ns ≤ m := by
            rcases List.mem_cons.mp hm with rfl | hm
            · exact m1
            · exact m2 m hm
          have a3 : minI n ns ∈ n :: ns := by
            rcases m3 with e | e
            · rw [e]; exact List.mem_cons_self
            · exact List.mem_cons_of_mem _ e
          have a2 : m ≤ minI n ns := hle _ a3
          omega
        rw [this]
        exact fin rep_int
    | [.int i, .int j], e =>
      simp only [biD, Option.some.injEq] at e
      subst e
      obtain ⟨v, w, rfl, r1, r2⟩ := reps2 r
      simp only [Rep] at r1 r2
      subst r1 r2
      exact call_min2 hc pins s σ H _ us Q I rx ⟨i, j, rfl, fin rep_int⟩
  | max =>
    match ds, e with
    | [u], e =>
      obtain ⟨xs, e1, e2⟩ := Option.bind_eq_some_iff.mp (show ((ownD h u).bind fun xs => (intsD xs).bind fun ns => (maxL ns).map D.int) = some d from by cases u <;> exact e)
      obtain ⟨ns, e3, e4⟩ := Option.bind_eq_some_iff.mp e2
      obtain ⟨m, e5, rfl⟩ := Option.map_eq_some_iff.mp e4
      obtain ⟨v, rfl, r1⟩ := reps1 r
      obtain ⟨a, ws, rfl, h1, q1⟩ := own_at (Γ := gm X P hot) rh r1 e1
      have ew := q1.ints_of e3
      subst ew
      cases ns with
      | nil => cases e5
      | cons n ns =>
        simp only [maxL, Option.some.injEq] at e5
        subst e5
        obtain ⟨m1, m2, m3⟩ := maxI_le ns n
        refine cr_max hc pins s σ H _ us Q I rx ⟨a, n :: ns, rfl, .inl (.inl h1), Nat.succ_pos _, fun m hm hle => ?_⟩
        have : m = maxI n ns := by
          have a1 : m ≤ maxI n ns := by
            rcases List.mem_cons.mp hm with rfl | hm
            · exact m1
            · exact m2 m hm
          have a3 : maxI n ns ∈ n :: ns := by
            rcases m3 with e | e
            · rw [e]; exact List.mem_cons_self
            · exact List.mem_cons_of_mem _ e
          have a2 : maxI n ns ≤ m := hle _ a3
          omega
        rw [this]
        exact fin rep_int
    | [.int i, .int j], e =>
      simp only [biD, Option.some.injEq] at e
      subst e
      obtain ⟨v, w, rfl, r1, r2⟩ := reps2 r
      simp only [Rep] at r1 r2
      subst r1 r2
      exact call_max2 hc pins s σ H _ us Q I rx ⟨i, j, rfl, fin rep_int⟩
  | all =>
    match ds, e with
    | [u], e =>
      obtain ⟨xs, e1, e2⟩ := Option.bind_eq_some_iff.mp (show ((ownD h u).bind fun xs => (blsD xs).map fun ns => D.bl (ns.all id)) = some d from e)
      obtain ⟨ns, e3, rfl⟩ := Option.map_eq_some_iff.mp e2
      obtain ⟨v, rfl, r1⟩ := reps1 r
      obtain ⟨a, ws, rfl, h1, q1⟩ := own_at (Γ := gm X P hot) rh r1 e1
      have ew := q1.bls_of e3
      subst ew
      exact cr_all hc pins s σ H _ us Q I rx ⟨a, ns, rfl, .inl (.inl h1), fin rep_bl⟩
    | [], e => cases e
    | _ :: _ :: _, e => simp only [biD] at e; cases e
  | any =>
    match ds, e with
    | [u], e =>
      obtain ⟨xs, e1, e2⟩ := Option.bind_eq_some_iff.mp (show ((ownD h u).bind fun xs => (blsD xs).map fun ns => D.bl (ns.any id)) = some d from e)
      obtain ⟨ns, e3, rfl⟩ := Option.map_eq_some_iff.mp e2
      obtain ⟨v, rfl, r1⟩ := reps1 r
      obtain ⟨a, ws, rfl, h1, q1⟩ := own_at (Γ := gm X P hot) rh r1 e1
      have ew := q1.bls_of e3
      subst ew
      exact cr_any hc pins s σ H _ us Q I rx ⟨a, ns, rfl, .inl (.inl h1), fin rep_bl⟩
    | [], e => cases e
    | _ :: _ :: _, e => simp only [biD] at e; cases e
  | repr =>
    match ds, e with
    | [u], e =>
      obtain ⟨v, rfl, r1⟩ := reps1 r
      obtain ⟨w, rfl, rw'⟩ := vals1 rx
      simp only [biD] at e
      split at e
      · rename_i y ey
        split at e
        · rename_i hy
          cases e
          have dv := rd_dp (Γ := gm X P hot) rh r1 ey
          obtain ⟨as, q1⟩ := Dp.reads I y v w dv rw'
          have fin2 : ∀ (h' : Heap) (u tk : Tok), (∀ b o, s.heap.get? b = some o → h'.get? b = some o) → EP X pins σ Q (.str y.shown u) { s with heap := h', toks := tk } := fun h' u tk kp =>
            ⟨.str y.shown, H, I.kept (t' := tk) kp, ⟨u, rfl⟩, fin rep_str⟩
          have hd : y.depth ≤ 64 := SeqAt.depth_of_shaped hy.1
          have disp : ∀ a, w = .ref a → wpAny (model X.prog X.w) X.A (PySem.call (.builtin "repr") [w]) (EP X pins σ Q) X.xe s := fun a ea => by
            subst ea
            exact repr_of_reads' q1 hy.2.1 (PyData.noDict_hsm (PyData.hasDict_of_canLay y (SeqAt.canLay_of_shaped hy.1))) hg (by omega) (fun _ _ e => e) fin2 hy.2.2
          have tok : EP X pins σ Q (.str y.shown s.toks) { s with toks := s.toks + 1 } := fin2 s.heap s.toks (s.toks + 1) fun _ _ e => e
          cases q1 with
          | none => exact PySem.P.repr_of_none tok
          | bool b => exact PySem.P.repr_of_bool tok
          | int i t => exact PySem.P.repr_of_int (by simpa [PyData.showable] using hy.2.1) tok
          | str z t => exact PySem.P.repr_of_str tok (by simpa [PyData.shown] using hy.2.2)
          | list h1 h2 h3 h4 => exact disp _ rfl
          | tuple h1 h2 h3 h4 => exact disp _ rfl
          | dict h1 h2 h3 h4 h5 => exact disp _ rfl
        · cases e
      · cases e
    | [], e => cases e
    | _ :: _ :: _, e => simp only [biD] at e; cases e
end
end Mi
end
section
set_option Elab.async false
set_option linter.all false
set_option maxRecDepth 100000
namespace Mi
open PySem PySem.Spec PyProof.Rows L2

/-- a def keeps its promise, wherever no repr is under way -/
structure FnG (P : Program) (w : World) (K : PySem.W.Frag) (mg : Str → Option Value) (base : Heap) (k : Nat) (f : Addr) (fd : FuncData) (ps : List Str) (sp : Sp) : Prop where
  len : ∀ vs H Q E, sp vs H Q E → vs.length = ps.length
  run : ∀ (A : Around) (outer : List PySem.Env) (s : Shared) (H : Hp) (args : Args) (us : List Value) (vs : List V) (Q : VK) (E : XK), Room k A → A.guards = some [] → Env0 P w K mg base A outer s H → BindsTo s fd args (ps.zip us) → Vals vs us → sp vs H Q E →
    codeAny (model P w) A (.call (.ref f) args) (CR (L2.CX P w) outer P w H s Q E) s
theorem guards_deeper {A : Around} {env : PySem.Env} (h : A.guards = some []) : (A.deeper env).guards = some [] := h
theorem guards_make {A : Around} {C : Addr} {us : List Value} {kw : List (Str × Value)} (h : A.guards = some []) : (A.under (.builtin "type.__call__" ⟨.ref C :: us, kw⟩)).guards = some [] := by
  first | exact h | simp [Around.under, Code.guards, Code.isGuard, guardIds, pushGuards, h]

section
variable {X : Cx} {k : Nat} {f C : Addr} {fd : FuncData} {ps : List Str} {sp : Sp} {E : L2.St → XK} {y m : Str} {p pos apos : Pos} {e o : Expr} {es : List Expr} {ta : TE} {t : TA} {dvs : List V} {ds : List Value}
theorem run_fnG {pins : List (Addr × Obj)} {σ : L2.St} {H : Hp} {s : Shared} {Q : VK} {us : List Value} {vs : List V} (F : FnG X.prog X.w X.K X.mg X.base k f fd ps sp) (hr : Room k X.A) (hgu : X.A.guards = some []) (hb : Binds X.K fd ps ds) (hd : Vals dvs ds) (hx : PassesAt (L2.CX X.prog X.w) X σ (E σ))
    (I : Inv X pins σ H s) (r : Vals vs us) (h : sp (vs ++ dvs) H Q (E σ)) : wpAny (model X.prog X.w) X.A (PySem.call (.ref f) us) (EP X pins σ Q) X.xe s := by
  have r2 : Vals (vs ++ dvs) (us ++ ds) := r.append hd
  have hl : (us ++ ds).length = ps.length := by rw [← r2.length]; exact F.len _ _ _ _ h
  refine wpAny_call (codeAny_mono (F.run X.A X.stack s H ⟨us, []⟩ (us ++ ds) (vs ++ dvs) Q (E σ) hr hgu I.env0 (hb s us I.kIn hl) r2 h) fun r s' hq => ?_)
  cases r with
  | error e => exact hx pins H s e s' I hq
  | ok fl =>
    cases fl with
    | ret u => exact I.after hq
    | next => exact False.elim hq
    | brk => exact False.elim hq
    | cont => exact False.elim hq
def tCallG (sp : Sp) (dvs : List V) (E : L2.St → XK) (t : TA) : TE := fun σ H Q => t σ H fun vs H1 => sp (vs ++ dvs) H1 Q (E σ)
theorem pe_callG (F : FnG X.prog X.w X.K X.mg X.base k f fd ps sp) (hr : Room k X.A) (hgu : X.A.guards = some []) (hg : Gl X y) (hm : X.mg y = some (.ref f)) (hk : PySem.W.keepIn X.K (.ref f) = true) (hb : Binds X.K fd ps ds) (hd : Vals dvs ds) (hx : ∀ σ, PassesAt (L2.CX X.prog X.w) X σ (E σ))
    (ha : PA X (e :: es) t) (hdb : (y == ("__debug__" : Str)) = false) (he : starEach (e :: es) X.env = (false, eval e X.env) :: starEach es X.env) (hpl : (backTo pos (starEach es X.env)).any (·.1) = false) :
    PE X (.Call (.Name y p) (e :: es) [] pos) (tCallG sp dvs E t) := by
  refine ⟨fun pins s σ H Q I h => ?_⟩
  refine wpAny_Call_Name_kw (ld_glob I hg hm ?_ hdb)
  refine PySem.W.callWith_K (h₀ := X.base) I.ok.mod.kin hk (thn (ha.run pos pins s σ H _ I h) fun us s1 ⟨vs, H1, I1, r, q⟩ => ⟨I1.kIn, ?_⟩) he hpl
  exact run_fnG F hr hgu hb hd (hx σ) I1 r q
theorem pe_call0G (F : FnG X.prog X.w X.K X.mg X.base k f fd ps sp) (hr : Room k X.A) (hgu : X.A.guards = some []) (hg : Gl X y) (hm : X.mg y = some (.ref f)) (hk : PySem.W.keepIn X.K (.ref f) = true) (hb : Binds X.K fd ps ds) (hd : Vals dvs ds) (hx : ∀ σ, PassesAt (L2.CX X.prog X.w) X σ (E σ))
    (hdb : (y == ("__debug__" : Str)) = false) : PE X (.Call (.Name y p) [] [] pos) (tCallG sp dvs E tNil) := by
  refine ⟨fun pins s σ H Q I h => ?_⟩
  refine wpAny_Call_Name_kw (ld_glob I hg hm ?_ hdb)
  exact PySem.W.callWith_K0 I.kIn hk (run_fnG (us := []) F hr hgu hb hd (hx σ) I .nil h)
def tMethG (C : Addr) (m : Str) (sp : Sp) (dvs : List V) (E : L2.St → XK) (ta : TE) (t : TA) : TE := fun σ H Q => ta σ H fun x H1 => ∃ a dx fs, x = .ref a ∧ H1 a = some (.ins C dx fs) ∧ fs.lookup m = none ∧
  t σ H1 fun vs H2 => sp (x :: (vs ++ dvs)) H2 Q (E σ)
theorem pe_methG {pl : Sem Bool} (he : PE X o ta) (c : Cls X.K C) (hm : Meth X.K C m f) (F : FnG X.prog X.w X.K X.mg X.base k f fd ps sp) (hr : Room k X.A) (hgu : X.A.guards = some []) (hb : Binds X.K fd ps ds) (hd : Vals dvs ds) (hx : ∀ σ, PassesAt (L2.CX X.prog X.w) X σ (E σ)) (ha : PA X (e :: es) t)
    (hst : starEach (e :: es) X.env = (false, eval e X.env) :: starEach es X.env) (hpl : (backTo pos (starEach es X.env)).any (·.1) = false)
    (ht : eval (.Call (.Attribute o m apos) (e :: es) [] pos) X.env = (do
      let ov ← eval o X.env
      standAt apos.atName
      let (f, first) ← holding [ov] (getMethod ov m pl)
      callWith pos f first (backTo pos (starEach (e :: es) X.env)) (backToKw pos (keywordEach [] X.env)))) :
    PE X (.Call (.Attribute o m apos) (e :: es) [] pos) (tMethG C m sp dvs E ta t) := by
  refine ⟨fun pins s σ H Q I h => ?_⟩
  refine PySem.W.methodCall_KW (pl := pl) (thn (he.run pins s σ H _ I h) fun u s1 ⟨x, H1, I1, rx, a, dx, fs, ex, ea, l, q⟩ => ?_) ht
  subst ex
  obtain rfl : u = Value.ref a := rx
  refine getmeth_ok I1 ea c hm l ?_
  refine PySem.W.callWith_K (first := [.ref a]) (h₀ := X.base) I.ok.mod.kin hm.kp (thn (ha.run pos pins s1 σ H1 _ I1 q) fun us s2 ⟨vs, H2, I2, r, q2⟩ => ⟨I2.kIn, ?_⟩) hst hpl
  exact run_fnG (us := .ref a :: us) (vs := .ref a :: vs) F hr hgu hb hd (hx σ) I2 (.cons rfl r) q2
theorem pe_meth0G {pl : Sem Bool} (he : PE X o ta) (c : Cls X.K C) (hm : Meth X.K C m f) (F : FnG X.prog X.w X.K X.mg X.base k f fd ps sp) (hr : Room k X.A) (hgu : X.A.guards = some []) (hb : Binds X.K fd ps ds) (hd : Vals dvs ds) (hx : ∀ σ, PassesAt (L2.CX X.prog X.w) X σ (E σ))
    (ht : eval (.Call (.Attribute o m apos) [] [] pos) X.env = (do
      let ov ← eval o X.env
      standAt apos.atName
      let (f, first) ← holding [ov] (getMethod ov m pl)
      callWith pos f first (backTo pos (starEach [] X.env)) (backToKw pos (keywordEach [] X.env)))) :
    PE X (.Call (.Attribute o m apos) [] [] pos) (tMethG C m sp dvs E ta tNil) := by
  refine ⟨fun pins s σ H Q I h => ?_⟩
  refine PySem.W.methodCall_KW (pl := pl) (thn (he.run pins s σ H _ I h) fun u s1 ⟨x, H1, I1, rx, a, dx, fs, ex, ea, l, q⟩ => ?_) ht
  subst ex
  obtain rfl : u = Value.ref a := rx
  refine getmeth_ok I1 ea c hm l ?_
  exact PySem.W.callWith_K0 (first := [.ref a]) I1.kIn hm.kp (run_fnG (us := [.ref a]) (vs := [.ref a]) F hr hgu hb hd (hx σ) I1 (.cons rfl .nil) q)
theorem run_makeG {pins : List (Addr × Obj)} {σ : L2.St} {H : Hp} {s : Shared} {Q : VK} {us : List Value} {vs : List V} (M : Mk X.K C f) (F : FnG X.prog X.w X.K X.mg X.base k f fd ps sp) (hr : Room (k + 1) X.A) (hgu : X.A.guards = some []) (hb : Binds X.K fd ps ds) (hd : Vals dvs ds)
    (hx : PassesAt (L2.CX X.prog X.w) X σ (E σ)) (I : Inv X pins σ H s) (r : Vals vs us)
    (h : ∀ x dx, H x = none → H dx = none → dx ≠ x → sp (.ref x :: (vs ++ dvs)) (upd (upd H dx (.own x)) x (.ins C dx [])) (fun v H2 => v = .non ∧ Q (.ref x) H2) (E σ)) :
    wpAny (model X.prog X.w) X.A (PySem.call (.ref C) us) (EP X pins σ Q) X.xe s := by
  have hq := h (s.heap.objs.size + 1) s.heap.objs.size (I.hok.fresh (Nat.le_succ _)) (I.hok.fresh (Nat.le_refl _)) (Nat.ne_of_lt (Nat.lt_succ_self _))
  have I2 := Inv.made (C := C) I
  have r2 : Vals (V.ref (s.heap.objs.size + 1) :: (vs ++ dvs)) (Value.ref (s.heap.objs.size + 1) :: (us ++ ds)) := .cons rfl (r.append hd)
  have hl : (Value.ref (s.heap.objs.size + 1) :: us ++ ds).length = ps.length := by
    have e := r2.length
    rw [F.len _ _ _ _ hq] at e
    exact e.symm
  refine wpAny_call (make_map (f := f) I.kIn M.makes M.init (beq_iff_eq.mp M.fn) (codeAny_mono (F.run _ X.stack _ _ ⟨Value.ref (s.heap.objs.size + 1) :: us, []⟩ (Value.ref (s.heap.objs.size + 1) :: (us ++ ds)) _ _ (E σ) (hr.make C us []) (guards_make hgu)
    (I2.env0.make C us []) (hb _ (Value.ref (s.heap.objs.size + 1) :: us) I2.kIn hl) r2 hq) fun r s' hq' => ?_))
  cases r with
  | error e => exact hx pins _ _ e s' I2 hq'
  | ok fl =>
    cases fl with
    | ret u =>
      obtain ⟨v, H', I3, rv, ev, q3⟩ := I2.after hq'
      subst ev
      exact ⟨rv, ⟨V.ref (s.heap.objs.size + 1), H', I3, rfl, q3⟩⟩
    | next => exact False.elim hq'
    | brk => exact False.elim hq'
    | cont => exact False.elim hq'
def tMakeG (C : Addr) (sp : Sp) (dvs : List V) (E : L2.St → XK) (t : TA) : TE := fun σ H Q => t σ H fun vs H1 => ∀ x dx, H1 x = none → H1 dx = none → dx ≠ x →
  sp (.ref x :: (vs ++ dvs)) (upd (upd H1 dx (.own x)) x (.ins C dx [])) (fun v H2 => v = .non ∧ Q (.ref x) H2) (E σ)
theorem pe_makeG (M : Mk X.K C f) (F : FnG X.prog X.w X.K X.mg X.base k f fd ps sp) (hr : Room (k + 1) X.A) (hgu : X.A.guards = some []) (hg : Gl X y) (hm : X.mg y = some (.ref C)) (hb : Binds X.K fd ps ds) (hd : Vals dvs ds) (hx : ∀ σ, PassesAt (L2.CX X.prog X.w) X σ (E σ))
    (ha : PA X (e :: es) t) (hdb : (y == ("__debug__" : Str)) = false) (he : starEach (e :: es) X.env = (false, eval e X.env) :: starEach es X.env) (hpl : (backTo pos (starEach es X.env)).any (·.1) = false) :
    PE X (.Call (.Name y p) (e :: es) [] pos) (tMakeG C sp dvs E t) := by
  refine ⟨fun pins s σ H Q I h => ?_⟩
  refine wpAny_Call_Name_kw (ld_glob I hg hm ?_ hdb)
  refine PySem.W.callWith_K (h₀ := X.base) I.ok.mod.kin M.kp (thn (ha.run pos pins s σ H _ I h) fun us s1 ⟨vs, H1, I1, r, q⟩ => ⟨I1.kIn, ?_⟩) he hpl
  exact run_makeG M F hr hgu hb hd (hx σ) I1 r q
theorem pe_make0G (M : Mk X.K C f) (F : FnG X.prog X.w X.K X.mg X.base k f fd ps sp) (hr : Room (k + 1) X.A) (hgu : X.A.guards = some []) (hg : Gl X y) (hm : X.mg y = some (.ref C)) (hb : Binds X.K fd ps ds) (hd : Vals dvs ds) (hx : ∀ σ, PassesAt (L2.CX X.prog X.w) X σ (E σ))
    (hdb : (y == ("__debug__" : Str)) = false) : PE X (.Call (.Name y p) [] [] pos) (tMakeG C sp dvs E tNil) := by
  refine ⟨fun pins s σ H Q I h => ?_⟩
  refine wpAny_Call_Name_kw (ld_glob I hg hm ?_ hdb)
  exact PySem.W.callWith_K0 I.kIn M.kp (run_makeG (us := []) M F hr hgu hb hd (hx σ) I .nil h)
end

/-- a def by its body -/
theorem fn_ofG {P : Program} {w : World} {K : PySem.W.Frag} {mg : Str → Option Value} {base : Heap} {k : Nat} {f : Addr} {name qual : Str} {params : Arguments} {body : List Stmt} {scope : Scope} {dV kV doc pm cdv ct oc : Value} {an od : Option Addr}
    {osl : Array (Option Value)} {N ps : List Str} {sp : Sp} (lk : K.lookup f = some ⟨oc, od, .func (PySem.W.fnOf name qual params body scope dV kV doc pm an cdv ct), osl⟩) (hcd : PySem.W.codeIn K cdv qual = true) (S : FnScope N ps scope)
    (len : ∀ vs H Q E, sp vs H Q E → vs.length = ps.length)
    (hbody : ∀ (A : Around) (outer : List PySem.Env) (s : Shared) (H : Hp) (vs : List V) (Q : VK) (E : XK), Room k (A.deeper (envOfC qual scope s.heap.objs.size f cdv)) → A.guards = some [] → sp vs H Q E →
      ∃ t, PSs (cxOf (L2.CX P w) P w K mg base N qual scope f cdv A outer s H E) body t ∧ t { nx := fun _ H' => Q .non H', rt := Q } (start N vs) H) :
    FnG P w K mg base (k + 1) f (PySem.W.fnOf name qual params body scope dV kV doc pm an cdv ct) ps sp := by
  refine ⟨len, fun A outer s H args us vs Q E hr hgu e0 hb r hsp => ?_⟩
  have hl := len _ _ _ _ hsp
  have KX : K.In s.heap := e0.mod.kin.keeps fun b o e => (e0.bs b o e).1
  have lim : s.heap.NoLimit := e0.mod.nolimit.keeps fun b o e => (e0.bs b o e).1
  have hkind : ∀ y ∈ ps.zip us, scope.names.lookup y.1 = some .local ∨ (scope.names.lookup y.1 = some .cell ∧ ((cellsFrom (s.heap.objs.size + 1) scope.names []).lookup y.1).isSome = true) := fun ⟨n, v⟩ hy => by
    rcases S.par n (List.of_mem_zip hy).1 with q | q
    · exact .inl q
    · exact .inr ⟨q, PySem.W.cellsFrom_some _ _ _ (.inl q)⟩
  refine codeAny_call_function hr.depth (KX _ _ lk) rfl S.co S.gen rfl (PySem.W.codeRec_of KX hcd) (hb _ _ _ _ ?_)
  refine wpAny_newFunctionEnv_cells S.kind hkind fun env he s1 x => ?_
  subst he
  refine ⟨lim.keeps x.toInCall.keep, codeAny_func ?_⟩
  obtain ⟨t, ht, hq⟩ := hbody A outer s H vs Q E (hr.deeper _) hgu hsp
  have I : Inv (cxOf (L2.CX P w) P w K mg base N qual scope f cdv A outer s H E) [] (start N vs) H s1 := inv_start S hr.hd e0 hl r x
  refine wpAny_mono (ht.run [] s1 (start N vs) H _ I hq) (fun fl s' hs => ?_) fun e s' hs => hs
  have fin : ∀ {σ' : L2.St} {H' : Hp} {v : V} {u : Value}, Inv (cxOf (L2.CX P w) P w K mg base N qual scope f cdv A outer s H E) [] σ' H' s' → RelV v u → Q v H' → CE outer P w H s Q u s' :=
    fun {σ' H' v u} J rv q => ⟨v, H', J.os, J.bare, J.base, J.hok, rv, q⟩
  cases fl with
  | ret u =>
    obtain ⟨v, σ', H', J, rv, q⟩ := hs
    exact fin J rv q
  | next =>
    obtain ⟨σ', H', J, q⟩ := hs
    exact fin (v := V.non) (u := Value.none) J rfl q
  | brk =>
    obtain ⟨_, _, _, q⟩ := hs
    exact False.elim q
  | cont =>
    obtain ⟨_, _, _, q⟩ := hs
    exact False.elim q

/-! ### over the small language -/
/-- the promise of the def number f: what call says -/
def spM (Γ : Gam) (call : Nat → List D → Hh → Res D) (f : Nat) : Sp := fun vs H Q E => ∃ ρ h ds, RH Γ ρ H h ∧ Reps Γ.K ρ H ds vs ∧ match call f ds h with
  | .ok d h' => ∀ v ρ' H', Ext ρ H ρ' H' → RH Γ ρ' H' h' → Rep Γ.K ρ' H' d v → Q v H'
  | .exc e h' => ∀ cls dd ρ' H', Ext ρ H ρ' H' → RH Γ ρ' H' h' → RExc Γ ρ' H' e cls dd → E cls dd H'
  | .stuck => False
section
variable {X : Cx} {P : Prog} {W : WX} {call : Nat → List D → Hh → Res D} {x : Option Ex}
variable {e a b c o : Expr} {es : List Expr} {pos p apos : Pos} {y m : Str}
theorem spM_of {f : Nat} {σ : L2.St} {ρ : Pl} {H : Hp} {h : Hh} {ds : List D} {vs : List V} {Q : VK} (rh : RH (gm X P none) ρ H h) (r : Reps X.K ρ H ds vs)
    (p : Post (gm X P none) W σ ρ H (call f ds h) fun d ρ' H' _ => ∀ v, Rep X.K ρ' H' d v → Q v H') : spM (gm X P none) call f vs H Q (WE W σ) := by
  refine ⟨ρ, h, ds, rh, r, ?_⟩
  cases hc : call f ds h with
  | ok d h' => rw [hc] at p; exact fun v ρ' H' x r rv => p ρ' H' x r v rv
  | exc e h' => rw [hc] at p; exact p
  | stuck => rw [hc] at p; exact p
theorem r_call {k f : Nat} {fa : Addr} {fd : FuncData} {ps : List Str} {ees : MEs} (F : FnG X.prog X.w X.K X.mg X.base k fa fd ps (spM (gm X P none) call f)) (hr : Room k X.A) (hgu : X.A.guards = some []) (hg : Gl X y) (hm : X.mg y = some (.ref fa)) (hk : PySem.W.keepIn X.K (.ref fa) = true) (hb : Binds X.K fd ps []) (tk : Takes X W)
    (ha : PA X (e :: es) (tMa (gm X P none) W (semA call P x ees))) (hdb : (y == ("__debug__" : Str)) = false) (he : starEach (e :: es) X.env = (false, eval e X.env) :: starEach es X.env) (hpl : (backTo pos (starEach es X.env)).any (·.1) = false) :
    PE X (.Call (.Name y p) (e :: es) [] pos) (tM (gm X P none) W (sem call P x (.call f ees))) := by
  refine (pe_callG (E := WE W) (dvs := []) F hr hgu hg hm hk hb .nil (fun σ => passAt tk σ) ha hdb he hpl).imp fun σ H Q ⟨ρ, env, h, rh, re, p⟩ => ?_
  rw [sem] at p
  exact ⟨ρ, env, h, rh, re, p.bind fun ds h1 ρ1 H1 x1 rh1 p1 vs rvs => by show spM _ _ _ (vs ++ []) _ _ _; rw [List.append_nil]; exact spM_of rh1 rvs p1⟩
theorem r_call0 {k f : Nat} {fa : Addr} {fd : FuncData} {ps : List Str} (F : FnG X.prog X.w X.K X.mg X.base k fa fd ps (spM (gm X P none) call f)) (hr : Room k X.A) (hgu : X.A.guards = some []) (hg : Gl X y) (hm : X.mg y = some (.ref fa)) (hk : PySem.W.keepIn X.K (.ref fa) = true) (hb : Binds X.K fd ps []) (tk : Takes X W)
    (hdb : (y == ("__debug__" : Str)) = false) : PE X (.Call (.Name y p) [] [] pos) (tM (gm X P none) W (sem call P x (.call f .nil))) := by
  refine (pe_call0G (E := WE W) (dvs := []) F hr hgu hg hm hk hb .nil (fun σ => passAt tk σ) hdb).imp fun σ H Q ⟨ρ, env, h, rh, re, p⟩ => ?_
  rw [sem, semA] at p
  exact spM_of rh Reps.nil p

/-! ### calls by keywords, with defaults -/
/-- the values in the parameters' order -/
def arrU (us ws : List Value) (l : List (PSrc × Value)) : List Value := l.map fun p => match p.1 with
  | .pos i => us.getD i .none
  | .kw j => ws.getD j .none
  | .dfl _ => p.2
/-- a form of call binds so; dus: the defaults' values -/
structure SigB (K : PySem.W.Frag) (fd : FuncData) (ps : List Str) (sg : Sig) (dus : List Value) : Prop where
  len : dus.length = sg.srcs.length
  to : ∀ (s : Shared) (us ws : List Value), K.In s.heap → us.length = sg.n → ws.length = sg.ks.length → BindsTo s fd ⟨us, sg.ks.zip ws⟩ (ps.zip (arrU us ws (sg.srcs.zip dus)))
  rep : ∀ p ∈ sg.srcs.zip dus, ∀ d, p.1 = .dfl d → ∃ v, RelV v p.2 ∧ ∀ ρ H, Rep K ρ H d v
theorem getD_of {α : Type} {xs : List α} {i : Nat} {x z : α} (e : xs[i]? = some x) : xs.getD i z = x := by
  rw [List.getD_eq_getElem?_getD, e]
  rfl
theorem arr_ok {K : PySem.W.Frag} {ρ : Pl} {H : Hp} {ds es : List D} {vs zs : List V} (r1 : Reps K ρ H ds vs) (r2 : Reps K ρ H es zs) : ∀ (l : List (PSrc × Value)), (∀ p ∈ l, ∀ d, p.1 = .dfl d → ∃ v, RelV v p.2 ∧ ∀ ρ H, Rep K ρ H d v) →
    ∀ args, arrange ds es (l.map (·.1)) = some args → ∃ gv, Reps K ρ H args gv ∧ ∀ us ws, Vals vs us → Vals zs ws → Vals gv (arrU us ws l)
  | [], _, args, e => by
    simp only [List.map_nil, arrange, Option.some.injEq] at e
    subst e
    exact ⟨[], Reps.nil, fun us ws _ _ => .nil⟩
  | p :: l, hp, args, e => by
    simp only [List.map_cons, arrange] at e
    split at e
    · rename_i d q e1 e2
      cases e
      obtain ⟨gv, r3, k⟩ := arr_ok r1 r2 l (fun q hq => hp q (List.mem_cons_of_mem _ hq)) q e2
      obtain ⟨src, u⟩ := p
      cases src with
      | pos i =>
        obtain ⟨v, ev, rv⟩ := r1.get (show ds[i]? = some d from e1)
        refine ⟨v :: gv, .cons rv r3, fun us ws h1 h2 => ?_⟩
        obtain ⟨w, ew, rw'⟩ := h1.get ev
        refine .cons ?_ (k us ws h1 h2)
        show RelV v (us.getD i .none)
        rw [getD_of ew]
        exact rw'
      | kw i =>
        obtain ⟨v, ev, rv⟩ := r2.get (show es[i]? = some d from e1)
        refine ⟨v :: gv, .cons rv r3, fun us ws h1 h2 => ?_⟩
        obtain ⟨w, ew, rw'⟩ := h2.get ev
        refine .cons ?_ (k us ws h1 h2)
        show RelV v (ws.getD i .none)
        rw [getD_of ew]
        exact rw'
      | dfl d' =>
        have e3 : d' = d := Option.some.inj e1
        subst e3
        obtain ⟨v, rv, k2⟩ := hp _ List.mem_cons_self d' rfl
        exact ⟨v :: gv, .cons (k2 ρ H) r3, fun us ws h1 h2 => .cons rv (k us ws h1 h2)⟩
    · cases e
theorem run_fnKG {k : Nat} {f : Addr} {fd : FuncData} {ps ks : List Str} {sp : Sp} {E : L2.St → XK} {pins : List (Addr × Obj)} {σ : L2.St} {H : Hp} {s : Shared} {Q : VK} {us ws xs : List Value} {gv : List V} (F : FnG X.prog X.w X.K X.mg X.base k f fd ps sp) (hr : Room k X.A) (hgu : X.A.guards = some [])
    (hb : BindsTo s fd ⟨us, ks.zip ws⟩ (ps.zip xs)) (hx : PassesAt (L2.CX X.prog X.w) X σ (E σ)) (I : Inv X pins σ H s) (r : Vals gv xs) (h : sp gv H Q (E σ)) : wpAny (model X.prog X.w) X.A (PySem.call (.ref f) us (ks.zip ws)) (EP X pins σ Q) X.xe s := by
  refine wpAny_call (codeAny_mono (F.run X.A X.stack s H ⟨us, ks.zip ws⟩ xs gv Q (E σ) hr hgu I.env0 hb r h) fun r s' hq => ?_)
  cases r with
  | error e => exact hx pins H s e s' I hq
  | ok fl =>
    cases fl with
    | ret u => exact I.after hq
    | next => exact False.elim hq
    | brk => exact False.elim hq
    | cont => exact False.elim hq
theorem r_callK {k g : Nat} {fa : Addr} {fd : FuncData} {ps : List Str} {ees wws : MEs} {sg : Sig} {dus : List Value} {kws : List Keyword} (hsg : P.sigs[g]? = some sg) (F : FnG X.prog X.w X.K X.mg X.base k fa fd ps (spM (gm X P none) call sg.f)) (hr : Room k X.A) (hgu : X.A.guards = some []) (hg : Gl X y) (hm : X.mg y = some (.ref fa)) (hk : PySem.W.keepIn X.K (.ref fa) = true) (hb : SigB X.K fd ps sg dus) (tk : Takes X W)
    (ha : PA X (e :: es) (tMa (gm X P none) W (semA call P x ees))) (hkw : PK X kws (tMa (gm X P none) W (semA call P x wws))) (hall : (backToKw pos (keywordEach kws X.env)).all (·.1.isSome) = true) (hks : (backToKw pos (keywordEach kws X.env)).filterMap (·.1) = sg.ks)
    (hdb : (y == ("__debug__" : Str)) = false) (he : starEach (e :: es) X.env = (false, eval e X.env) :: starEach es X.env)
    (hpl : ((backTo pos (starEach (e :: es) X.env)).any (·.1) || (backToKw pos (keywordEach kws X.env)).any (·.1.isNone)) = false) :
    PE X (.Call (.Name y p) (e :: es) kws pos) (tM (gm X P none) W (sem call P x (.callK g ees wws))) := by
  refine ⟨fun pins s σ H Q I h => ?_⟩
  obtain ⟨ρ, env, h, rh, re, p⟩ := h
  rw [sem] at p
  refine wpAny_Call_Name_kw (ld_glob I hg hm ?_ hdb)
  refine PySem.W.callWith_KW (h₀ := X.base) I.ok.mod.kin hk hall (thn (ha.run pos pins s σ H _ I ⟨ρ, env, h, rh, re, p.bind fun ds h1 ρ1 H1 x1 rh1 p1 vs rvs => (show ∃ ds ρ1 h1, RH (gm X P none) ρ1 H1 h1 ∧ RE (gm X P none) ρ1 H1 env σ ∧ Reps X.K ρ1 H1 ds vs ∧ Post (gm X P none) W σ ρ1 H1 ((semA call P x wws env h1).bind fun zs h2 => match P.sigs[g]? with
    | some sg => if ds.length = sg.n ∧ zs.length = sg.ks.length then (match arrange ds zs sg.srcs with
      | some vs => call sg.f vs h2
      | none => .stuck) else .stuck
    | none => .stuck) (fun d ρ' H' _ => ∀ v, Rep X.K ρ' H' d v → Q v H') from ⟨ds, ρ1, h1, rh1, re.mono x1, rvs, p1⟩)⟩) fun us s1 ⟨vs, H1, I1, r, ds, ρ1, h1, rh1, re1, rvs, p1⟩ => ?_) hpl he
  refine thn (hkw.run pos pins s1 σ H1 _ I1 ⟨ρ1, env, h1, rh1, re1, p1.bind fun zs h2 ρ2 H2 x2 rh2 p2 ts rts => (show ∃ zs ρ2 h2, RH (gm X P none) ρ2 H2 h2 ∧ Reps X.K ρ2 H2 ds vs ∧ Reps X.K ρ2 H2 zs ts ∧ Post (gm X P none) W σ ρ2 H2 (match P.sigs[g]? with
    | some sg => if ds.length = sg.n ∧ zs.length = sg.ks.length then (match arrange ds zs sg.srcs with
      | some vs => call sg.f vs h2
      | none => .stuck) else .stuck
    | none => .stuck) (fun d ρ' H' _ => ∀ v, Rep X.K ρ' H' d v → Q v H') from ⟨zs, ρ2, h2, rh2, rvs.mono x2, rts, p2⟩)⟩) fun ws s2 ⟨ts, H2, I2, rz, zs, ρ2, h2, rh2, rvs2, rts, p2⟩ => ⟨I2.kIn, ?_⟩
  rw [hks]
  rw [hsg] at p2
  simp only at p2
  split at p2
  · rename_i hl
    split at p2
    · rename_i args ea
      have hz : (sg.srcs.zip dus).map (·.1) = sg.srcs := by
        rw [List.map_fst_zip]
        exact Nat.le_of_eq hb.len.symm
      obtain ⟨gv, rg, kk⟩ := arr_ok rvs2 rts (sg.srcs.zip dus) hb.rep args (by rw [hz]; exact ea)
      have l1 : us.length = sg.n := by rw [← r.length, rvs2.length]; exact hl.1
      have l2 : ws.length = sg.ks.length := by rw [← rz.length, rts.length]; exact hl.2
      exact run_fnKG (E := WE W) F hr hgu (hb.to s2 us ws I2.kIn l1 l2) (passAt tk σ) I2 (kk us ws r rz) (spM_of rh2 rg p2)
    · exact False.elim p2
  · exact False.elim p2

/-! ### objects -/
/-- what the written part says of the class number c -/
structure ClsG (X : Cx) (P : Prog) (k : Nat) (call : Nat → List D → Hh → Res D) (ci : CInfo) (C : Addr) : Prop where
  mg : X.mg ci.name = some (.ref C)
  cls : Cls X.K C
  flds : ∀ f ∈ ci.flds, NoAttr X.K C f
  init : ∃ fI fd ps, Mk X.K C fI ∧ FnG X.prog X.w X.K X.mg X.base k fI fd ps (spM (gm X P none) call ci.init) ∧ Binds X.K fd ps []
  meths : ∀ m ∈ ci.meths, ∃ fa fd ps, Meth X.K C m.1 fa ∧ FnG X.prog X.w X.K X.mg X.base k fa fd ps (spM (gm X P none) call m.2) ∧ Binds X.K fd ps []
theorem lookup_rkv {K : PySem.W.Frag} {ρ : Pl} {H : Hp} {fs : List (Str × D)} {vs : List (Str × V)} (r : RKV K ρ H fs vs) (f : Str) : RO K ρ H (fs.lookup f) (vs.lookup f) := by
  induction r with
  | nil => trivial
  | @cons p q l l' h t ih =>
    rw [List.lookup_cons, List.lookup_cons, ← h.1]
    cases e : f == p.1 with
    | true => exact h.2
    | false => exact ih
theorem lookup_mem {α : Type} {fs : List (Str × α)} {f : Str} {d : α} (e : fs.lookup f = some d) : ∃ q ∈ fs, q.1 = f := by
  induction fs with
  | nil => cases e
  | cons p l ih =>
    rw [List.lookup_cons] at e
    split at e
    · rename_i h
      exact ⟨p, List.mem_cons_self, (beq_iff_eq.mp h).symm⟩
    · obtain ⟨q, hq, e1⟩ := ih e
      exact ⟨q, List.mem_cons_of_mem _ hq, e1⟩
theorem r_fld {hot : Option Hot} {f : Str} {eo : ME} (G : ∀ (c : Nat) (ci : CInfo), P.inss[c]? = some ci → ∀ C, X.mg ci.name = some (.ref C) → Cls X.K C ∧ ∀ f ∈ ci.flds, NoAttr X.K C f)
    (ho : PE X o (tM (gm X P hot) W (sem call P x eo))) (hb : attributeBase o f X.env (eval o X.env) = eval o X.env) : PE X (.Attribute o f pos) (tM (gm X P hot) W (sem call P x (.fld eo f))) := by
  refine (pe_fld ho hb).imp fun σ H Q ⟨ρ, env, h, rh, re, p⟩ => ?_
  rw [sem] at p
  refine ⟨ρ, env, h, rh, re, p.bind fun u h1 ρ1 H1 x1 rh1 p1 v rv => ?_⟩
  cases u with
  | ref i =>
    simp only at p1
    split at p1
    · rename_i c fs hi
      obtain ⟨d, e1, p2⟩ := p1.of rh1
      obtain ⟨a, rfl, _, C, dx, vs, ci, g1, g2, g3, g4, g5⟩ := rh1.ref (Γ := gm X P hot) rv hi
      obtain ⟨hc, hf⟩ := G c ci g1 C g2
      have q := lookup_rkv g4 f
      rw [e1] at q
      obtain ⟨z, hz, ez⟩ := lookup_mem e1
      cases ev : vs.lookup f with
      | none => rw [ev] at q; exact False.elim q
      | some w =>
        rw [ev] at q
        exact ⟨a, C, dx, vs, w, rfl, g3, hc, hf f (ez ▸ g5 z hz), ev, p2.ok rh1 _ q⟩
    · exact False.elim p1
  | _ => exact False.elim p1
theorem r_mth {pl : Sem Bool} {k c m : Nat} {ci : CInfo} {C : Addr} {mf : Str × Nat} {eo : ME} {ees : MEs} (hci : P.inss[c]? = some ci) (G : ClsG X P k call ci C) (hmf : ci.meths[m]? = some mf) (hr : Room k X.A) (hgu : X.A.guards = some []) (tk : Takes X W)
    (ho : PE X o (tM (gm X P none) W (sem call P x eo))) (ha : PA X (e :: es) (tMa (gm X P none) W (semA call P x ees)))
    (hst : starEach (e :: es) X.env = (false, eval e X.env) :: starEach es X.env) (hpl : (backTo pos (starEach es X.env)).any (·.1) = false)
    (ht : eval (.Call (.Attribute o mf.1 apos) (e :: es) [] pos) X.env = (do
      let ov ← eval o X.env
      standAt apos.atName
      let (f, first) ← holding [ov] (getMethod ov mf.1 pl)
      callWith pos f first (backTo pos (starEach (e :: es) X.env)) (backToKw pos (keywordEach [] X.env)))) :
    PE X (.Call (.Attribute o mf.1 apos) (e :: es) [] pos) (tM (gm X P none) W (sem call P x (.mth eo c m ees))) := by
  obtain ⟨fa, fd, ps, hm, F, hb⟩ := G.meths mf (List.mem_of_getElem? hmf)
  refine (pe_methG (E := WE W) (dvs := []) ho G.cls hm F hr hgu hb .nil (fun σ => passAt tk σ) ha hst hpl ht).imp fun σ H Q ⟨ρ, env, h, rh, re, p⟩ => ?_
  rw [sem] at p
  refine ⟨ρ, env, h, rh, re, p.bind fun u h1 ρ1 H1 x1 rh1 p1 v rv => ?_⟩
  cases u with
  | ref i =>
    simp only [hci] at p1
    split at p1
    · rename_i c' fs ci' hi hci'
      cases hci'
      simp only [hmf] at p1
      split at p1
      · rename_i hc
        obtain ⟨a, rfl, ea, C', dx, vs, ci', g1, g2, g3, g4, g5⟩ := rh1.ref (Γ := gm X P none) rv hi
        obtain ⟨rfl, hn⟩ := hc
        have g1' : P.inss[c']? = some ci' := g1
        rw [hci] at g1'
        cases g1'
        have g2' : X.mg ci.name = some (.ref C') := g2
        rw [G.mg] at g2'
        cases g2'
        have q := lookup_rkv g4 mf.1
        rw [hn] at q
        refine ⟨a, dx, vs, rfl, g3, ?_, ρ1, env, h1, rh1, re.mono x1, p1.bind fun ds h2 ρ2 H2 x2 rh2 p2 ws rws => ?_⟩
        · cases ev : vs.lookup mf.1 with
          | none => rfl
          | some w => rw [ev] at q; exact False.elim q
        · show spM _ _ _ (V.ref a :: (ws ++ [])) _ _ _
          rw [List.append_nil]
          exact spM_of rh2 (.cons (rep_ref (x2.1.1 _ _ ea)) rws) p2
      · exact False.elim p1
    · exact False.elim p1
  | _ => exact False.elim p1
theorem r_mth0 {pl : Sem Bool} {k c m : Nat} {ci : CInfo} {C : Addr} {mf : Str × Nat} {eo : ME} (hci : P.inss[c]? = some ci) (G : ClsG X P k call ci C) (hmf : ci.meths[m]? = some mf) (hr : Room k X.A) (hgu : X.A.guards = some []) (tk : Takes X W)
    (ho : PE X o (tM (gm X P none) W (sem call P x eo)))
    (ht : eval (.Call (.Attribute o mf.1 apos) [] [] pos) X.env = (do
      let ov ← eval o X.env
      standAt apos.atName
      let (f, first) ← holding [ov] (getMethod ov mf.1 pl)
      callWith pos f first (backTo pos (starEach [] X.env)) (backToKw pos (keywordEach [] X.env)))) :
    PE X (.Call (.Attribute o mf.1 apos) [] [] pos) (tM (gm X P none) W (sem call P x (.mth eo c m .nil))) := by
  obtain ⟨fa, fd, ps, hm, F, hb⟩ := G.meths mf (List.mem_of_getElem? hmf)
  refine (pe_meth0G (E := WE W) (dvs := []) ho G.cls hm F hr hgu hb .nil (fun σ => passAt tk σ) ht).imp fun σ H Q ⟨ρ, env, h, rh, re, p⟩ => ?_
  rw [sem] at p
  refine ⟨ρ, env, h, rh, re, p.bind fun u h1 ρ1 H1 x1 rh1 p1 v rv => ?_⟩
  cases u with
  | ref i =>
    simp only [hci] at p1
    split at p1
    · rename_i c' fs ci' hi hci'
      cases hci'
      simp only [hmf] at p1
      split at p1
      · rename_i hc
        obtain ⟨a, rfl, ea, C', dx, vs, ci', g1, g2, g3, g4, g5⟩ := rh1.ref (Γ := gm X P none) rv hi
        obtain ⟨rfl, hn⟩ := hc
        have g1' : P.inss[c']? = some ci' := g1
        rw [hci] at g1'
        cases g1'
        have g2' : X.mg ci.name = some (.ref C') := g2
        rw [G.mg] at g2'
        cases g2'
        have q := lookup_rkv g4 mf.1
        rw [hn] at q
        refine ⟨a, dx, vs, rfl, g3, ?_, ?_⟩
        · cases ev : vs.lookup mf.1 with
          | none => rfl
          | some w => rw [ev] at q; exact False.elim q
        · rw [semA, bind_ok] at p1
          exact spM_of rh1 (.cons (rep_ref ea) Reps.nil) p1
      · exact False.elim p1
    · exact False.elim p1
  | _ => exact False.elim p1
/-- a new instance -/
theorem made_rh {Γ : Gam} {ρ : Pl} {H : Hp} {h : Hh} {c : Nat} {ci : CInfo} {C a dx : Addr} (rh : RH Γ ρ H h) (hci : Γ.P.inss[c]? = some ci) (hmg : Γ.mg ci.name = some (.ref C)) (ha : H a = none) (hd : H dx = none) (hne : dx ≠ a) :
    Ext ρ H (ρ.push a) (upd (upd H dx (.own a)) a (.ins C dx [])) ∧ RH Γ (ρ.push a) (upd (upd H dx (.own a)) a (.ins C dx [])) (h ++ [.ins c []]) := by
  have rh1 : RH Γ ρ (upd H dx (.own a)) h := rh.laid hd
  have ha1 : (upd H dx (.own a)) a = none := by rw [upd_ne (Ne.symm hne)]; exact ha
  exact ⟨(Ext.laid rh hd).trans (Ext.alloc rh1 ha1), rh1.alloc ha1 ⟨C, dx, [], ci, hci, hmg, upd_same, .nil, fun _ h => nomatch h⟩⟩
theorem ins_end {c : Nat} {ci : CInfo} {C : Addr} {f : Nat} {σ : L2.St} {ρ : Pl} {H : Hp} {h : Hh} {ds : List D} {vs : List V} {Q : VK} (rh : RH (gm X P none) ρ H h) (hci : P.inss[c]? = some ci) (hmg : X.mg ci.name = some (.ref C)) (r : Reps X.K ρ H ds vs)
    (p : Post (gm X P none) W σ ρ H ((call f (.ref h.length :: ds) (h ++ [.ins c []])).bind fun v h2 => match v with
      | .non => .ok (.ref h.length) h2
      | _ => .stuck) fun d ρ' H' _ => ∀ v, Rep X.K ρ' H' d v → Q v H') :
    ∀ a dx, H a = none → H dx = none → dx ≠ a → spM (gm X P none) call f (.ref a :: vs) (upd (upd H dx (.own a)) a (.ins C dx [])) (fun v H2 => v = .non ∧ Q (.ref a) H2) (WE W σ) := by
  intro a dx ha hd hne
  obtain ⟨x1, rh1⟩ := made_rh (Γ := gm X P none) rh hci hmg ha hd hne
  have el : (ρ.push a).pl[h.length]? = some a := last_ref rh
  refine spM_of rh1 (.cons (rep_ref el) (r.mono x1)) (Post.bind (Post.later x1 p) fun u h2 ρ2 H2 x2 rh2 p2 v rv => ?_)
  cases u with
  | non =>
    simp only [Rep] at rv
    exact ⟨rv, p2.ok rh2 _ (rep_ref (x2.1.1 _ _ el))⟩
  | _ => exact False.elim p2
theorem r_ins {k c : Nat} {ci : CInfo} {C : Addr} {ees : MEs} (hci : P.inss[c]? = some ci) (G : ClsG X P k call ci C) (hr : Room (k + 1) X.A) (hgu : X.A.guards = some []) (hg : Gl X ci.name) (tk : Takes X W)
    (ha : PA X (e :: es) (tMa (gm X P none) W (semA call P x ees))) (hdb : (ci.name == ("__debug__" : Str)) = false) (he : starEach (e :: es) X.env = (false, eval e X.env) :: starEach es X.env) (hpl : (backTo pos (starEach es X.env)).any (·.1) = false) :
    PE X (.Call (.Name ci.name p) (e :: es) [] pos) (tM (gm X P none) W (sem call P x (.ins c ees))) := by
  obtain ⟨fI, fd, ps, M, F, hb⟩ := G.init
  refine (pe_makeG (E := WE W) (dvs := []) M F hr hgu hg G.mg hb .nil (fun σ => passAt tk σ) ha hdb he hpl).imp fun σ H Q ⟨ρ, env, h, rh, re, p⟩ => ?_
  rw [sem] at p
  refine ⟨ρ, env, h, rh, re, p.bind fun ds h1 ρ1 H1 x1 rh1 p1 vs rvs => ?_⟩
  simp only [hci] at p1
  intro a dx hxa hxd hne
  show spM _ _ _ (V.ref a :: (vs ++ [])) _ _ _
  rw [List.append_nil]
  exact ins_end rh1 hci G.mg rvs p1 a dx hxa hxd hne
theorem r_ins0 {k c : Nat} {ci : CInfo} {C : Addr} (hci : P.inss[c]? = some ci) (G : ClsG X P k call ci C) (hr : Room (k + 1) X.A) (hgu : X.A.guards = some []) (hg : Gl X ci.name) (tk : Takes X W)
    (hdb : (ci.name == ("__debug__" : Str)) = false) : PE X (.Call (.Name ci.name p) [] [] pos) (tM (gm X P none) W (sem call P x (.ins c .nil))) := by
  obtain ⟨fI, fd, ps, M, F, hb⟩ := G.init
  refine (pe_make0G (E := WE W) (dvs := []) M F hr hgu hg G.mg hb .nil (fun σ => passAt tk σ) hdb).imp fun σ H Q ⟨ρ, env, h, rh, re, p⟩ => ?_
  rw [sem, semA, bind_ok] at p
  simp only [hci] at p
  exact fun a dx hxa hxd hne => ins_end rh hci G.mg Reps.nil p a dx hxa hxd hne
end
end Mi
end
section
set_option Elab.async false
set_option linter.all false
set_option maxRecDepth 100000
namespace Mi
open PySem PySem.Spec PyProof.Rows L2

/-- the iterator hands out ds, one by one, as long as the lists of g stand -/
structure Srv (Γ : Gam) (J : It) (ρ : Pl) (H : Hp) (g : Gd) (ds : List D) : Prop where
  item : ∀ ρ' H' h', Wk ρ H ρ' H' → RH Γ ρ' H' h' → gok g h' → ∀ (i : Nat) (d : D), ds[i]? = some d → J.go i H' ∧ ∀ x H'', J.yld i H' x H'' → Ext ρ' H' ρ' H'' ∧ RH Γ ρ' H'' h' ∧ Rep Γ.K ρ' H'' d x
  done : ∀ ρ' H' h', Wk ρ H ρ' H' → RH Γ ρ' H' h' → gok g h' → ∀ (i : Nat), i = ds.length → J.stop i H'
def tMi (Γ : Gam) (W : WX) (m : Env → Hh → Res (List D × Gd)) : TI := fun σ H R => ∃ ρ env h, RH Γ ρ H h ∧ RE Γ ρ H env σ ∧ Post Γ W σ ρ H (m env h) fun dg ρ' H' _ => ∀ J, Srv Γ J ρ' H' dg.2 dg.1 → dg.1.length ≤ sizeLine → R J H'
theorem _root_.L2.PI.imp {X : Cx} {tg e : Expr} {t t' : TI} (h : PI X tg e t) (i : ∀ σ H R, t' σ H R → t σ H R) : PI X tg e t' := ⟨fun pins s σ H R I q => h.run pins s σ H R I (i σ H R q)⟩
section
variable {X : Cx} {P : Prog} {hot : Option Hot} {W : WX} {call : Nat → List D → Hh → Res D} {x : Option Ex}
variable {e a b c tg : Expr} {pos p tpos : Pos}
section
variable {Γ : Gam} {ρ ρ' : Pl} {H H' : Hp} {h h' : Hh}
/-- what was a list or a tuple is one as long as the guard stands -/
theorem seq_later (rh : RH Γ ρ H h) {u : D} {a : Addr} {xs : List D} (r : Rep Γ.K ρ H u (.ref a)) (e : seqD h u = some xs) (y : Wk ρ H ρ' H') (rh' : RH Γ ρ' H' h') (g : gok (guardD h u) h') :
    ∃ vs, ((SqL Γ.K H' a vs ∧ ∀ ds, u ≠ .tup ds) ∨ (SqT Γ.K H' a vs ∧ u = .tup xs)) ∧ Reps Γ.K ρ' H' xs vs := by
  have r' := r.wk y
  have e' : seqD h' u = some xs := by
    cases u with
    | ref i =>
      simp only [seqD] at e
      split at e
      · rename_i zs hz
        cases e
        simp only [guardD, hz, gok_one] at g
        simp only [seqD, g]
      · cases e
    | _ => exact e
  obtain ⟨a', vs, e1, q, rs⟩ := seq_at rh' r' e'
  cases e1
  exact ⟨vs, q, rs⟩
theorem reps_get2 {xs : List D} {vs : List V} {i : Nat} {d : D} {K : PySem.W.Frag} (r : Reps K ρ H xs vs) (e : xs[i]? = some d) : ∃ v, vs[i]? = some v ∧ Rep K ρ H d v := r.get e
/-- a list's or a tuple's items -/
theorem srv_list (rh : RH Γ ρ H h) {u : D} {a : Addr} {xs : List D} (r : Rep Γ.K ρ H u (.ref a)) (e : seqD h u = some xs) (nt : ∀ ds, u ≠ .tup ds) : Srv Γ (Itl Γ.K a) ρ H (guardD h u) xs := by
  have key : ∀ ρ' H' h', Wk ρ H ρ' H' → RH Γ ρ' H' h' → gok (guardD h u) h' → ∃ vs, SqL Γ.K H' a vs ∧ Reps Γ.K ρ' H' xs vs := fun ρ' H' h' y rh' g => by
    obtain ⟨vs, q, rs⟩ := seq_later rh r e y rh' g
    rcases q with ⟨q, _⟩ | ⟨_, q⟩
    · exact ⟨vs, q, rs⟩
    · exact absurd q (nt _)
  refine ⟨fun ρ' H' h' y rh' g i d ed => ?_, fun ρ' H' h' y rh' g i hi => ?_⟩
  · obtain ⟨vs, q, rs⟩ := key ρ' H' h' y rh' g
    obtain ⟨v, ev, rv⟩ := rs.get ed
    refine ⟨⟨vs, v, q, ev⟩, fun z H'' ⟨e1, e2⟩ => ?_⟩
    subst e1
    have := e2 vs q
    rw [ev] at this
    cases this
    exact ⟨.refl, rh', rv⟩
  · obtain ⟨vs, q, rs⟩ := key ρ' H' h' y rh' g
    exact ⟨vs, q, by rw [rs.length]; exact Nat.le_of_eq hi.symm⟩
theorem srv_tup (rh : RH Γ ρ H h) {a : Addr} {xs : List D} (r : Rep Γ.K ρ H (.tup xs) (.ref a)) : Srv Γ (Itt Γ.K a) ρ H [] xs := by
  have key : ∀ ρ' H' h', Wk ρ H ρ' H' → RH Γ ρ' H' h' → ∃ vs, SqT Γ.K H' a vs ∧ Reps Γ.K ρ' H' xs vs := fun ρ' H' h' y rh' => by
    obtain ⟨vs, q, rs⟩ := seq_later (u := .tup xs) rh r rfl y rh' (by simp [guardD])
    rcases q with ⟨_, q⟩ | ⟨q, _⟩
    · exact absurd rfl (q _)
    · exact ⟨vs, q, rs⟩
  refine ⟨fun ρ' H' h' y rh' g i d ed => ?_, fun ρ' H' h' y rh' g i hi => ?_⟩
  · obtain ⟨vs, q, rs⟩ := key ρ' H' h' y rh'
    obtain ⟨v, ev, rv⟩ := rs.get ed
    refine ⟨⟨vs, v, q, ev⟩, fun z H'' ⟨e1, e2⟩ => ?_⟩
    subst e1
    have := e2 vs q
    rw [ev] at this
    cases this
    exact ⟨.refl, rh', rv⟩
  · obtain ⟨vs, q, rs⟩ := key ρ' H' h' y rh'
    exact ⟨vs, q, by rw [rs.length]; exact Nat.le_of_eq hi.symm⟩
theorem rng_get {n : Nat} {f : Nat → D} {i : Nat} {d : D} (e : ((List.range n).map f)[i]? = some d) : i < n ∧ d = f i := by
  rw [List.getElem?_map, Option.map_eq_some_iff] at e
  obtain ⟨k, e1, e2⟩ := e
  obtain ⟨hk, e3⟩ := List.getElem?_eq_some_iff.mp e1
  simp at e3 hk
  subst e3
  exact ⟨hk, e2.symm⟩
theorem srv_rng {lo : Int} {n : Nat} : Srv Γ (Itr lo n) ρ H [] ((List.range n).map fun (k : Nat) => D.int (lo + k)) := by
  refine ⟨fun ρ' H' h' y rh' g i d ed => ?_, fun ρ' H' h' y rh' g i hi => ?_⟩
  · obtain ⟨hi, rfl⟩ := rng_get ed
    refine ⟨hi, fun z H'' ⟨e1, e2⟩ => ?_⟩
    subst e1 e2
    exact ⟨.refl, rh', rep_int⟩
  · show n ≤ i
    rw [hi]
    simp
theorem srv_rngC {lo c : Int} {n : Nat} : Srv Γ (Itc lo c n) ρ H [] ((List.range n).map fun (k : Nat) => D.int (lo + (k : Int) * c)) := by
  refine ⟨fun ρ' H' h' y rh' g i d ed => ?_, fun ρ' H' h' y rh' g i hi => ?_⟩
  · obtain ⟨hi, rfl⟩ := rng_get ed
    refine ⟨hi, fun z H'' ⟨e1, e2⟩ => ?_⟩
    subst e1 e2
    exact ⟨.refl, rh', rep_int⟩
  · show n ≤ i
    rw [hi]
    simp
theorem pair_made {H : Hp} {h : Hh} {ρ : Pl} (rh : RH Γ ρ H h) {T : Addr} (hT : H T = none) {d d' : D} {v v' : V} (r : Rep Γ.K ρ H d v) (r' : Rep Γ.K ρ H d' v') :
    Ext ρ H ρ (upd H T (.tup [v, v'])) ∧ RH Γ ρ (upd H T (.tup [v, v'])) h ∧ Rep Γ.K ρ (upd H T (.tup [v, v'])) (.tup [d, d']) (.ref T) :=
  ⟨Ext.laid rh hT, rh.laid hT, rep_tup rh hT (.cons r (.cons r' .nil))⟩
theorem enum_get {xs : List D} {i : Nat} {d : D} (e : (enumD xs)[i]? = some d) : ∃ y, xs[i]? = some y ∧ d = .tup [.int i, y] := by
  unfold enumD at e
  rw [List.getElem?_zipWith] at e
  split at e
  · rename_i k y hk hy
    obtain ⟨h1, e3⟩ := List.getElem?_eq_some_iff.mp hk
    simp at e3
    subst e3
    exact ⟨y, hy, (Option.some.inj e).symm⟩
  · cases e
theorem enum_len {xs : List D} : (enumD xs).length = xs.length := by simp [enumD]
theorem srv_enum (rh : RH Γ ρ H h) {u : D} {a : Addr} {xs : List D} (r : Rep Γ.K ρ H u (.ref a)) (e : seqD h u = some xs) (nt : ∀ ds, u ≠ .tup ds) : Srv Γ (Ite Γ.K a) ρ H (guardD h u) (enumD xs) := by
  have key : ∀ ρ' H' h', Wk ρ H ρ' H' → RH Γ ρ' H' h' → gok (guardD h u) h' → ∃ vs, SqL Γ.K H' a vs ∧ Reps Γ.K ρ' H' xs vs := fun ρ' H' h' y rh' g => by
    obtain ⟨vs, q, rs⟩ := seq_later rh r e y rh' g
    rcases q with ⟨q, _⟩ | ⟨_, q⟩
    · exact ⟨vs, q, rs⟩
    · exact absurd q (nt _)
  refine ⟨fun ρ' H' h' y rh' g i d ed => ?_, fun ρ' H' h' y rh' g i hi => ?_⟩
  · obtain ⟨w, ed', rfl⟩ := enum_get ed
    obtain ⟨vs, q, rs⟩ := key ρ' H' h' y rh' g
    obtain ⟨v, ev, rv⟩ := rs.get ed'
    refine ⟨⟨vs, v, q, ev⟩, fun z H'' ⟨T, z', e1, e2, e3, e4⟩ => ?_⟩
    subst e1 e3
    have := e4 vs q
    rw [ev] at this
    cases this
    exact pair_made rh' e2 rep_int rv
  · obtain ⟨vs, q, rs⟩ := key ρ' H' h' y rh' g
    exact ⟨vs, q, by rw [rs.length]; rw [enum_len] at hi; exact Nat.le_of_eq hi.symm⟩
theorem zip_get {xs ys : List D} {i : Nat} {d : D} (e : (zipD xs ys)[i]? = some d) : ∃ y z, xs[i]? = some y ∧ ys[i]? = some z ∧ d = .tup [y, z] := by
  unfold zipD at e
  rw [List.getElem?_zipWith] at e
  split at e
  · rename_i y z hy hz
    exact ⟨y, z, hy, hz, (Option.some.inj e).symm⟩
  · cases e
theorem gok_append {g g' : Gd} {h : Hh} (k : gok (g ++ g') h) : gok g h ∧ gok g' h := ⟨fun q hq => k q (List.mem_append_left _ hq), fun q hq => k q (List.mem_append_right _ hq)⟩
theorem srv_zip {ul ur : D} (rh : RH Γ ρ H h) {a b : Addr} {xs ys : List D} (r : Rep Γ.K ρ H ul (.ref a)) (e : seqD h ul = some xs) (nt : ∀ ds, ul ≠ .tup ds) (r' : Rep Γ.K ρ H ur (.ref b)) (e' : seqD h ur = some ys) (nt' : ∀ ds, ur ≠ .tup ds) :
    Srv Γ (Itz Γ.K a b) ρ H (guardD h ul ++ guardD h ur) (zipD xs ys) := by
  have key : ∀ {u : D} {a : Addr} {xs : List D}, Rep Γ.K ρ H u (.ref a) → seqD h u = some xs → (∀ ds, u ≠ .tup ds) → ∀ ρ' H' h', Wk ρ H ρ' H' → RH Γ ρ' H' h' → gok (guardD h u) h' → ∃ vs, SqL Γ.K H' a vs ∧ Reps Γ.K ρ' H' xs vs := fun r e nt ρ' H' h' y rh' g => by
    obtain ⟨vs, q, rs⟩ := seq_later rh r e y rh' g
    rcases q with ⟨q, _⟩ | ⟨_, q⟩
    · exact ⟨vs, q, rs⟩
    · exact absurd q (nt _)
  refine ⟨fun ρ' H' h' y rh' g i d ed => ?_, fun ρ' H' h' y rh' g i hi => ?_⟩
  · obtain ⟨w, w', ex, ey, rfl⟩ := zip_get ed
    obtain ⟨vs, q, rs⟩ := key r e nt ρ' H' h' y rh' (gok_append g).1
    obtain ⟨vs', q', rs'⟩ := key r' e' nt' ρ' H' h' y rh' (gok_append g).2
    obtain ⟨v, ev, rv⟩ := rs.get ex
    obtain ⟨v', ev', rv'⟩ := rs'.get ey
    refine ⟨⟨vs, vs', v, v', q, q', ev, ev'⟩, fun z H'' ⟨T, z1, z2, e1, e2, e3, e4, e5⟩ => ?_⟩
    subst e1 e3
    have h1 := e4 vs q
    rw [ev] at h1
    cases h1
    have h2 := e5 vs' q'
    rw [ev'] at h2
    cases h2
    exact pair_made rh' e2 rv rv'
  · obtain ⟨vs, q, rs⟩ := key r e nt ρ' H' h' y rh' (gok_append g).1
    obtain ⟨vs', q', rs'⟩ := key r' e' nt' ρ' H' h' y rh' (gok_append g).2
    refine ⟨vs, vs', q, q', ?_⟩
    rw [rs.length, rs'.length]
    unfold zipD at hi
    rw [List.length_zipWith] at hi
    omega
theorem srv_zipT (rh : RH Γ ρ H h) {a b : Addr} {xs ys : List D} (r : Rep Γ.K ρ H (.tup xs) (.ref a)) (r' : Rep Γ.K ρ H (.tup ys) (.ref b)) :
    Srv Γ (RZ.ItzT Γ.K a b) ρ H [] (zipD xs ys) := by
  have key : ∀ {a : Addr} {xs : List D}, Rep Γ.K ρ H (.tup xs) (.ref a) → ∀ ρ' H' h', Wk ρ H ρ' H' → RH Γ ρ' H' h' → ∃ vs, SqT Γ.K H' a vs ∧ Reps Γ.K ρ' H' xs vs := fun {a xs} r ρ' H' h' y rh' => by
    obtain ⟨vs, q, rs⟩ := seq_later (u := .tup xs) rh r rfl y rh' (by simp [guardD])
    rcases q with ⟨_, q⟩ | ⟨q, _⟩
    · exact absurd rfl (q _)
    · exact ⟨vs, q, rs⟩
  refine ⟨fun ρ' H' h' y rh' g i d ed => ?_, fun ρ' H' h' y rh' g i hi => ?_⟩
  · obtain ⟨w, w', ex, ey, rfl⟩ := zip_get ed
    obtain ⟨vs, q, rs⟩ := key r ρ' H' h' y rh'
    obtain ⟨vs', q', rs'⟩ := key r' ρ' H' h' y rh'
    obtain ⟨v, ev, rv⟩ := rs.get ex
    obtain ⟨v', ev', rv'⟩ := rs'.get ey
    refine ⟨⟨vs, vs', v, v', q, q', ev, ev'⟩, fun z H'' ⟨T, z1, z2, e1, e2, e3, e4, e5⟩ => ?_⟩
    subst e1 e3
    have h1 := e4 vs q
    rw [ev] at h1
    cases h1
    have h2 := e5 vs' q'
    rw [ev'] at h2
    cases h2
    exact pair_made rh' e2 rv rv'
  · obtain ⟨vs, q, rs⟩ := key r ρ' H' h' y rh'
    obtain ⟨vs', q', rs'⟩ := key r' ρ' H' h' y rh'
    refine ⟨vs, vs', q, q', ?_⟩
    rw [rs.length, rs'.length]
    unfold zipD at hi
    rw [List.length_zipWith] at hi
    omega
end

/-- what comes is no longer than a list may be -/
def Szd (K : PySem.W.Frag) (H : Hp) (v : V) : Prop := ∀ a xs, v = .ref a → SqL K H a xs ∨ SqT K H a xs → xs.length ≤ sizeLine
theorem szd_of {pins : List (Addr × Obj)} {σ : L2.St} {H : Hp} {s : Shared} (I : Inv X pins σ H s) (v : V) : Szd X.K H v := fun a xs _ q => by
  rcases q with q | q
  · obtain ⟨_, _, _, h⟩ := I.list q
    exact h
  · obtain ⟨_, _, _, h⟩ := I.tuple q
    exact h
theorem pe_szd {t : TE} (he : PE X e t) : PE X e fun σ H Q => t σ H fun v H1 => Szd X.K H1 v → Q v H1 :=
  ⟨fun pins s σ H Q I h => thn (he.run pins s σ H _ I h) fun u s1 ⟨v, H1, I1, r, q⟩ => ⟨v, H1, I1, r, q (szd_of I1 v)⟩⟩
theorem pa_szd {es : List Expr} {t : TA} (ha : PA X es t) : PA X es fun σ H Q => t σ H fun vs H1 => (∀ v ∈ vs, Szd X.K H1 v) → Q vs H1 :=
  ⟨fun pos pins s σ H Q I h => thn (ha.run pos pins s σ H _ I h) fun u s1 ⟨v, H1, I1, r, q⟩ => ⟨v, H1, I1, r, q fun v _ => szd_of I1 v⟩⟩
/-- by what the value is, before it is come to -/
theorem i_val {ee : ME} (he : PE X e (tM (gm X P hot) W (sem call P x ee))) : PI X tg e (tMi (gm X P hot) W (semI call P x (.val ee))) := by
  refine ⟨fun pins s σ H R I ⟨ρ, env, h, rh, re, p⟩ => ?_⟩
  rw [semI] at p
  by_cases ht : ∃ ds h1, sem call P x ee env h = .ok (.tup ds) h1
  · obtain ⟨ds, h1, e1⟩ := ht
    refine (pi_tup (pe_szd he)).run pins s σ H R I ⟨ρ, env, h, rh, re, ?_⟩
    rw [e1] at p ⊢
    intro ρ1 H1 y rh1 v rv sz
    simp only [bind_ok, seqD, Option.map_some, of_some] at p
    have q := Post.ok rh1 (Post.later y p)
    simp only [Rep] at rv
    obtain ⟨a, vs, rfl, t, rs⟩ := rv
    exact ⟨a, rfl, ⟨vs, t.sq⟩, q _ (srv_tup rh1 (by simp only [Rep]; exact ⟨a, vs, rfl, t, rs⟩)) (by rw [← rs.length]; exact sz a vs rfl (.inr t.sq))⟩
  · refine (pi_list (pe_szd he)).run pins s σ H R I ⟨ρ, env, h, rh, re, ?_⟩
    cases e1 : sem call P x ee env h with
    | stuck => rw [e1] at p; exact p
    | exc ex h1 => rw [e1] at p; exact p
    | ok u h1 =>
      rw [e1] at p ht
      have nt : ∀ ds, u ≠ .tup ds := fun ds z => ht ⟨ds, h1, by rw [z]⟩
      intro ρ1 H1 y rh1 v rv sz
      obtain ⟨dg, e2, p2⟩ := Post.of rh1 (Post.later y p)
      rw [Option.map_eq_some_iff] at e2
      obtain ⟨xs, e3, rfl⟩ := e2
      obtain ⟨a, vs, rfl, q, rs⟩ := seq_at (Γ := gm X P hot) rh1 rv e3
      rcases q with ⟨q, _⟩ | ⟨_, q⟩
      · exact ⟨a, rfl, ⟨vs, q⟩, p2.ok rh1 _ (srv_list rh1 rv e3 nt) (by rw [← rs.length]; exact sz a vs rfl (.inl q))⟩
      · exact absurd q (nt _)
theorem rng_sz {i j k : Int} {xs : List D} (e : rngD i j k = some xs) : xs.length ≤ sizeLine := by
  simp only [rngD] at e
  split at e
  · split at e
    · split at e
      · cases e; rw [List.length_map, List.length_range]; assumption
      · cases e
    · split at e
      · split at e
        · cases e; rw [List.length_map, List.length_range]; assumption
        · cases e
      · cases e
  · cases e
theorem rng_one {i j : Int} {xs : List D} (e : rngD i j 1 = some xs) : (-(2 ^ 62) ≤ i ∧ i < 2 ^ 62 ∧ -(2 ^ 62) ≤ j ∧ j < 2 ^ 62) ∧ xs = (List.range (j - i).toNat).map fun (k : Nat) => D.int (i + k) := by
  simp only [rngD] at e
  split at e
  · rename_i h
    simp only [if_true] at e
    split at e
    · exact ⟨h, (Option.some.inj e).symm⟩
    · cases e
  · cases e
theorem post_a1 {σ : L2.St} {ρ : Pl} {H : Hp} {h : Hh} {env : Env} {β : Type} {ea : ME} {f : D → Hh → Res β} {k : β → Pl → Hp → Hh → Prop} {k' : List D → Pl → Hp → Hh → Prop}
    (p : Post (gm X P hot) W σ ρ H ((sem call P x ea env h).bind f) k) (g : ∀ u ρ1 H1 h1, RH (gm X P hot) ρ1 H1 h1 → Post (gm X P hot) W σ ρ1 H1 (f u h1) k → k' [u] ρ1 H1 h1) :
    Post (gm X P hot) W σ ρ H (semA call P x (.cons ea .nil) env h) k' := by
  simp only [semA]
  cases e1 : sem call P x ea env h with
  | stuck => rw [e1] at p; exact p
  | exc ex h1 => rw [e1] at p; exact p
  | ok u h1 =>
    rw [e1] at p
    exact fun ρ1 H1 y rh1 => g u ρ1 H1 h1 rh1 (Post.later y p)
theorem post_a2 {σ : L2.St} {ρ : Pl} {H : Hp} {h : Hh} {env : Env} {β : Type} {ea eb : ME} {f : D → D → Hh → Res β} {k : β → Pl → Hp → Hh → Prop} {k' : List D → Pl → Hp → Hh → Prop}
    (p : Post (gm X P hot) W σ ρ H ((sem call P x ea env h).bind fun u h1 => (sem call P x eb env h1).bind fun v h2 => f u v h2) k) (g : ∀ u v ρ1 H1 h1, RH (gm X P hot) ρ1 H1 h1 → Post (gm X P hot) W σ ρ1 H1 (f u v h1) k → k' [u, v] ρ1 H1 h1) :
    Post (gm X P hot) W σ ρ H (semA call P x (.cons ea (.cons eb .nil)) env h) k' := by
  simp only [semA]
  cases e1 : sem call P x ea env h with
  | stuck => rw [e1] at p; exact p
  | exc ex h1 => rw [e1] at p; exact p
  | ok u h1 =>
    rw [e1] at p
    simp only [bind_ok] at p ⊢
    cases e2 : sem call P x eb env h1 with
    | stuck => rw [e2] at p; exact p
    | exc ex h1 => rw [e2] at p; exact p
    | ok v h2 =>
      rw [e2] at p
      exact fun ρ1 H1 y rh1 => g u v ρ1 H1 h2 rh1 (Post.later y p)
theorem post_a3 {σ : L2.St} {ρ : Pl} {H : Hp} {h : Hh} {env : Env} {β : Type} {ea eb ec : ME} {f : D → D → D → Hh → Res β} {k : β → Pl → Hp → Hh → Prop} {k' : List D → Pl → Hp → Hh → Prop}
    (p : Post (gm X P hot) W σ ρ H ((sem call P x ea env h).bind fun u h1 => (sem call P x eb env h1).bind fun v h2 => (sem call P x ec env h2).bind fun w h3 => f u v w h3) k) (g : ∀ u v w ρ1 H1 h1, RH (gm X P hot) ρ1 H1 h1 → Post (gm X P hot) W σ ρ1 H1 (f u v w h1) k → k' [u, v, w] ρ1 H1 h1) :
    Post (gm X P hot) W σ ρ H (semA call P x (.cons ea (.cons eb (.cons ec .nil))) env h) k' := by
  simp only [semA]
  cases e1 : sem call P x ea env h with
  | stuck => rw [e1] at p; exact p
  | exc ex h1 => rw [e1] at p; exact p
  | ok u h1 =>
    rw [e1] at p
    simp only [bind_ok] at p ⊢
    cases e2 : sem call P x eb env h1 with
    | stuck => rw [e2] at p; exact p
    | exc ex h1 => rw [e2] at p; exact p
    | ok v h2 =>
      rw [e2] at p
      simp only [bind_ok] at p ⊢
      cases e3 : sem call P x ec env h2 with
      | stuck => rw [e3] at p; exact p
      | exc ex h1 => rw [e3] at p; exact p
      | ok w h3 =>
        rw [e3] at p
        exact fun ρ1 H1 y rh1 => g u v w ρ1 H1 h3 rh1 (Post.later y p)
theorem i_rng1 {ea : ME} (hg : Gl X "range") (hm : X.mg "range" = none) (ha : PA X [a] (tMa (gm X P hot) W (semA call P x (.cons ea .nil)))) (hs : starEach [a] X.env = [(false, eval a X.env)]) :
    PI X tg (.Call (.Name "range" p) [a] [] pos) (tMi (gm X P hot) W (semI call P x (.rng1 ea))) := by
  refine (pi_range1 hg hm ha hs).imp fun σ H R ⟨ρ, env, h, rh, re, p⟩ => ⟨ρ, env, h, rh, re, ?_⟩
  rw [semI] at p
  refine post_a1 p fun u ρ1 H1 h1 rh1 p1 vs rv => ?_
  obtain ⟨v, rfl, r⟩ := reps1 rv
  cases u with
  | int i =>
    obtain ⟨dg, e2, p2⟩ := Post.of rh1 p1
    rw [Option.map_eq_some_iff] at e2
    obtain ⟨xs, e3, rfl⟩ := e2
    have sz := rng_sz e3
    obtain ⟨hb, rfl⟩ := rng_one e3
    simp only [Rep] at r
    subst r
    refine ⟨i, rfl, hb.2.2.1, hb.2.2.2, p2.ok rh1 _ ?_ sz⟩
    rw [Int.sub_zero]
    exact srv_rng
  | _ => exact False.elim p1
theorem i_rng2 {ea eb : ME} (hg : Gl X "range") (hm : X.mg "range" = none) (ha : PA X [a, b] (tMa (gm X P hot) W (semA call P x (.cons ea (.cons eb .nil))))) (hs : starEach [a, b] X.env = [(false, eval a X.env), (false, eval b X.env)]) (hs2 : starEach [b] X.env = [(false, eval b X.env)]) :
    PI X tg (.Call (.Name "range" p) [a, b] [] pos) (tMi (gm X P hot) W (semI call P x (.rng2 ea eb))) := by
  refine (pi_range2 hg hm ha hs hs2).imp fun σ H R ⟨ρ, env, h, rh, re, p⟩ => ⟨ρ, env, h, rh, re, ?_⟩
  rw [semI] at p
  refine post_a2 p fun u v ρ1 H1 h1 rh1 p1 vs rv => ?_
  obtain ⟨v1, v2, rfl, r1, r2⟩ := reps2 rv
  cases u with
  | int i =>
    cases v with
    | int j =>
      obtain ⟨dg, e2, p2⟩ := Post.of rh1 p1
      rw [Option.map_eq_some_iff] at e2
      obtain ⟨xs, e3, rfl⟩ := e2
      have sz := rng_sz e3
      obtain ⟨hb, rfl⟩ := rng_one e3
      simp only [Rep] at r1 r2
      subst r1 r2
      exact ⟨i, j, rfl, hb, p2.ok rh1 _ srv_rng sz⟩
    | _ => exact False.elim p1
  | _ => cases v <;> exact False.elim p1
theorem rng_down {i j k : Int} {xs : List D} (e : rngD i j k = some xs) : (-(2 ^ 62) ≤ i ∧ i < 2 ^ 62 ∧ -(2 ^ 62) ≤ j ∧ j < 2 ^ 62) ∧
    ((k = 1 ∧ xs = (List.range (j - i).toNat).map fun (k : Nat) => D.int (i + k)) ∨ (k = -1 ∧ xs = (List.range (i - j).toNat).map fun (k : Nat) => D.int (i - k))) := by
  simp only [rngD] at e
  split at e
  · rename_i h
    refine ⟨h, ?_⟩
    split at e
    · rename_i h1
      split at e
      · exact .inl ⟨h1, (Option.some.inj e).symm⟩
      · cases e
    · split at e
      · rename_i h1
        split at e
        · exact .inr ⟨h1, (Option.some.inj e).symm⟩
        · cases e
      · cases e
  · cases e
theorem rg_one {i j : Int} (h1 : -(2 ^ 62) ≤ i) (h2 : i < 2 ^ 62) (h3 : -(2 ^ 62) ≤ j) (h4 : j < 2 ^ 62) : RgC i j 1 (j - i).toNat :=
  ⟨by decide, by decide, small_one h1 h2 h3 h4, by rw [rangeSize_one]; split <;> omega⟩
theorem i_rng3 {ea eb ec : ME} (hg : Gl X "range") (hm : X.mg "range" = none) (ha : PA X [a, b, c] (tMa (gm X P hot) W (semA call P x (.cons ea (.cons eb (.cons ec .nil))))))
    (hs : starEach [a, b, c] X.env = (false, eval a X.env) :: starEach [b, c] X.env) (hpl : (backTo pos (starEach [b, c] X.env)).any (·.1) = false) :
    PI X tg (.Call (.Name "range" p) [a, b, c] [] pos) (tMi (gm X P hot) W (semI call P x (.rng3 ea eb ec))) := by
  refine (pi_range3 hg hm ha hs hpl).imp fun σ H R ⟨ρ, env, h, rh, re, p⟩ => ⟨ρ, env, h, rh, re, ?_⟩
  rw [semI] at p
  refine post_a3 p fun u v w ρ1 H1 h1 rh1 p1 vs rv => ?_
  obtain ⟨v1, q, rfl, r1, rv⟩ := rv.cons_of
  obtain ⟨v2, v3, rfl, r2, r3⟩ := reps2 rv
  cases u with
  | int i =>
    cases v with
    | int j =>
      cases w with
      | int k =>
        obtain ⟨dg, e2, p2⟩ := Post.of rh1 p1
        rw [Option.map_eq_some_iff] at e2
        obtain ⟨xs, e3, rfl⟩ := e2
        have sz := rng_sz e3
        simp only [Rep] at r1 r2 r3
        subst r1 r2 r3
        obtain ⟨hb, ⟨rfl, rfl⟩ | ⟨rfl, rfl⟩⟩ := rng_down e3
        · refine ⟨i, j, 1, _, rfl, rg_one hb.1 hb.2.1 hb.2.2.1 hb.2.2.2, p2.ok rh1 _ ?_ sz⟩
          have := srv_rngC (Γ := gm X P hot) (ρ := ρ1) (H := H1) (lo := i) (c := 1) (n := (j - i).toNat)
          simpa using this
        · refine ⟨i, j, -1, _, rfl, RgC.neg hb.1 hb.2.1 hb.2.2.1 hb.2.2.2, p2.ok rh1 _ ?_ sz⟩
          have := srv_rngC (Γ := gm X P hot) (ρ := ρ1) (H := H1) (lo := i) (c := -1) (n := (i - j).toNat)
          simpa [Int.sub_eq_add_neg] using this
      | _ => exact False.elim p1
    | _ => cases w <;> exact False.elim p1
  | _ => cases v <;> cases w <;> exact False.elim p1
theorem i_zip {ea eb : ME} {elts : List Expr} {kk : Nat} (hg : Gl X "zip") (hm : X.mg "zip" = none) (ha : PA X [a, b] (tMa (gm X P hot) W (semA call P x (.cons ea (.cons eb .nil)))))
    (hs : starEach [a, b] X.env = (false, eval a X.env) :: starEach [b] X.env) (hpl : (backTo pos (starEach [b] X.env)).any (·.1) = false) :
    PI X (.Tuple elts kk tpos) (.Call (.Name "zip" p) [a, b] [] pos) (tMi (gm X P hot) W (semI call P x (.zip ea eb))) := by
  refine (RZ.pi_zipA hg hm (pa_szd ha) hs hpl).imp fun σ H R ⟨ρ, env, h, rh, re, p⟩ => ⟨ρ, env, h, rh, re, ?_⟩
  rw [semI] at p
  refine post_a2 p fun u w ρ1 H1 h1 rh1 p1 vs rv sz => ?_
  obtain ⟨v1, v2, rfl, r1, r2⟩ := reps2 rv
  obtain ⟨dg, e2, p2⟩ := Post.of rh1 p1
  split at e2
  · rename_i xs ys ex ey
    split at e2
    · rename_i hk
      cases e2
      obtain ⟨a, vs, rfl, q, rs⟩ := seq_at (Γ := gm X P hot) rh1 r1 ex
      obtain ⟨b, vs', rfl, q', rs'⟩ := seq_at (Γ := gm X P hot) rh1 r2 ey
      refine ⟨a, b, vs, vs', rfl, ?_⟩
      rcases q with ⟨q, nt⟩ | ⟨q, hu⟩
      · rcases q' with ⟨q', nt'⟩ | ⟨q', hw⟩
        · exact .inl ⟨q, q', p2.ok rh1 _ (srv_zip rh1 r1 ex nt r2 ey nt') (by have := sz _ List.mem_cons_self a vs rfl (.inl q); rw [rs.length] at this; unfold zipD; rw [List.length_zipWith]; omega)⟩
        · subst hw
          cases u <;> first | exact absurd rfl (nt _) | (simp [alikeD] at hk)
      · subst hu
        rcases q' with ⟨q', nt'⟩ | ⟨q', hw⟩
        · cases w <;> first | exact absurd rfl (nt' _) | (simp [alikeD] at hk)
        · subst hw
          exact .inr ⟨q, q', p2.ok rh1 _ (srv_zipT rh1 r1 r2) (by have := sz _ List.mem_cons_self a vs rfl (.inr q); rw [rs.length] at this; unfold zipD; rw [List.length_zipWith]; omega)⟩
    · cases e2
  · cases e2
end
end Mi
end
section
set_option Elab.async false
set_option linter.all false
set_option maxRecDepth 100000
namespace Mi
open PySem PySem.Spec PyProof.Rows L2

set_option maxHeartbeats 1000000 in
theorem meets_enumT (a : Addr) (items : Array Value) :
    Meets (Builtin.«enumerate.__new__» ⟨[.type "enumerate", .ref a], []⟩) (fun _ R s => s.heap.IsTuple a items ∧
      R (.ok (.ret (.ref (s.heap.push { cls := .type "tuple_iterator", data := .fields #[.ref a, .int 0 0] }).objs.size)))
        { s with heap := (s.heap.push { cls := .type "tuple_iterator", data := .fields #[.ref a, .int 0 0] }).push { cls := .type "enumerate", data := .fields #[.none, .bool false, .ref s.heap.objs.size, rawInt 0, .none, .none] } }) :=
  .of_wp fun prog w A R s h => by
    obtain ⟨hp, g, d, tk, os⟩ := s
    obtain ⟨ht, h⟩ := h
    have hsub := sub_enumerate
    have it : ∀ {A' : Around} {E : Value → Shared → Prop} {Q : Value → Shared → Prop}, Q (.ref hp.objs.size) ⟨hp.push { cls := .type "tuple_iterator", data := .fields #[.ref a, .int 0 0] }, g, d, tk, os⟩ → wpAny (model prog w) A' (pyIter (.ref a)) Q E ⟨hp, g, d, tk, os⟩ := fun q =>
      wpAny_pyIter_tuple (s := ⟨hp, g, d, tk, os⟩) ht q
    wp_walk using it
    refine wpAny_stack_any fun st => wpAny_pure ?_
    split
    · rename_i c _ _ _ _ _
      cases (c == Value.type "enumerate") <;> (wp_walk using it; exact ⟨_, rfl, h⟩)
    · wp_walk using it
      exact ⟨_, rfl, h⟩
theorem call_enumT {prog : Program} {w : World} {A : Around} {E : Value → Shared → Prop} {s : Shared} {a : Addr} {items : Array Value} {Q : Value → Shared → Prop} (ht : s.heap.IsTuple a items)
    (q : ∀ h', IsEnum h' (s.heap.objs.size + 1) s.heap.objs.size 0 .none → h'.IsTupleIter s.heap.objs.size a 0 → (∀ b o, s.heap.get? b = some o → h'.get? b = some o) → Q (.ref (s.heap.objs.size + 1)) { s with heap := h' }) :
    wpAny (model prog w) A (call (.type "enumerate") [.ref a]) Q E s := by
  refine callType_new F.called_enumerate (by decide) (F.typeCall_enumerate_1 _) (F.newCall_enumerate_1 _) (fun obj => F.args_object_init_2 obj _) F.entry_enumerate_new (meets_enumT a items) ⟨ht, ?_⟩
  have sz : (s.heap.push { cls := .type "tuple_iterator", data := .fields #[.ref a, .int 0 0] }).objs.size = s.heap.objs.size + 1 := Heap.size_push ..
  have at1 := Heap.get?_push_size (s.heap.push { cls := .type "tuple_iterator", data := .fields #[.ref a, .int 0 0] }) (o := { cls := .type "enumerate", data := .fields #[.none, .bool false, .ref s.heap.objs.size, rawInt 0, .none, .none] }) rfl
  rw [sz] at at1
  show _ ∧ _
  rw [sz]
  exact ⟨⟨_, at1, rfl⟩, q _ at1 ⟨_, Heap.get?_push_of_some _ (Heap.get?_push_size _ rfl), rfl, rfl⟩ fun b o e => Heap.get?_push_of_some _ (Heap.get?_push_of_some _ e)⟩
/-- the tuple at a, its items with their places -/
def IteT (K : PySem.W.Frag) (a : Addr) : It where
  go i H := ∃ (xs : List V) (z : V), SqT K H a xs ∧ xs[i]? = some z
  yld i H v H' := ∃ T z, v = .ref T ∧ H T = none ∧ H' = upd H T (.tup [.int (i : Nat), z]) ∧ ∀ xs, SqT K H a xs → xs[i]? = some z
  stop i H := ∃ xs : List V, SqT K H a xs ∧ xs.length = i
theorem turn_enumT {prog : Program} {w : World} {K : PySem.W.Frag} {elts : List Expr} {kk : Nat} {tp : Pos} (a e it : Addr) :
    Turn prog w K (.Tuple elts kk tp) (IteT K a) [e, it] e fun i h => (∃ old, IsEnum h e it ((i : Nat) : Int) old) ∧ h.IsTupleIter it a i ∧ e ≠ it where
  mem := List.mem_cons_self
  obj := by
    rintro i h ⟨⟨old, he⟩, ⟨o, ho, hc, hd⟩, _⟩ b hb
    rcases List.mem_cons.mp hb with rfl | hb
    · exact ⟨_, he, fun v z => nomatch z⟩
    · obtain rfl := List.mem_singleton.mp hb
      exact ⟨o, ho, fun v z => by rw [hd] at z; cases z⟩
  keep := by
    rintro i h h' ⟨⟨old, he⟩, hi, hne⟩ k
    exact ⟨⟨old, k e List.mem_cons_self _ he⟩, hi.at fun o z => k it (by simp) o z, hne⟩
  item := by
    rintro X rfl rfl rfl hcalm i pins s σ H E I hf ⟨⟨old, he⟩, hit, hne⟩ ⟨xs, z, hq, hz⟩
    obtain ⟨its, rv, tup, _⟩ := I.tuple hq
    obtain ⟨u, hu, ru⟩ := rv.get hz
    have eb : e < s.heap.objs.size := Heap.lt_size he
    have ib : it < s.heap.objs.size := by obtain ⟨_, z1, _⟩ := hit; exact Heap.lt_size z1
    have at_ : a ≠ it := by
      rintro rfl
      obtain ⟨o1, e1, c1, _⟩ := hit
      obtain ⟨o2, e2, c2, _⟩ := (show s.heap.IsTuple a its.toArray from tup)
      rw [e1] at e2
      cases e2
      rw [c1] at c2
      simp at c2
    have ae : e ∉ [it, a] := by
      intro m
      rcases List.mem_cons.mp m with m | m
      · exact hne m
      · obtain rfl := List.mem_singleton.mp m
        obtain ⟨o2, e2, c2, _⟩ := (show s.heap.IsTuple e its.toArray from tup)
        rw [show s.heap.get? e = _ from he] at e2
        cases e2
        simp at c2
    refine wpAny_pyNext_enum_itemD (Draws.tuple (A := X.A.in1) (I.ok.hd hcalm) it a at_ its.toArray) he ⟨hit, tup⟩ (by simpa using (List.getElem?_eq_some_iff.mp hu).1) hne ae fun y h' tk hy out st hT _ hk => ?_
    have ey : y = u := by
      rw [show its.toArray[i]? = some u by simpa using hu] at hy
      cases hy
      rfl
    subst ey
    refine ⟨_, rfl, wpAny_letOwnedTupleGo_enum (s := { s with heap := h', toks := tk + 1 }) out fun h'' he' sb => ?_⟩
    have hT2 : h''.get? s.heap.objs.size = some { cls := .type "tuple", data := .seq #[.int i tk, y] } := (sb.2 _ (Nat.ne_of_gt eb)).trans hT
    have new : ObjOk X.prog X.w (upd H s.heap.objs.size (.tup [.int (i : Nat), z])) h'' s.heap.objs.size (.tup [.int (i : Nat), z]) := ⟨by show 2 ≤ sizeLine; decide, [.int i tk, y], .cons ⟨_, rfl⟩ (.cons ru .nil), ⟨_, hT2, rfl, _, rfl⟩⟩
    have I1 : Inv X pins σ (upd H s.heap.objs.size (.tup [.int (i : Nat), z])) { s with heap := h'', toks := tk + 1 } :=
      I.turnedNew (ch := [e, it]) (fun b o hb q => (sb.2 b fun z => hb (by simp [z])).trans (hk b o (fun z => hb (by simp [z])) (fun z => hb (by simp [z])) q)) hf (Nat.le_refl _) new
    refine ⟨.ref s.heap.objs.size, _, I1, rfl, ⟨_, z, rfl, I.hok.fresh (Nat.le_refl _), rfl, fun ys hy => by rw [I.tuple_inj hy hq]; exact hz⟩, ⟨⟨y, ?_⟩, st.1.at fun o q => (sb.2 it (Ne.symm hne)).trans q, hne⟩, fun b hb => ?_⟩
    · rw [show ((i + 1 : Nat) : Int) = (i : Int) + 1 by omega]
      exact he'
    · have lt : b < s.heap.objs.size := by
        rcases List.mem_cons.mp hb with rfl | hb
        · exact eb
        · obtain rfl := List.mem_singleton.mp hb
          exact ib
      rw [upd_ne (Nat.ne_of_lt lt)]
      exact (hf b hb).1
  done := by
    rintro X rfl rfl rfl hcalm i pins s σ H E I hf ⟨⟨old, he⟩, hit, hne⟩ ⟨xs, hq, hi⟩
    obtain ⟨its, rv, tup, _⟩ := I.tuple hq
    obtain ⟨f0, f1, f2, f3, f4, f5⟩ := hf it (by simp)
    have at_ : a ≠ it := by
      rintro rfl
      obtain ⟨o1, e1, c1, _⟩ := hit
      obtain ⟨o2, e2, c2, _⟩ := (show s.heap.IsTuple a its.toArray from tup)
      rw [e1] at e2
      cases e2
      rw [c1] at c2
      simp at c2
    have sz : its.toArray.size = i := by rw [← hi, rv.length]; simp
    exact wpAny_pyNext_enum_endD (i := (i : Int)) (Draws.tuple (A := X.A.in1) (I.ok.hd hcalm) it a at_ its.toArray) he ⟨by rw [sz]; exact hit, tup⟩ fun h' eb => ⟨rfl, I.turned (t' := s.toks) (fun b o hb q => eb b o hb q) f0 f1 f3 f4 f5⟩
  self := by
    rintro A i s Q E ⟨⟨_, he⟩, _⟩ h
    exact wpAny_pyIter_enum he h
section
variable {X : Cx} {P : Prog} {hot : Option Hot} {W : WX} {call : Nat → List D → Hh → Res D} {x : Option Ex}
variable {e a b c tg : Expr} {pos p tpos : Pos}
theorem pi_enumT {ta : TA} {elts : List Expr} {kk : Nat} (hg : Gl X "enumerate") (hm : X.mg "enumerate" = none) (ha : PA X [e] ta) (hs : starEach [e] X.env = [(false, eval e X.env)]) :
    PI X (.Tuple elts kk tpos) (.Call (.Name "enumerate" p) [e] [] pos) fun σ H R => ta σ H fun vs H1 => ∃ a xs, vs = [.ref a] ∧ SqT X.K H1 a xs ∧ R (IteT X.K a) H1 := by
  refine ⟨fun pins s σ H R I h => Call_ (ld_blt I hg hm boot_enumerate (PyProof.Rows.callWith_type1 (thn (ha.run pos pins s σ H _ I h) ?_) hs rfl))⟩
  rintro us s1 ⟨vs, H1, I1, r1, a, xs, rfl, hq, q⟩
  obtain ⟨u, rfl, ru⟩ := vals1 r1
  obtain rfl : u = Value.ref a := ru
  obtain ⟨its, rv, tup, _⟩ := I1.tuple hq
  refine call_enumT tup fun h' he hit hk => wpAny_pyIter_enum he ?_
  have up : ∀ c ∈ [s1.heap.objs.size + 1, s1.heap.objs.size], s1.heap.objs.size ≤ c := by
    intro c hc
    rcases List.mem_cons.mp hc with rfl | hc
    · exact Nat.le_succ _
    · exact Nat.le_of_eq (List.mem_singleton.mp hc).symm
  exact ⟨_, [s1.heap.objs.size + 1, s1.heap.objs.size], _, _, H1, rfl, I1.kept (t' := s1.toks) hk, turn_enumT a _ _, ⟨⟨.none, he⟩, hit, Nat.succ_ne_self _⟩, fun c hc => I1.fpOk (up c hc) (I1.hok.fresh (up c hc)), q⟩
theorem srv_enumT {Γ : Gam} {ρ : Pl} {H : Hp} {h : Hh} (rh : RH Γ ρ H h) {a : Addr} {xs : List D} (r : Rep Γ.K ρ H (.tup xs) (.ref a)) : Srv Γ (IteT Γ.K a) ρ H [] (enumD xs) := by
  have key : ∀ ρ' H' h', Wk ρ H ρ' H' → RH Γ ρ' H' h' → ∃ vs, SqT Γ.K H' a vs ∧ Reps Γ.K ρ' H' xs vs := fun ρ' H' h' y rh' => by
    obtain ⟨vs, q, rs⟩ := seq_later (u := .tup xs) rh r rfl y rh' (by simp [guardD])
    rcases q with ⟨_, q⟩ | ⟨q, _⟩
    · exact absurd rfl (q _)
    · exact ⟨vs, q, rs⟩
  refine ⟨fun ρ' H' h' y rh' g i d ed => ?_, fun ρ' H' h' y rh' g i hi => ?_⟩
  · obtain ⟨w, ed', rfl⟩ := enum_get ed
    obtain ⟨vs, q, rs⟩ := key ρ' H' h' y rh'
    obtain ⟨v, ev, rv⟩ := rs.get ed'
    refine ⟨⟨vs, v, q, ev⟩, fun z H'' ⟨T, z', e1, e2, e3, e4⟩ => ?_⟩
    subst e1 e3
    have := e4 vs q
    rw [ev] at this
    cases this
    exact pair_made rh' e2 rep_int rv
  · obtain ⟨vs, q, rs⟩ := key ρ' H' h' y rh'
    exact ⟨vs, q, by rw [rs.length, hi, enum_len]⟩
theorem i_enum {ee : ME} {elts : List Expr} {kk : Nat} (hg : Gl X "enumerate") (hm : X.mg "enumerate" = none) (he : PE X e (tM (gm X P hot) W (sem call P x ee))) (hs : starEach [e] X.env = [(false, eval e X.env)]) :
    PI X (.Tuple elts kk tpos) (.Call (.Name "enumerate" p) [e] [] pos) (tMi (gm X P hot) W (semI call P x (.enum ee))) := by
  have ha : PA X [e] (tMa (gm X P hot) W (semA call P x (.cons ee .nil))) := a_cons he a_nil (by rw [hs]; rfl)
  refine ⟨fun pins s σ H R I ⟨ρ, env, h, rh, re, p⟩ => ?_⟩
  rw [semI] at p
  by_cases ht : ∃ ds h1, sem call P x ee env h = .ok (.tup ds) h1
  · obtain ⟨ds, h1, e1⟩ := ht
    refine (pi_enumT hg hm (pa_szd ha) hs).run pins s σ H R I ⟨ρ, env, h, rh, re, ?_⟩
    simp only [semA]
    rw [e1] at p ⊢
    intro ρ1 H1 y rh1 vs rv sz
    obtain ⟨v, rfl, r⟩ := reps1 rv
    simp only [bind_ok, seqD, Option.map_some, of_some] at p
    have q := Post.ok rh1 (Post.later y p)
    have r' := r
    simp only [Rep] at r'
    obtain ⟨a, vs, rfl, t, rs⟩ := r'
    exact ⟨a, vs, rfl, t.sq, q _ (srv_enumT rh1 r) (by rw [enum_len, ← rs.length]; exact sz _ List.mem_cons_self a vs rfl (.inr t.sq))⟩
  · refine (pi_enum hg hm (pa_szd ha) hs).run pins s σ H R I ⟨ρ, env, h, rh, re, ?_⟩
    simp only [semA]
    cases e1 : sem call P x ee env h with
    | stuck => rw [e1] at p; exact p
    | exc ex h1 => rw [e1] at p; exact p
    | ok u h1 =>
      rw [e1] at p ht
      have nt : ∀ ds, u ≠ .tup ds := fun ds z => ht ⟨ds, h1, by rw [z]⟩
      intro ρ1 H1 y rh1 vs rv sz
      obtain ⟨v, rfl, r⟩ := reps1 rv
      obtain ⟨dg, e2, p2⟩ := Post.of rh1 (Post.later y p)
      obtain ⟨xs, e3, rfl⟩ := Option.map_eq_some_iff.mp e2
      obtain ⟨a, vs, rfl, q, rs⟩ := seq_at (Γ := gm X P hot) rh1 r e3
      rcases q with ⟨q, _⟩ | ⟨_, q⟩
      · exact ⟨a, vs, rfl, q, p2.ok rh1 _ (srv_enum rh1 r e3 nt) (by rw [enum_len, ← rs.length]; exact sz _ List.mem_cons_self a vs rfl (.inl q))⟩
      · exact absurd q (nt _)
end
end Mi
end
section
set_option Elab.async false
set_option linter.all false
set_option maxRecDepth 100000
namespace Mi
open PySem PySem.Spec PyProof.Rows L2

section
variable {X : Cx} {P : Prog} {hot : Option Hot} {W : WX} {call : Nat → List D → Hh → Res D} {x : Option Ex}
variable {e a b c tg o : Expr} {pos p tpos pos' : Pos} {y : Str}
theorem wipe_set {σ : L2.St} {i : Nat} {z : Option V} : ∀ {vs : List Nat}, i ∈ vs → L2.wipe (σ.set i z) vs = L2.wipe σ vs
  | v :: vs, h => by
    by_cases hv : i ∈ vs
    · unfold L2.wipe; rw [wipe_set hv]
    · have e : i = v := by
        rcases List.mem_cons.mp h with h | h
        · exact h
        · exact absurd h hv
      subst e
      unfold L2.wipe
      have : ∀ {vs : List Nat}, i ∉ vs → L2.wipe (σ.set i z) vs = (L2.wipe σ vs).set i z := fun {vs} => by
        induction vs with
        | nil => intro _; rfl
        | cons w vs ih =>
          intro hn
          unfold L2.wipe
          rw [ih fun m => hn (List.mem_cons_of_mem _ m), List.set_comm _ _ (fun e => hn (by rw [e]; exact List.mem_cons_self))]
      rw [this hv, List.set_set]
theorem wipe_wipe {σ : L2.St} {us : List Nat} : ∀ {vs : List Nat}, (∀ i ∈ us, i ∈ vs) → L2.wipe (L2.wipe σ us) vs = L2.wipe σ vs := by
  intro vs
  induction us with
  | nil => intro _; rfl
  | cons u us ih =>
    intro h
    show L2.wipe ((L2.wipe σ us).set u none) vs = _
    rw [wipe_set (h u List.mem_cons_self)]
    exact ih fun i hi => h i (List.mem_cons_of_mem _ hi)
/-- a store: what t's names become -/
def gM (Γ : Gam) (t : MT) : TG := fun v σ H Q => ∃ ρ env h d env1, RH Γ ρ H h ∧ RE Γ ρ H env σ ∧ Rep Γ.K ρ H d v ∧ setT t d env = some env1 ∧ ∀ σ1, RE Γ ρ H env1 σ1 → (∀ vs, (∀ i ∈ t.slots, i ∈ vs) → L2.wipe σ1 vs = L2.wipe σ vs) → Q σ1 H
theorem _root_.L2.PG.imp {X : Cx} {e : Expr} {t t' : TG} (h : PG X e t) (i : ∀ v σ H Q, t' v σ H Q → t v σ H Q) : PG X e t' := ⟨fun pins s σ H v u Q I r q => h.run pins s σ H v u Q I r (i v σ H Q q)⟩
/-- y is the slot i, to be written -/
structure Own (X : Cx) (i : Nat) (y : Str) : Prop where
  at_ : X.N[i]? = some y
  loc : Loc X.env.scope y
  way : X.fn y = true ∨ X.env.scope.names.lookup y = some .local
def Cold (hot : Option Hot) (i : Nat) : Prop := ∀ t, hot = some t → t.i ≠ i
theorem g_nm {i : Nat} (hN : X.N.Nodup) (hi : Own X i y) (hc : Cold hot i) : PG X (.Name y pos) (gM (gm X P hot) (.nm i)) := by
  refine (pg_name hN hi.at_ hi.loc hi.way).imp fun v σ H Q ⟨ρ, env, h, d, env1, rh, re, rv, e, k⟩ => ?_
  cases e
  exact k _ (re.set rv hc) fun vs hv => wipe_set (hv i (by simp [MT.slots]))
/-- several names -/
def gsM (Γ : Gam) (is : List Nat) : TGs := fun vs σ H Q => ∃ ρ env h ds, RH Γ ρ H h ∧ RE Γ ρ H env σ ∧ Reps Γ.K ρ H ds vs ∧ ds.length = is.length ∧ ∀ σ1, RE Γ ρ H ((is.zip ds).foldl (fun e p => e.set p.1 (some p.2)) env) σ1 → (∀ vs, (∀ i ∈ is, i ∈ vs) → L2.wipe σ1 vs = L2.wipe σ vs) → Q σ1 H
theorem _root_.L2.PGs.imp {X : Cx} {e : List Expr} {t t' : TGs} (h : PGs X e t) (i : ∀ v σ H Q, t' v σ H Q → t v σ H Q) : PGs X e t' := ⟨fun pins s σ H v u Q I r q => h.run pins s σ H v u Q I r (i v σ H Q q)⟩
theorem gs_nil : PGs X [] (gsM (gm X P hot) []) := by
  refine pgs_nil.imp fun vs σ H Q ⟨ρ, env, h, ds, rh, re, rs, hl, k⟩ => ?_
  have : ds = [] := List.length_eq_zero_iff.mp hl
  subst this
  exact ⟨rs.nil_of, k σ re fun _ _ => rfl⟩
theorem gs_cons {i : Nat} {is : List Nat} {es : List Expr} (hN : X.N.Nodup) (hi : Own X i y) (hc : Cold hot i) (h2 : PGs X es (gsM (gm X P hot) is))
    (hs : (assignEach (.Name y pos :: es) X.env).map (·.2) = assign (.Name y pos) X.env :: (assignEach es X.env).map (·.2)) : PGs X (.Name y pos :: es) (gsM (gm X P hot) (i :: is)) := by
  refine (pgs_cons (pg_name hN hi.at_ hi.loc hi.way) h2 hs).imp fun vs σ H Q ⟨ρ, env, h, ds, rh, re, rs, hl, k⟩ => ?_
  cases ds with
  | nil => cases hl
  | cons d ds =>
    obtain ⟨v, r, rfl, r1, r2⟩ := rs.cons_of
    exact ⟨v, r, rfl, ρ, _, h, ds, rh, re.set r1 hc, r2, by simpa using hl, fun σ1 re1 w => k σ1 re1 fun vs hv => (w vs fun j hj => hv j (List.mem_cons_of_mem _ hj)).trans (wipe_set (hv i List.mem_cons_self))⟩
theorem g_tp {is : List Nat} {es : List Expr} {k : Nat} (hc : X.calm = true) (h : PGs X es (gsM (gm X P hot) is)) (hn : (assignEach es X.env).length = is.length) (hst : (assignEach es X.env).findIdx? (·.1) = none) :
    PG X (.Tuple es k pos) (gM (gm X P hot) (.tp is)) := by
  refine (pg_tup hc h hn hst).imp fun v σ H Q ⟨ρ, env, h, d, env1, rh, re, rv, e, k⟩ => ?_
  cases d with
  | tup ds =>
    simp only [setT] at e
    split at e
    · rename_i hl
      cases e
      simp only [Rep] at rv
      obtain ⟨a, vs, rfl, t, rs⟩ := rv
      exact ⟨a, vs, rfl, t.sq, by rw [rs.length, hl], ρ, env, h, ds, rh, re, rs, hl, k⟩
    · cases e
  | _ => cases e

/-! ### statements -/
theorem set_go {ee : ME} {i : Nat} (hc : Cold hot i) : ∀ D σ H, tMs (gm X P hot) W (ssem call P (.set (.nm i) ee) x) D σ H → tM (gm X P hot) W (sem call P x ee) σ H fun v H1 => gName i v σ H1 D.nx := by
  intro D σ H ⟨ρ, env, h, rh, re, p⟩
  rw [ssem] at p
  exact ⟨ρ, env, h, rh, re, p.then re fun d h1 ρ1 H1 x1 rh1 p1 v rv => p1 _ ρ1 H1 .refl rh1 ((re.mono x1).set rv hc)⟩
theorem s_set {ee : ME} {i : Nat} (hN : X.N.Nodup) (hi : Own X i y) (hc : Cold hot i) (he : PE X e (tM (gm X P hot) W (sem call P x ee))) (hs : swapsWith e (some (.Name y pos')) pos.line X.env = pure false) :
    PS X (.Assign [.Name y pos'] e pos) (tMs (gm X P hot) W (ssem call P (.set (.nm i) ee) x)) := (ps_set hN hi.at_ hi.loc he hs hi.way).imp (set_go hc)
theorem s_asg {t : MT} {ee : ME} (he : PE X e (tM (gm X P hot) W (sem call P x ee))) (hg : PG X tg (gM (gm X P hot) t)) (hs : swapsWithSole [tg] e pos.line X.env = pure false) (hw : swappedStores [tg] e X.env = pure none)
    (h1 : (assignEach [tg] X.env).map (·.2) = [assign tg X.env]) : PS X (.Assign [tg] e pos) (tMs (gm X P hot) W (ssem call P (.set t ee) x)) := by
  refine (ps_asg he hg hs hw h1).imp fun D σ H ⟨ρ, env, h, rh, re, p⟩ => ?_
  rw [ssem] at p
  refine ⟨ρ, env, h, rh, re, p.then re fun d h1 ρ1 H1 x1 rh1 p1 v rv => ?_⟩
  split at p1
  · rename_i env1 he1
    exact ⟨ρ1, env, h1, d, env1, rh1, re.mono x1, rv, he1, fun σ1 re1 _ => p1 σ1 ρ1 H1 .refl rh1 re1⟩
  · exact False.elim p1
/-- a, b = .., .. -/
theorem s_par {ea eb : ME} {i j : Nat} {y' : Str} {px py pt pt2 : Pos} {kt k2 : Nat} (hcm : X.calm = true) (hN : X.N.Nodup) (hi : X.N[i]? = some y) (hj : X.N[j]? = some y') (hij : i ≠ j) (ci : Cold hot i) (cj : Cold hot j)
    (hx : X.env.scope.names.lookup y = some .local) (hy : X.env.scope.names.lookup y' = some .local) (ha : PA X [a, b] (tMa (gm X P hot) W (semA call P x (.cons ea (.cons eb .nil)))))
    (hw : swappedStores [.Tuple [.Name y px, .Name y' py] kt pt] (.Tuple [a, b] k2 pt2) X.env = pure (some [y, y']))
    (hs : swapsWithSole [.Tuple [.Name y px, .Name y' py] kt pt] (.Tuple [a, b] k2 pt2) pos.line X.env = pure false) :
    PS X (.Assign [.Tuple [.Name y px, .Name y' py] kt pt] (.Tuple [a, b] k2 pt2) pos) (tMs (gm X P hot) W (ssem call P (.set (.tp [i, j]) (.tup (.cons ea (.cons eb .nil)))) x)) := by
  refine (ps_par hcm hN hi hj hij hx hy ha hw hs).imp fun D σ H ⟨ρ, env, h, rh, re, p⟩ => ?_
  rw [ssem, sem] at p
  refine ⟨ρ, env, h, rh, re, (SPost.then re p fun d h1 ρ1 H1 x1 rh1 p1 => p1 : Post _ _ _ _ _ _ fun d ρ1 H1 h1 => SPost _ _ _ ρ1 H1 _).bind fun ds h1 ρ1 H1 x1 rh1 p1 vs rv => ?_⟩
  have hl := rv.length
  have p2 := p1.ok rh1
  simp only [setT] at p2
  split at p2
  · rename_i env1 he1
    split at he1
    · rename_i hlen
      match ds, hlen with
      | [d1, d2], _ =>
        obtain ⟨v, w, rfl, r1, r2⟩ := reps2 rv
        cases he1
        exact ⟨v, w, rfl, p2 _ ρ1 H1 .refl rh1 (((re.mono x1).set r1 ci).set r2 cj)⟩
    · cases he1
  · exact False.elim p2
/-- a, b, c = .., .., .. -/
theorem s_par3 {c : Expr} {ea eb ec : ME} {i j l : Nat} {y' z' : Str} {px py pz pt pt2 : Pos} {kt k2 : Nat} (hcm : X.calm = true) (hN : X.N.Nodup) (hi : X.N[i]? = some y) (hj : X.N[j]? = some y') (hl : X.N[l]? = some z') (hij : i ≠ j) (hil : i ≠ l) (hjl : j ≠ l) (ci : Cold hot i) (cj : Cold hot j) (cl : Cold hot l)
    (hx : X.env.scope.names.lookup y = some .local) (hy : X.env.scope.names.lookup y' = some .local) (hz : X.env.scope.names.lookup z' = some .local) (ha : PA X [a, b, c] (tMa (gm X P hot) W (semA call P x (.cons ea (.cons eb (.cons ec .nil))))))
    (hw : swappedStores [.Tuple [.Name y px, .Name y' py, .Name z' pz] kt pt] (.Tuple [a, b, c] k2 pt2) X.env = pure (some [y, y', z']))
    (hs : swapsWithSole [.Tuple [.Name y px, .Name y' py, .Name z' pz] kt pt] (.Tuple [a, b, c] k2 pt2) pos.line X.env = pure false) :
    PS X (.Assign [.Tuple [.Name y px, .Name y' py, .Name z' pz] kt pt] (.Tuple [a, b, c] k2 pt2) pos) (tMs (gm X P hot) W (ssem call P (.set (.tp [i, j, l]) (.tup (.cons ea (.cons eb (.cons ec .nil))))) x)) := by
  refine (ps_par3 hcm hN hi hj hl hij hil hjl hx hy hz ha hw hs).imp fun D σ H ⟨ρ, env, h, rh, re, p⟩ => ?_
  rw [ssem, sem] at p
  refine ⟨ρ, env, h, rh, re, (SPost.then re p fun d h1 ρ1 H1 x1 rh1 p1 => p1 : Post _ _ _ _ _ _ fun d ρ1 H1 h1 => SPost _ _ _ ρ1 H1 _).bind fun ds h1 ρ1 H1 x1 rh1 p1 vs rv => ?_⟩
  have hl := rv.length
  have p2 := p1.ok rh1
  simp only [setT] at p2
  split at p2
  · rename_i env1 he1
    split at he1
    · rename_i hlen
      match ds, hlen with
      | [d1, d2, d3], _ =>
        obtain ⟨v, q, rfl, r1, rq⟩ := rv.cons_of
        obtain ⟨w, z, rfl, r2, r3⟩ := reps2 rq
        cases he1
        exact ⟨v, w, z, rfl, p2 _ ρ1 H1 .refl rh1 ((((re.mono x1).set r1 ci).set r2 cj).set r3 cl)⟩
    · cases he1
  · exact False.elim p2
/-! .. on places -/
def rSetM (X : Cx) (P : Prog) (hot : Option Hot) : TSet := fun o i v H Q => ∃ ρ h u k d h', RH (gm X P hot) ρ H h ∧ Rep X.K ρ H u o ∧ Rep X.K ρ H k i ∧ Rep X.K ρ H d v ∧ setD h u k d = some h' ∧ ∀ ρ' H', Ext ρ H ρ' H' → RH (gm X P hot) ρ' H' h' → Q H'
theorem rkv_any {κ : Type} [DecidableEq κ] {K : PySem.W.Frag} {ρ : Pl} {H : Hp} (k : κ) {kvs : List (κ × D)} {vs : List (κ × V)} (r : RKV K ρ H kvs vs) : (kvs.any fun kv => decide (kv.1 = k)) = (vs.any fun kv => decide (kv.1 = k)) := by
  induction r with
  | nil => rfl
  | @cons p q l l' h t ih => rw [List.any_cons, List.any_cons, ih, h.1]
theorem rkv_over {κ : Type} [DecidableEq κ] {K : PySem.W.Frag} {ρ : Pl} {H : Hp} {d : D} {v : V} (k : κ) (rv : Rep K ρ H d v) {kvs : List (κ × D)} {vs : List (κ × V)} (r : RKV K ρ H kvs vs) :
    RKV K ρ H (kvs.map fun kv => if kv.1 = k then (kv.1, d) else kv) (vs.map fun kv => if kv.1 = k then (kv.1, v) else kv) := by
  induction r with
  | nil => exact .nil
  | @cons p q l l' h t ih =>
    refine .cons ?_ ih
    obtain ⟨p1, p2⟩ := p
    obtain ⟨q1, q2⟩ := q
    have h1 : p1 = q1 := h.1
    subst h1
    show (if p1 = k then (p1, d) else (p1, p2)).1 = (if p1 = k then (p1, v) else (p1, q2)).1 ∧ Rep K ρ H (if p1 = k then (p1, d) else (p1, p2)).2 (if p1 = k then (p1, v) else (p1, q2)).2
    split
    · exact ⟨rfl, rv⟩
    · exact h
theorem rkv_append {κ : Type} {K : PySem.W.Frag} {ρ : Pl} {H : Hp} {kvs kvs' : List (κ × D)} {vs vs' : List (κ × V)} (r : RKV K ρ H kvs vs) (r' : RKV K ρ H kvs' vs') : RKV K ρ H (kvs ++ kvs') (vs ++ vs') := by
  induction r with
  | nil => exact r'
  | cons h t ih => exact .cons h ih
theorem rkv_put {κ : Type} [DecidableEq κ] {K : PySem.W.Frag} {ρ : Pl} {H : Hp} {d : D} {v : V} (k : κ) (rv : Rep K ρ H d v) {kvs : List (κ × D)} {vs : List (κ × V)} (r : RKV K ρ H kvs vs) : RKV K ρ H (Mi.putK kvs k d) (L2.putK vs k v) := by
  unfold Mi.putK L2.putK
  rw [rkv_any k r]
  split
  · exact rkv_over k rv r
  · exact rkv_append r (.cons ⟨rfl, rv⟩ .nil)
theorem rkv_len {κ : Type} {K : PySem.W.Frag} {ρ : Pl} {H : Hp} {kvs : List (κ × D)} {vs : List (κ × V)} (r : RKV K ρ H kvs vs) : vs.length = kvs.length := by
  induction r with
  | nil => rfl
  | cons h t ih => simp [ih]
theorem set_any (hu : X.A.units + 1 < cLine) : PSet X (rSetM X P hot) := by
  intro pins s σ H o i v ov iv u Q I ro ri rv h
  obtain ⟨ρ, h, uo, k, d, h', rh, r1, r2, r3, e, q⟩ := h
  cases uo with
  | ref p =>
    simp only [setD] at e
    split at e
    · rename_i xs k hp
      obtain ⟨a, rfl, ea, vs, e1, rs⟩ := rh.ref (Γ := gm X P hot) r1 hp
      rw [Option.map_eq_some_iff] at e
      obtain ⟨j, ej, rfl⟩ := e
      simp only [Rep] at r2
      subst r2
      have ew := Ext.write (Γ := gm X P hot) (ρ := ρ) (H := H) (o := HO.lst (vs.set j v)) rh ea
      exact set_list pins s σ H _ _ v ov iv u Q I ro ri rv ⟨a, vs, _, j, rfl, rfl, e1, by rw [rs.length]; exact ej, q ρ _ ew (rh.write ea ⟨_, upd_same, Reps.set (r3.mono ew) j (rs.mono ew)⟩)⟩
    · rename_i o hp _
      obtain ⟨a, rfl, ea, ro'⟩ := rh.ref (Γ := gm X P hot) r1 hp
      rw [Option.map_eq_some_iff] at e
      obtain ⟨o', eo, rfl⟩ := e
      cases o with
      | dct kvs =>
        simp only [dput] at eo
        split at eo
        · rename_i hl
          rw [Option.map_eq_some_iff] at eo
          obtain ⟨key, ek, rfl⟩ := eo
          obtain ⟨vs, e1, rs⟩ := ro'
          have := key_rep r2 ek
          subst this
          have ew := Ext.write (Γ := gm X P hot) (ρ := ρ) (H := H) (o := HO.dK (L2.putK vs key v)) rh ea
          exact set_dict hu pins s σ H _ _ v ov iv u Q I ro ri rv ⟨a, _, rfl, DPut.k e1 (by rw [rkv_len rs]; exact hl), q ρ _ ew (rh.write ea ⟨_, upd_same, rkv_put key (r3.mono ew) (rs.mono ew)⟩)⟩
        · cases eo
      | _ => simp only [dput] at eo; cases eo
    · cases e
  | _ => simp only [setD] at e; cases e
theorem s_sets {eo ei ee : ME} {i : Expr} (hu : X.A.units + 1 < cLine) (he : PE X e (tM (gm X P hot) W (sem call P x ee))) (ho : PE X o (tM (gm X P hot) W (sem call P x eo))) (hi : PE X i (tM (gm X P hot) W (sem call P x ei)))
    (hs : swapsWithSole [.Subscript o i p] e pos.line X.env = pure false) (hw : swappedStores [.Subscript o i p] e X.env = pure none) (h1 : (assignEach [.Subscript o i p] X.env).map (·.2) = [assign (.Subscript o i p) X.env])
    (ha : ∀ v, assign (.Subscript o i p) X.env v = (do
      let ov ← holding [v] (eval o X.env)
      let iv ← holding [v, ov] (eval i X.env)
      standAt p
      holding [v, ov, iv] (setItem ov iv v)
      release [v, ov, iv] [])) : PS X (.Assign [.Subscript o i p] e pos) (tMs (gm X P hot) W (ssem call P (.sets eo ei ee) x)) := by
  refine (ps_asg he (pg_sub ho hi (set_any (P := P) (hot := hot) hu) ha) hs hw h1).imp fun D σ H ⟨ρ, env, h, rh, re, p⟩ => ?_
  rw [ssem] at p
  refine ⟨ρ, env, h, rh, re, p.then re fun d h1 ρ1 H1 x1 rh1 p1 v rv => ⟨ρ1, env, h1, rh1, re.mono x1, p1.then (re.mono x1) fun u h2 ρ2 H2 x2 rh2 p2 w rw => ⟨ρ2, env, h2, rh2, re.mono (x1.trans x2), p2.then (re.mono (x1.trans x2)) fun k h3 ρ3 H3 x3 rh3 p3 z rz => ?_⟩⟩⟩
  cases e1 : setD h3 u k d with
  | none => rw [e1] at p3; exact False.elim p3
  | some h4 =>
    rw [e1] at p3
    exact ⟨ρ3, h3, u, k, d, h4, rh3, rw.mono x3, rz, rv.mono (x2.trans x3), e1, fun ρ' H' x' rh' => p3 σ ρ' H' x' rh' (re.mono (((x1.trans x2).trans x3).trans x'))⟩
theorem rkv_putF {K : PySem.W.Frag} {ρ : Pl} {H : Hp} {d : D} {v : V} (f : Str) (rv : Rep K ρ H d v) {kvs : List (Str × D)} {vs : List (Str × V)} (r : RKV K ρ H kvs vs) : RKV K ρ H (Mi.putF f d kvs) (L2.putF f v vs) := by
  induction r with
  | nil => exact .cons ⟨rfl, rv⟩ .nil
  | @cons p q l l' h t ih =>
    obtain ⟨q1, q2⟩ := q
    unfold Mi.putF L2.putF
    have h1 : p.1 = q1 := h.1
    rw [h1]
    by_cases hk : q1 = f
    · rw [if_pos hk, if_pos hk]
      exact .cons ⟨hk.symm, rv⟩ t
    · rw [if_neg hk, if_neg hk]
      exact .cons h ih
theorem putF_mem {f : Str} {d : D} {fs : List (Str × D)} {q : Str × D} (h : q ∈ Mi.putF f d fs) : q.1 = f ∨ q ∈ fs := by
  induction fs with
  | nil =>
    simp only [Mi.putF, List.mem_singleton] at h
    exact .inl (by rw [h])
  | cons p l ih =>
    unfold Mi.putF at h
    split at h
    · rcases List.mem_cons.mp h with h | h
      · exact .inl (by rw [h])
      · exact .inr (List.mem_cons_of_mem _ h)
    · rcases List.mem_cons.mp h with h | h
      · exact .inr (by rw [h]; exact List.mem_cons_self)
      · exact (ih h).imp id (List.mem_cons_of_mem _)
/-- the classes that instances may be of -/
def Known (X : Cx) (P : Prog) : Prop := ∀ (c : Nat) (ci : CInfo), P.inss[c]? = some ci → ∀ C, X.mg ci.name = some (.ref C) → Cls X.K C ∧ ∀ f ∈ ci.flds, NoAttr X.K C f
theorem put_rh {ρ : Pl} {H : Hp} {h : Hh} {i c : Nat} {ci : CInfo} {f : Str} {d : D} {v : V} {a C dx : Addr} {fs : List (Str × D)} {vs : List (Str × V)} (rh : RH (gm X P hot) ρ H h) (ea : ρ.pl[i]? = some a) (hci : P.inss[c]? = some ci) (hm : X.mg ci.name = some (.ref C)) (hf : f ∈ ci.flds)
    (e1 : H a = some (.ins C dx vs)) (rs : RKV X.K ρ H fs vs) (hq : ∀ q ∈ fs, q.1 ∈ ci.flds) (rv : Rep X.K ρ H d v) : Ext ρ H ρ (upd H a (.ins C dx (L2.putF f v vs))) ∧ RH (gm X P hot) ρ (upd H a (.ins C dx (L2.putF f v vs))) (h.set i (.ins c (Mi.putF f d fs))) := by
  have ew := Ext.write (Γ := gm X P hot) (ρ := ρ) (H := H) (o := HO.ins C dx (L2.putF f v vs)) rh ea
  refine ⟨ew, rh.write ea ⟨C, dx, _, ci, hci, hm, upd_same, rkv_putF f (rv.mono ew) (rs.mono ew), fun q hq' => ?_⟩⟩
  rcases putF_mem hq' with h | h
  · rw [h]; exact hf
  · exact hq q h
theorem s_setf {eo ee : ME} {f : Str} (G : Known X P) (ho : PE X o (tM (gm X P hot) W (sem call P x eo))) (he : PE X e (tM (gm X P hot) W (sem call P x ee))) (hs : swapsWith e (some (.Attribute o f pos')) pos.line X.env = pure false) :
    PS X (.Assign [.Attribute o f pos'] e pos) (tMs (gm X P hot) W (ssem call P (.setf eo f ee) x)) := by
  refine (ps_fld ho he hs).imp fun D σ H ⟨ρ, env, h, rh, re, p⟩ => ?_
  rw [ssem] at p
  refine ⟨ρ, env, h, rh, re, p.then re fun d h1 ρ1 H1 x1 rh1 p1 v rv => ⟨ρ1, env, h1, rh1, re.mono x1, p1.then (re.mono x1) fun u h2 ρ2 H2 x2 rh2 p2 w rw => ?_⟩⟩
  cases u with
  | ref i =>
    simp only at p2
    split at p2
    · rename_i c fs hi
      split at p2
      · rename_i ci hci
        split at p2
        · rename_i hc
          obtain ⟨a, rfl, ea, C, dx, vs, ci', g1, g2, g3, g4, g5⟩ := rh2.ref (Γ := gm X P hot) rw hi
          have g1' : P.inss[c]? = some ci' := g1
          rw [hci] at g1'
          cases g1'
          obtain ⟨hC, hF⟩ := G c ci hci C g2
          obtain ⟨x3, rh3⟩ := put_rh (hot := hot) rh2 ea hci g2 hc.2 g3 g4 g5 (rv.mono x2)
          exact ⟨a, C, dx, vs, rfl, g3, hC, hF f hc.2, by rw [rkv_len g4]; exact hc.1, p2 σ ρ2 _ x3 rh3 (re.mono ((x1.trans x2).trans x3))⟩
        · exact False.elim p2
      · exact False.elim p2
    · exact False.elim p2
  | _ => exact False.elim p2
theorem s_aug {i : Nat} {op : Operator} {ee : ME} (hN : X.N.Nodup) (hi : Own X i y) (hc : Cold hot i) (he : PE X e (tM (gm X P hot) W (sem call P x ee))) (hop : op = .Add ∨ op = .Sub) :
    PS X (.AugAssign (.Name y pos') op e pos) (tMs (gm X P hot) W (ssem call P (.aug i op ee) x)) := by
  have key : ∀ (f : Int → Int → Int), PIp X op (ipI f) → (∀ (u k : Int), (match (D.int k), op with
      | .int k, .Add => some (u + k)
      | .int k, .Sub => some (u - k)
      | _, _ => none) = some (f u k)) → PS X (.AugAssign (.Name y pos') op e pos) (tMs (gm X P hot) W (ssem call P (.aug i op ee) x)) := fun f hf hk => by
    refine (ps_aug hN hi.at_ hi.loc he hf hi.way).imp fun D σ H ⟨ρ, env, h, rh, re, p⟩ => ?_
    rw [ssem] at p
    split at p
    · rename_i u hu
      obtain ⟨v, ev, rv⟩ := re.get i _ hu
      simp only [Rep] at rv
      subst rv
      refine ⟨_, ev, ρ, env, h, rh, re, p.then re fun d h1 ρ1 H1 x1 rh1 p1 w rw => ?_⟩
      cases d with
      | int k =>
        simp only [Rep] at rw
        subst rw
        refine ⟨u, k, rfl, rfl, ?_⟩
        have hk' := hk u k
        rcases hop with rfl | rfl
        · simp only [Option.some.injEq] at hk'
          rw [← hk']
          exact p1 _ ρ1 H1 .refl rh1 ((re.mono x1).set rep_int hc)
        · simp only [Option.some.injEq] at hk'
          rw [← hk']
          exact p1 _ ρ1 H1 .refl rh1 ((re.mono x1).set rep_int hc)
      | _ => exact False.elim p1
    · exact False.elim p
  rcases hop with rfl | rfl
  · exact key (fun i j => i + j) ip_add (fun _ _ => rfl)
  · exact key (fun i j => i - j) ip_sub (fun _ _ => rfl)
theorem s_augf {eo ee : ME} {f : Str} {op : Operator} (G : Known X P) (ho : PE X o (tM (gm X P hot) W (sem call P x eo))) (he : PE X e (tM (gm X P hot) W (sem call P x ee))) (hop : op = .Add ∨ op = .Sub) :
    PS X (.AugAssign (.Attribute o f tpos) op e pos) (tMs (gm X P hot) W (ssem call P (.augf eo f op ee) x)) := by
  have key : ∀ (g : Int → Int → Int) (rd : V → V → Hp → VK → Prop), InOp X op rd → (∀ i j H Q, Q (.int (g i j)) H → rd (.int i) (.int j) H Q) → (∀ (u k : Int), (match op with
      | .Add => some (u + k)
      | .Sub => some (u - k)
      | _ => none) = some (g u k)) → PS X (.AugAssign (.Attribute o f tpos) op e pos) (tMs (gm X P hot) W (ssem call P (.augf eo f op ee) x)) := fun g rd hf hr hk => by
    refine (ps_fldaug ho he hf).imp fun D σ H ⟨ρ, env, h, rh, re, p⟩ => ?_
    rw [ssem] at p
    refine ⟨ρ, env, h, rh, re, p.then re fun u h1 ρ1 H1 x1 rh1 p1 v rv => ?_⟩
    cases u with
    | ref i =>
      simp only at p1
      split at p1
      · rename_i c fs hi
        split at p1
        · rename_i n hn
          obtain ⟨a, rfl, ea, C, dx, vs, ci, g1, g2, g3, g4, g5⟩ := rh1.ref (Γ := gm X P hot) rv hi
          obtain ⟨hC, hF⟩ := G c ci g1 C g2
          have q := lookup_rkv g4 f
          rw [hn] at q
          obtain ⟨z, hz, ez⟩ := lookup_mem hn
          have hfl : f ∈ ci.flds := ez ▸ g5 z hz
          cases ev : vs.lookup f with
          | none => rw [ev] at q; exact False.elim q
          | some w =>
            rw [ev] at q
            have qi : w = .int n := by simpa only [RO, Rep] using q
            subst qi
            refine ⟨a, C, dx, vs, _, rfl, g3, hC, hF f hfl, ev, ρ1, env, h1, rh1, re.mono x1, p1.then (re.mono x1) fun d h2 ρ2 H2 x2 rh2 p2 w2 rw2 => ?_⟩
            have ea2 := x2.1.1 _ _ ea
            have fin : ∀ (m : Int) (c' : Nat) (fs' : List (Str × Mi.D)), h2[i]? = some (.ins c' fs') → d = .int m → fs'.length < 1000 ∧ c' = c → SPost (gm X P hot) W D ρ2 H2 (.nx env (h2.set i (.ins c' (Mi.putF f (.int (g n m)) fs')))) →
                rd (.int n) w2 H2 fun z H3 => ∃ dx' fs', H3 a = some (.ins C dx' fs') ∧ fs'.length < 1000 ∧ D.nx σ (upd H3 a (.ins C dx' (L2.putF f z fs'))) := by
              intro m c' fs' hi2 hd hl p3
              subst hd
              obtain ⟨hl, hcc⟩ := hl
              subst hcc
              simp only [Rep] at rw2
              subst rw2
              obtain ⟨C', dx', vs', ci', k1, k2, k3, k4, k5⟩ := rh2.ob i a _ ea2 hi2
              have k1' : P.inss[c']? = some ci' := k1
              have g1' : P.inss[c']? = some ci := g1
              rw [g1'] at k1'
              cases k1'
              have k2' : X.mg ci.name = some (.ref C') := k2
              have g2' : X.mg ci.name = some (.ref C) := g2
              rw [g2'] at k2'
              cases k2'
              obtain ⟨x3, rh3⟩ := put_rh (hot := hot) (d := .int (g n m)) (v := .int (g n m)) rh2 ea2 g1' g2' hfl k3 k4 k5 rep_int
              exact hr _ _ _ _ ⟨dx', vs', k3, by rw [rkv_len k4]; exact hl, p3 σ ρ2 _ x3 rh3 (re.mono ((x1.trans x2).trans x3))⟩
            have hk' := fun k => hk n k
            rcases hop with rfl | rfl
            · split at p2
              · rename_i c' fs' m hi2 _
                split at p2
                · rename_i hl
                  have e1 := hk' m
                  simp only [Option.some.injEq] at e1
                  rw [e1] at p2
                  exact fin m c' fs' hi2 rfl hl p2
                · exact False.elim p2
              · rename_i hd _ e1
                cases e1
              · exact False.elim p2
            · split at p2
              · rename_i hd _ e1
                cases e1
              · rename_i c' fs' m hi2 _
                split at p2
                · rename_i hl
                  have e1 := hk' m
                  simp only [Option.some.injEq] at e1
                  rw [e1] at p2
                  exact fin m c' fs' hi2 rfl hl p2
                · exact False.elim p2
              · exact False.elim p2
        · exact False.elim p1
      · exact False.elim p1
    | _ => exact False.elim p1
  rcases hop with rfl | rfl
  · exact key (fun i j => i + j) rAdd in_add (fun i j H Q q => ⟨i, j, rfl, rfl, q⟩) (fun _ _ => rfl)
  · exact key (fun i j => i - j) rSub in_sub (fun i j H Q q => ⟨i, j, rfl, rfl, q⟩) (fun _ _ => rfl)
end
end Mi
end
section
set_option Elab.async false
set_option linter.all false
set_option maxRecDepth 100000
namespace Mi
open PySem PySem.Spec PyProof.Rows L2

section
variable {X : Cx} {P : Prog} {hot : Option Hot} {W : WX} {call : Nat → List D → Hh → Res D} {x : Option Ex}
variable {e a b c tg o iter : Expr} {ss ss' : List Stmt} {st : Stmt} {pos p tpos pos' : Pos} {y : Str}
theorem ss_nil : PSs X [] (tMs (gm X P hot) W (ssems call P .nil x)) := by
  refine pss_nil.imp fun D σ H ⟨ρ, env, h, rh, re, p⟩ => ?_
  rw [ssems] at p
  exact p σ ρ H .refl rh re
theorem SPost.bind {Γ : Gam} {D : Ends} {ρ : Pl} {H : Hp} {r : SR} {f : Env → Hh → SR} (p : SPost Γ W D ρ H (r.bind f)) {N : L2.St → Hp → Prop}
    (g : ∀ env h ρ1 H1 σ1, Ext ρ H ρ1 H1 → RH Γ ρ1 H1 h → RE Γ ρ1 H1 env σ1 → SPost Γ W D ρ1 H1 (f env h) → N σ1 H1) : SPost Γ W { D with nx := N } ρ H r := by
  cases r with
  | nx env h => exact fun σ1 ρ1 H1 x1 rh1 re1 => g env h ρ1 H1 σ1 x1 rh1 re1 (SPost.later x1 p)
  | brk env h => exact p
  | ct env h => exact p
  | ret d h => exact p
  | exc e env h => exact p
  | stuck => exact p
theorem ss_cons {s : MS} {r : MSs} (h1 : PS X st (tMs (gm X P hot) W (ssem call P s x))) (h2 : PSs X ss (tMs (gm X P hot) W (ssems call P r x))) : PSs X (st :: ss) (tMs (gm X P hot) W (ssems call P (.cons s r) x)) := by
  refine (pss_cons h1 h2).imp fun D σ H ⟨ρ, env, h, rh, re, p⟩ => ?_
  rw [ssems] at p
  exact ⟨ρ, env, h, rh, re, p.bind fun env1 h1 ρ1 H1 σ1 x1 rh1 re1 p1 => ⟨ρ1, env1, h1, rh1, re1, p1⟩⟩
theorem s_ret {ee : ME} (he : PE X e (tM (gm X P hot) W (sem call P x ee))) : PS X (.Return (some e) pos) (tMs (gm X P hot) W (ssem call P (.ret ee) x)) := by
  refine (ps_ret he).imp fun D σ H ⟨ρ, env, h, rh, re, p⟩ => ?_
  rw [ssem] at p
  exact ⟨ρ, env, h, rh, re, p.then re fun d h1 ρ1 H1 x1 rh1 p1 v rv => p1 v ρ1 H1 .refl rh1 rv⟩
theorem s_retN : PS X (.Return none pos) (tMs (gm X P hot) W (ssem call P .retN x)) := by
  refine ps_retN.imp fun D σ H ⟨ρ, env, h, rh, re, p⟩ => ?_
  rw [ssem] at p
  exact p .non ρ H .refl rh rep_non
theorem s_exp {ee : ME} (he : PE X e (tM (gm X P hot) W (sem call P x ee))) (hs : swapsWith e none pos.line X.env = pure false) : PS X (.Expr e pos) (tMs (gm X P hot) W (ssem call P (.exp ee) x)) := by
  refine (ps_expr he hs).imp fun D σ H ⟨ρ, env, h, rh, re, p⟩ => ?_
  rw [ssem] at p
  exact ⟨ρ, env, h, rh, re, p.then re fun d h1 ρ1 H1 x1 rh1 p1 v rv => p1 σ ρ1 H1 .refl rh1 (re.mono x1)⟩
theorem s_pass : PS X (.Pass pos) (tMs (gm X P hot) W (ssem call P .pass x)) := by
  refine ps_pass.imp fun D σ H ⟨ρ, env, h, rh, re, p⟩ => ?_
  rw [ssem] at p
  exact p σ ρ H .refl rh re
theorem s_doc {j : Nat} {z : Str} : PS X (.Expr (.Constant (.str z) j pos) pos') (tMs (gm X P hot) W (ssem call P .pass x)) := by
  refine ps_doc.imp fun D σ H ⟨ρ, env, h, rh, re, p⟩ => ?_
  rw [ssem] at p
  exact p σ ρ H .refl rh re
theorem s_brk : PS X (.Break pos) (tMs (gm X P hot) W (ssem call P .brk x)) := by
  refine ps_break.imp fun D σ H ⟨ρ, env, h, rh, re, p⟩ => ?_
  rw [ssem] at p
  exact p σ ρ H .refl rh re
theorem s_cont : PS X (.Continue pos) (tMs (gm X P hot) W (ssem call P .cont x)) := by
  refine ps_continue.imp fun D σ H ⟨ρ, env, h, rh, re, p⟩ => ?_
  rw [ssem] at p
  exact p σ ρ H .refl rh re
theorem s_ife {ec : ME} {sa sb : MSs} (hc : PT X c (tMb (gm X P hot) W (semB call P x ec))) (ha : PSs X ss (tMs (gm X P hot) W (ssems call P sa x))) (hb : PSs X ss' (tMs (gm X P hot) W (ssems call P sb x))) :
    PS X (.If c ss ss' pos) (tMs (gm X P hot) W (ssem call P (.ife ec sa sb) x)) := by
  refine (ps_if hc ha hb).imp fun D σ H ⟨ρ, env, h, rh, re, p⟩ => ?_
  rw [ssem] at p
  refine ⟨ρ, env, h, rh, re, p.then re fun k h1 ρ1 H1 x1 rh1 p1 => ?_⟩
  cases k with
  | true => rw [if_pos rfl] at p1 ⊢; exact ⟨ρ1, env, h1, rh1, re.mono x1, p1⟩
  | false => rw [if_neg (by decide)] at p1 ⊢; exact ⟨ρ1, env, h1, rh1, re.mono x1, p1⟩
theorem s_loop {t : MT} {it : MI} {sb : MSs} (hp : PassesOwn (model X.prog X.w) X.A X.env X.xe) (hc : X.calm = true) (hi : PI X tg iter (tMi (gm X P hot) W (semI call P x it))) (hg : PG X tg (gM (gm X P hot) t))
    (hb : PSs X ss (tMs (gm X P hot) W (ssems call P sb x))) (hs : ∀ x, foldedSetIterable iter X.env x = pure x) : PS X (.For tg iter ss [] pos) (tMs (gm X P hot) W (ssem call P (.loop t it sb) x)) := by
  refine (ps_for hp hc hi hg hb hs).imp fun D σ H ⟨ρ, env, h, rh, re, p⟩ => ?_
  rw [ssem] at p
  refine ⟨ρ, env, h, rh, re, p.then re fun dg h1 ρ1 H1 x1 rh1 p1 J S _ => ?_⟩
  refine ⟨fun i m σ' H' => ∃ ρ' env' h', Ext ρ1 H1 ρ' H' ∧ RH (gm X P hot) ρ' H' h' ∧ RE (gm X P hot) ρ' H' env' σ' ∧ i ≤ dg.1.length ∧ SPost (gm X P hot) W D ρ' H' (loopM dg.2 t (ssems call P sb x) (dg.1.drop i) env' h') ∧ m = dg.1.length - i,
    ⟨_, ρ1, env, h1, .refl, rh1, re.mono x1, Nat.zero_le _, p1, rfl⟩, ?_⟩
  rintro i m σ' H' ⟨ρ', env', h', x', rh', re', hi', p', rfl⟩
  by_cases hlt : i < dg.1.length
  · right
    rw [List.drop_eq_getElem_cons hlt, loopM] at p'
    split at p'
    · rename_i hok
      obtain ⟨hgo, hy⟩ := S.item ρ' H' h' x'.1 rh' hok i _ (List.getElem?_eq_getElem hlt)
      refine ⟨hgo, _, fun σ2 H2 (n : ∃ ρ' env' h', Ext ρ1 H1 ρ' H2 ∧ RH (gm X P hot) ρ' H2 h' ∧ RE (gm X P hot) ρ' H2 env' σ2 ∧ i + 1 ≤ dg.1.length ∧ SPost (gm X P hot) W D ρ' H2 (loopM dg.2 t (ssems call P sb x) (dg.1.drop (i + 1)) env' h')) => ?_, fun v H2 yv => ?_⟩
      · obtain ⟨a1, a2, a3, a4, a5, a6, a7, a8⟩ := n
        exact ⟨_, by omega, a1, a2, a3, a4, a5, a6, a7, a8, rfl⟩
      · obtain ⟨x2, rh2, rv⟩ := hy v H2 yv
        split at p'
        · exact False.elim p'
        · rename_i env1 he1
          refine ⟨ρ', env', h', _, env1, rh2, re'.mono x2, rv, he1, fun σ1 re1 _ => ⟨ρ', env1, h', rh2, re1, ?_⟩⟩
          cases er : ssems call P sb x env1 h' with
          | nx env2 h2 => rw [er] at p'; exact fun σ3 ρ3 H3 x3 rh3 re3 => ⟨ρ3, env2, h2, (x'.trans x2).trans x3, rh3, re3, hlt, SPost.later (x2.trans x3) p'⟩
          | ct env2 h2 => rw [er] at p'; exact fun σ3 ρ3 H3 x3 rh3 re3 => ⟨ρ3, env2, h2, (x'.trans x2).trans x3, rh3, re3, hlt, SPost.later (x2.trans x3) p'⟩
          | brk env2 h2 => rw [er] at p'; exact fun σ3 ρ3 H3 x3 rh3 re3 => p' σ3 ρ3 H3 (x2.trans x3) rh3 re3
          | ret d h2 => rw [er] at p'; exact fun v ρ3 H3 x3 rh3 re3 => p' v ρ3 H3 (x2.trans x3) rh3 re3
          | exc e env2 h2 => rw [er] at p'; exact fun σ3 cls dd ρ3 H3 x3 rh3 re3 => p' σ3 cls dd ρ3 H3 (x2.trans x3) rh3 re3
          | stuck => rw [er] at p'; exact p'
    · exact False.elim p'
  · left
    rw [List.drop_eq_nil_of_le (by omega), loopM] at p'
    split at p'
    · rename_i hok
      exact ⟨S.done ρ' H' h' x'.1 rh' hok i (by omega), p' σ' ρ' H' .refl rh' re'⟩
    · exact False.elim p'
theorem whileM_some {cc : Env → Hh → Res Bool} {bb : Env → Hh → SR} {env : Env} {h : Hh} (hn : whileM cc bb env h ≠ .stuck) : ∃ n, whileK cc bb n env h = some (whileM cc bb env h) := by
  unfold whileM at hn ⊢
  split
  · rename_i p
    exact ⟨_, p.choose_spec.choose_spec⟩
  · rename_i p
    rw [dif_neg p] at hn
    exact absurd rfl hn
theorem s_whl {ec : ME} {sb : MSs} (hp : PassesOwn (model X.prog X.w) X.A X.env X.xe) (hc : PT X c (tMb (gm X P hot) W (semB call P x ec))) (hb : PSs X ss (tMs (gm X P hot) W (ssems call P sb x))) :
    PS X (.While c ss [] pos) (tMs (gm X P hot) W (ssem call P (.whl ec sb) x)) := by
  refine (ps_while hp hc hb).imp fun D σ H ⟨ρ, env, h, rh, re, p⟩ => ?_
  rw [ssem] at p
  have hn : whileM (semB call P x ec) (ssems call P sb x) env h ≠ .stuck := fun z => by rw [z] at p; exact p
  obtain ⟨n, en⟩ := whileM_some hn
  refine ⟨fun m σ' H' => ∃ ρ' env' h' r, Ext ρ H ρ' H' ∧ RH (gm X P hot) ρ' H' h' ∧ RE (gm X P hot) ρ' H' env' σ' ∧ whileK (semB call P x ec) (ssems call P sb x) m env' h' = some r ∧ SPost (gm X P hot) W D ρ' H' r,
    ⟨n, ρ, env, h, _, .refl, rh, re, en, p⟩, ?_⟩
  rintro m σ' H' ⟨ρ', env', h', r, x', rh', re', er, p'⟩
  cases m with
  | zero => cases er
  | succ m =>
    refine ⟨ρ', env', h', rh', re', ?_⟩
    rw [whileK] at er
    cases ec1 : semB call P x ec env' h' with
    | stuck => rw [ec1] at er; cases er; exact p'
    | exc ex h1 =>
      rw [ec1] at er
      cases er
      exact fun cls dd ρ1 H1 x1 rh1 q => p' σ' cls dd ρ1 H1 x1 rh1 (re'.mono x1) q
    | ok k h1 =>
      rw [ec1] at er
      intro ρ1 H1 x1 rh1
      cases k with
      | false =>
        cases er
        rw [if_neg (by decide)]
        exact p' σ' ρ1 H1 x1 rh1 (re'.mono x1)
      | true =>
        rw [if_pos rfl]
        refine ⟨fun σ2 H2 => ∃ ρ' env' h' r, Ext ρ H ρ' H2 ∧ RH (gm X P hot) ρ' H2 h' ∧ RE (gm X P hot) ρ' H2 env' σ2 ∧ whileK (semB call P x ec) (ssems call P sb x) m env' h' = some r ∧ SPost (gm X P hot) W D ρ' H2 r,
          fun σ2 H2 n => ⟨m, Nat.lt_succ_self m, n⟩, ρ1, env', h1, rh1, re'.mono x1, ?_⟩
        simp only at er
        cases eb : ssems call P sb x env' h1 with
        | nx env2 h2 => rw [eb] at er; exact fun σ3 ρ3 H3 x3 rh3 re3 => ⟨ρ3, env2, h2, r, (x'.trans x1).trans x3, rh3, re3, er, SPost.later (x1.trans x3) p'⟩
        | ct env2 h2 => rw [eb] at er; exact fun σ3 ρ3 H3 x3 rh3 re3 => ⟨ρ3, env2, h2, r, (x'.trans x1).trans x3, rh3, re3, er, SPost.later (x1.trans x3) p'⟩
        | brk env2 h2 => rw [eb] at er; cases er; exact fun σ3 ρ3 H3 x3 rh3 re3 => p' σ3 ρ3 H3 (x1.trans x3) rh3 re3
        | ret d h2 => rw [eb] at er; cases er; exact fun v ρ3 H3 x3 rh3 re3 => p' v ρ3 H3 (x1.trans x3) rh3 re3
        | exc e env2 h2 => rw [eb] at er; cases er; exact fun σ3 cls dd ρ3 H3 x3 rh3 re3 => p' σ3 cls dd ρ3 H3 (x1.trans x3) rh3 re3
        | stuck => rw [eb] at er; cases er; exact p'
end
end Mi
end
section
set_option Elab.async false
set_option linter.all false
set_option maxRecDepth 100000
namespace Mi
open PySem PySem.Spec PyProof.Rows L2

section
variable {Γ : Gam} {ρ ρ' ρ'' ρz : Pl} {H H' H'' Hz : Hp} {h h' : Hh} {a : Addr} {env : Env} {σ : L2.St}
/-- what is hidden turns, nothing else -/
theorem RH.move (r : RH Γ ρ H h) (x : Wk ρ H ρ' H') (ep : ρ'.pl = ρ.pl) (k : ∀ a ∈ ρ.pl, H' a = H a) (sep : ∀ a ∈ ρ.pl, a ∉ ρ'.ex) (exs : ∀ a ∈ ρ'.ex, ∃ u, H' a = some u) : RH Γ ρ' H' h :=
  ⟨by rw [ep]; exact r.nd, by rw [ep]; exact r.len, fun i a o e1 e2 => (r.ob i a o (by rw [ep] at e1; exact e1) e2).wk_at x (k a (by rw [ep] at e1; exact List.mem_of_getElem? e1)), by rw [ep]; exact sep, exs⟩
/-- the new list, hidden -/
theorem wk_hide {o : HO} (ha : H a = none) : Wk ρ H (ρ.hide a) (upd H a o) := by
  refine ⟨fun _ _ e => e, fun b u e n => ⟨by rw [upd_ne (ne_of_none e ha)]; exact e, fun z => ?_⟩⟩
  rcases z with z | z
  · exact n (.inl z)
  · rcases List.mem_cons.mp (show b ∈ a :: ρ.ex from z) with z | z
    · exact ne_of_none e ha z
    · exact n (.inr z)
theorem rh_hide {o : HO} (r : RH Γ ρ H h) (ha : H a = none) : RH Γ (ρ.hide a) (upd H a o) h := by
  have np := Pl.not_mem.mp (r.new ha)
  refine r.move (wk_hide ha) rfl (fun b hb => upd_ne fun z => np.1 (z ▸ hb)) (fun b hb z => ?_) fun b hb => ?_
  · rcases List.mem_cons.mp (show b ∈ a :: ρ.ex from z) with z | z
    · exact np.1 (z ▸ hb)
    · exact r.sep b hb z
  · rcases List.mem_cons.mp (show b ∈ a :: ρ.ex from hb) with z | z
    · rw [z]; exact ⟨o, upd_same⟩
    · exact let ⟨_, e⟩ := r.exs b z; upd_some e
/-- .. turned -/
theorem wk_turn {o : HO} (ha : a ∈ ρ.ex) : Wk ρ H ρ (upd H a o) :=
  ⟨fun _ _ e => e, fun b u e n => ⟨by rw [upd_ne (fun z => n (.inr (by rw [z]; exact ha)))]; exact e, n⟩⟩
theorem rh_turn {o : HO} (r : RH Γ ρ H h) (ha : a ∈ ρ.ex) : RH Γ ρ (upd H a o) h :=
  r.move (wk_turn ha) rfl (fun b hb => upd_ne fun z => r.sep b hb (z ▸ ha)) r.sep fun b hb => let ⟨_, e⟩ := r.exs b hb; upd_some e
/-- .. taken away -/
def del (H : Hp) (a : Addr) : Hp := fun b => if b = a then none else H b
theorem upd_del {o : HO} (e : H a = some o) : upd (del H a) a o = H := by
  funext b
  unfold upd del
  by_cases h : b = a
  · rw [if_pos h, h, e]
  · rw [if_neg h, if_neg h]
theorem del_none : del H a a = none := if_pos rfl
theorem del_ne {b : Addr} (h : b ≠ a) : del H a b = H b := if_neg h
theorem wk_show {ex : List Addr} (e : ρ.ex = a :: ex) : Wk ρ H ⟨ρ.pl, ex⟩ (del H a) := by
  refine ⟨fun _ _ e => e, fun b u eb n => ⟨?_, fun z => ?_⟩⟩
  · rw [del_ne fun z => n (.inr (by rw [e, z]; exact List.mem_cons_self))]; exact eb
  · rcases z with z | z
    · exact n (.inl z)
    · exact n (.inr (by rw [e]; exact List.mem_cons_of_mem _ z))
theorem rh_show {ex : List Addr} (r : RH Γ ρ H h) (e : ρ.ex = a :: ex) (na : a ∉ ex) : RH Γ ⟨ρ.pl, ex⟩ (del H a) h := by
  have ha : a ∈ ρ.ex := by rw [e]; exact List.mem_cons_self
  refine r.move (wk_show e) rfl (fun b hb => del_ne fun z => r.sep b hb (z ▸ ha)) (fun b hb z => r.sep b hb (by rw [e]; exact List.mem_cons_of_mem _ z)) fun b hb => ?_
  rw [del_ne (fun z => na (by rw [← z]; exact hb))]
  exact r.exs b (by rw [e]; exact List.mem_cons_of_mem _ hb)
theorem RE.wipes (r : RE Γ ρ H env σ) (hh : Γ.hot = none) (vs : List Nat) : RE Γ ρ H (Mi.wipe env vs) (L2.wipe σ vs) := r.wipe hh vs
end

/-- nothing may be raised -/
def W0 : WX := fun _ _ _ _ => False
theorem takes0 {X : Cx} : Takes X.nox W0 := fun u s' x => by
  obtain ⟨a, B, sI, pins, σ, H, cls, d, e, I, nb, up, sky, na, os, ag, w⟩ := x
  exact w
section
variable {X : Cx} {P : Prog} {W : WX} {call : Nat → List D → Hh → Res D} {x : Option Ex}
variable {e elt tg iter tg1 iter1 : Expr} {ifs ifs1 : List Expr} {pos p : Pos} {scope : Scope}
theorem t_none {X : Cx} {hot : Option Hot} : PTs X [] (tMb (gm X P hot) W (semT call P x .nil)) := by
  refine ⟨fun pins s σ H Q I ⟨ρ, env, h, rh, re, p⟩ => pts_nil.run pins s σ H Q I ?_⟩
  rw [semT] at p
  exact p.ok rh
theorem t_one {X : Cx} {hot : Option Hot} {c : Expr} {ce : ME} (hc : PT X c (tMb (gm X P hot) W (semB call P x ce))) : PTs X [c] (tMb (gm X P hot) W (semT call P x (.cons ce .nil))) := by
  refine ⟨fun pins s σ H Q I ⟨ρ, env, h, rh, re, p⟩ => (pts_one hc).run pins s σ H Q I ⟨ρ, env, h, rh, re, ?_⟩⟩
  have e : semT call P x (.cons ce .nil) env h = semB call P x ce env h := by
    simp only [semT, semB]
    cases sem call P x ce env h with
    | ok d h1 =>
      simp only [bind_ok]
      cases truthD h1 d with
      | none => rfl
      | some k => cases k <;> rfl
    | _ => rfl
  rw [e] at p
  exact p
theorem calm_ok' {α : Type} {r : Res α} {W : WX} {Γ : Gam} {σ : L2.St} {ρ : Pl} {H : Hp} {k : α → Pl → Hp → Hh → Prop} (p : Post Γ W σ ρ H r.calm k) : ∃ a h, r = .ok a h ∧ Post Γ W σ ρ H (.ok a h) k := by
  cases r with
  | ok a h => exact ⟨a, h, rfl, p⟩
  | _ => exact False.elim p
theorem bind_ok_of {α β : Type} {r : Res α} {f : α → Hh → Res β} {b : β} {h : Hh} (e : r.bind f = .ok b h) : ∃ a h1, r = .ok a h1 ∧ f a h1 = .ok b h := by
  cases r with
  | ok a h1 => exact ⟨a, h1, rfl, e⟩
  | _ => cases e
theorem lc_go {own : List (Str × Nat)} {t : MT} {it : MI} {cs : MEs} {ee : ME} (ho : ∀ i ∈ t.slots, i ∈ own.map (·.2)) :
    ∀ σ H Q, tMl (gm X P none) W (semC call P x (.lc (own.map (·.2)) t it cs ee)) σ H Q → tLc (tMi (gm X P none) W (semI call P x it)) (gM (gm X P none) t) (tMb (gm X P none) W0 (semT call P x cs)) (tM (gm X P none) W0 (sem call P x ee)) (own.map (·.2)) σ H Q := by
  intro σ H Q ⟨ρ, env, h, rh, re, p⟩
  rw [semC] at p
  refine ⟨ρ, env, h, rh, re, p.bind fun dg h1 ρ1 H1 x1 rh1 p1 J S hz D hD => ?_⟩
  obtain ⟨zs, hz1, ez, p2⟩ := calm_ok' p1
  have na : D ∉ ρ1.ex := (Pl.not_mem.mp (rh1.new hD)).2
  have re1 := RE.wipes (Γ := gm X P none) (re.mono x1) rfl (own.map (·.2))
  refine ⟨fun i m H' => ∃ (ρ' : Pl) (h' : Hh) (ds ys : List Mi.D) (vs : List V), i ≤ dg.1.length ∧ m = dg.1.length - i ∧ Wk ρ1 H1 ρ' H' ∧ ρ'.ex = D :: ρ1.ex ∧ (∀ b ∈ ρ1.ex, H' b = H1 b) ∧ RH (gm X P none) ρ' H' h' ∧ H' D = some (.lst vs) ∧ Reps X.K ρ' H' ds vs ∧
      ds.length ≤ i ∧ lcM dg.2 (own.map (·.2)) t (semT call P x cs) (sem call P x ee) env (dg.1.drop i) h' = .ok ys hz1 ∧ zs = ds ++ ys,
    ⟨dg.1.length, ρ1.hide D, h1, [], zs, [], Nat.zero_le _, rfl, wk_hide hD, rfl, fun b hb => upd_ne fun z => na (z ▸ hb), rh_hide rh1 hD, upd_same, Reps.nil, Nat.le_refl _, ez, rfl⟩, ?_⟩
  rintro i m H' ⟨ρ', h', ds, ys, vs, hi', rfl, wk, ex, keep, rh', hD', rs, hl, el, rfl⟩
  have hex : D ∈ ρ'.ex := by rw [ex]; exact List.mem_cons_self
  by_cases hlt : i < dg.1.length
  · right
    rw [List.drop_eq_getElem_cons hlt, lcM] at el
    split at el
    · rename_i hok
      obtain ⟨hgo, hy⟩ := S.item ρ' H' h' wk rh' hok i _ (List.getElem?_eq_getElem hlt)
      refine ⟨hgo, fun H'' => ∃ m', m' < dg.1.length - i ∧ _, fun H'' n => n, fun v H2 yv => ?_⟩
      obtain ⟨x2, rh2, rv⟩ := hy v H2 yv
      split at el
      · cases el
      · rename_i env1 he1
        refine ⟨ρ', _, h', _, env1, rh2, ((re1.wk wk).mono x2), rv, he1, fun σ1 re2 hw => ⟨?_, ρ', env1, h', rh2, re2, ?_⟩⟩
        · rw [hw _ ho, wipe_wipe fun i hi => hi]
        obtain ⟨b, h2, eb, el⟩ := bind_ok_of el
        rw [eb]
        intro ρ2 H3 x3 rh3
        have wk3 : Wk ρ1 H1 ρ2 H3 := (wk.trans x2.1).trans x3.1
        have ex3 : ρ2.ex = D :: ρ1.ex := x3.2.1.trans ex
        have keep3 : ∀ b ∈ ρ1.ex, H3 b = H1 b := fun b hb => by
          have hb' : b ∈ ρ'.ex := by rw [ex]; exact List.mem_cons_of_mem _ hb
          rw [x3.2.2 b hb', x2.2.2 b hb', keep b hb]
        have hD3 : H3 D = some (.lst vs) := by rw [x3.2.2 D hex, x2.2.2 D hex]; exact hD'
        have rs3 : Reps X.K ρ2 H3 ds vs := (rs.mono x2).mono x3
        cases b with
        | false =>
          simp only [Bool.false_eq_true, if_false] at el ⊢
          exact ⟨dg.1.length - (i + 1), by omega, ρ2, h2, ds, ys, vs, hlt, rfl, wk3, ex3, keep3, rh3, hD3, rs3, by omega, el, rfl⟩
        | true =>
          simp only [if_true] at el ⊢
          obtain ⟨y, h3, ey, el⟩ := bind_ok_of el
          obtain ⟨ys', h4, el, e5⟩ := bind_ok_of el
          cases e5
          refine ⟨ρ2, env1, h2, rh3, re2.mono x3, ?_⟩
          rw [ey]
          intro ρ3 H4 x4 rh4 w rw'
          have hex3 : D ∈ ρ2.ex := by rw [ex3]; exact List.mem_cons_self
          have ex4 : ρ3.ex = D :: ρ1.ex := x4.2.1.trans ex3
          have hex4 : D ∈ ρ3.ex := by rw [ex4]; exact List.mem_cons_self
          have hl' : vs.length = ds.length := rs.length
          refine ⟨vs, by rw [x4.2.2 D hex3]; exact hD3, by omega, dg.1.length - (i + 1), by omega, ρ3, h3, ds ++ [y], ys', vs ++ [w], hlt, rfl, (wk3.trans x4.1).trans (wk_turn hex4), ex4, fun b hb => ?_, rh_turn rh4 hex4, upd_same, ?_, by rw [List.length_append]; simp; omega, el, by simp⟩
          · have hb' : b ∈ ρ2.ex := by rw [ex3]; exact List.mem_cons_of_mem _ hb
            rw [upd_ne (fun z => na (by rw [← z]; exact hb)), x4.2.2 b hb', keep3 b hb]
          · exact Reps.wk (wk_turn hex4) _ ((rs3.mono x4).append (.cons rw' .nil))
    · cases el
  · left
    rw [List.drop_eq_nil_of_le (by omega), lcM] at el
    split at el
    · rename_i hok
      obtain ⟨rfl, rfl⟩ : [] = ys ∧ h' = hz1 := by cases el; exact ⟨rfl, rfl⟩
      refine ⟨S.done ρ' H' h' wk rh' hok i (by omega), ?_⟩
      have fin := p2 ⟨ρ'.pl, ρ1.ex⟩ (del H' D) ⟨wk.trans (wk_show ex), rfl, fun b hb => by rw [del_ne fun z => na (by rw [← z]; exact hb)]; exact keep b hb⟩ (rh_show rh' ex na) D vs (by rw [List.append_nil]; exact Reps.wk (wk_show ex) _ rs) del_none
      rw [upd_del hD'] at fin
      exact fin
    · cases el
theorem c_lc {own : List (Str × Nat)} {t : MT} {it : MI} {cs : MEs} {ee : ME} (hc : X.calm = true) (hN : X.N.Nodup) (hi : PI X tg iter (tMi (gm X P none) W (semI call P x it))) (ok : BlkOk X.N X.env.scope scope own)
    (ho : ∀ i ∈ t.slots, i ∈ own.map (·.2))
    (hg : ∀ (s : Shared) (H : Hp) (C : Addr) (cl : List (Str × Addr)) (fp : List Addr), PG (X.blk s H scope (compEnvC scope cl C X.env) fp) tg (gM (gm X P none) t))
    (ht : ∀ (s : Shared) (H : Hp) (C : Addr) (cl : List (Str × Addr)) (fp : List Addr), PTs (X.blk s H scope (compEnvC scope cl C X.env) fp) ifs (tMb (gm X P none) W0 (semT call P x cs)))
    (he : ∀ (s : Shared) (H : Hp) (C : Addr) (cl : List (Str × Addr)) (fp : List Addr), PE (X.blk s H scope (compEnvC scope cl C X.env) fp) elt (tM (gm X P none) W0 (sem call P x ee))) (hs : ∀ x, foldedSetIterable iter X.env x = pure x) :
    PE X (.ListComp elt [⟨tg, iter, ifs, 0⟩] scope pos) (tMl (gm X P none) W (semC call P x (.lc (own.map (·.2)) t it cs ee))) :=
  (pe_lc hc hN hi ok hg ht he hs).imp (lc_go ho)
/-- a new list's value, frozen or a place -/
inductive Mk1 : (MC → ME) → Prop where
  | frz : Mk1 .frz
  | new : Mk1 .new
theorem mk1_go {f : MC → ME} (hf : Mk1 f) {m : MC} {hot : Option Hot} : ∀ σ H Q, tM (gm X P hot) W (sem call P x (f m)) σ H Q → tMl (gm X P hot) W (semC call P x m) σ H Q := by
  cases hf with
  | frz => exact frz_go
  | new => exact new_go
theorem r_mk1 {f : MC → ME} (hf : Mk1 f) {m : MC} {hot : Option Hot} (hm : PE X e (tMl (gm X P hot) W (semC call P x m))) : PE X e (tM (gm X P hot) W (sem call P x (f m))) := hm.imp (mk1_go hf)
/-- name = [.. for ..], on one row -/
theorem s_setLc {f : MC → ME} (hf : Mk1 f) {i : Nat} {y : Str} {py spos : Pos} {own : List (Str × Nat)} {t : MT} {it : MI} {cs : MEs} {ee : ME} (hc : X.calm = true) (hN : X.N.Nodup) (hy : X.N[i]? = some y) (hyl : X.env.scope.names.lookup y = some .local)
    (hsw : swapsWith (.ListComp elt [⟨tg, iter, ifs, 0⟩] scope pos) (some (.Name y py)) spos.line X.env = pure true) (hi : PI X tg iter (tMi (gm X P none) W (semI call P x it))) (ok : BlkOk X.N X.env.scope scope own)
    (ho : ∀ i ∈ t.slots, i ∈ own.map (·.2))
    (hg : ∀ (s : Shared) (H : Hp) (C : Addr) (cl : List (Str × Addr)) (fp : List Addr), PG (X.blk s H scope (compEnvC scope cl C X.env) fp) tg (gM (gm X P none) t))
    (ht : ∀ (s : Shared) (H : Hp) (C : Addr) (cl : List (Str × Addr)) (fp : List Addr), PTs (X.blk s H scope (compEnvC scope cl C X.env) fp) ifs (tMb (gm X P none) W0 (semT call P x cs)))
    (he : ∀ (s : Shared) (H : Hp) (C : Addr) (cl : List (Str × Addr)) (fp : List Addr), PE (X.blk s H scope (compEnvC scope cl C X.env) fp) elt (tM (gm X P none) W0 (sem call P x ee))) (hs : ∀ x, foldedSetIterable iter X.env x = pure x) :
    PS X (.Assign [.Name y py] (.ListComp elt [⟨tg, iter, ifs, 0⟩] scope pos) spos) (tMs (gm X P none) W (ssem call P (.set (.nm i) (f (.lc (own.map (·.2)) t it cs ee))) x)) :=
  (ps_setLc hc hN hy hyl hsw hi ok hg ht he hs).imp fun D σ H q => lc_go ho σ H _ (mk1_go hf σ H _ (set_go (fun _ z => by cases z) D σ H q))
end
end Mi
end
section
set_option Elab.async false
set_option linter.all false
set_option maxRecDepth 100000
set_option maxHeartbeats 2000000
namespace Mi
open PySem PySem.Spec PySem.W PySem.Calls PyProof.Rows PySem.HandSPX L2

theorem one_size (v : Value) : [v].length ≤ sizeLine := by
  rw [sizeLine_eq]
  exact (by decide : 1 ≤ 16777216)
/-- a method's call, on one row -/
theorem mc_plain {o : Expr} {name : Str} {apos pos : Pos} {args : List Expr} {env : PySem.Env} (hline : (apos.endLine == pos.line) = true) (hform : methodCallForm args.length (backTo pos (starEach args env)) [] = true) :
    eval (.Call (.Attribute o name apos) args [] pos) env = (do
      let ov ← attributeBase o name env (eval o env)
      standAt apos.atName
      let (f, first) ← holding [ov] (getMethod ov name (do return (← importBound o env).getD true))
      callWith pos f first (backTo pos (starEach args env)) []) := by
  rw [arm_eval_Call]
  have hpos : methodCallPos true o env apos pos = pure pos := by unfold methodCallPos; simp [hline]
  have hform' : methodCallForm (args.length + ([] : List Keyword).length) (backTo pos (starEach args env)) (backToKw pos (keywordEach [] env)) = true := hform
  unfold methodCall
  rw [hform', hpos]
  rfl
/-- self.f = f, for each -/
inductive Keeps : List Str → List Stmt → Prop where
  | nil : Keeps [] []
  | cons {f : Str} {fs : List Str} {q1 q2 q3 q4 : Pos} {b : List Stmt} : Keeps fs b → Keeps (f :: fs) (.Assign [.Attribute (.Name "self" q1) f q2] (.Name f q3) q4 :: b)
/-- an error class of the program's own: its __init__ says super().__init__(a text) and keeps what it is given -/
structure SupC (K : Frag) (mg : Str → Option Value) (prog : Program) (C : Addr) (fs : List Str) : Prop where
  cls : ∃ nm q N bs bm sn sub ab col dd k0 k1 k2 k3 k5, K.lookup C = some (excClassObj nm q C N bs bm true sn sub ab col dd k0 k1 k2 k3 k5 "ValueError.__new__") ∧ refsVE bm = true
  sa : findIn K (.ref C) "__setattr__" = some (some (.builtin "object.__setattr__"))
  no : ∀ f ∈ fs, findIn K (.ref C) f = some none
  init : ∃ (fI D cc cda : Addr) (m qual : Str) (params : Arguments) (scope : Scope) (dV kV doc pm ct oc cl ccl : Value) (an od cld cdd : Option Addr) (osl csl ccs : Array (Option Value)) (vs : Array Value) (file : Str) (tf : Tok) (cdD : ClassData) (j : Nat) (p0 p1 p2 p3 p4 p5 : Pos) (body : List Stmt) (ar : Arg),
    (p2.endLine == p4.line) = true ∧ Keeps fs body ∧ findIn K (.ref C) "__init__" = some (some (.ref fI)) ∧ typeIn K (.ref fI) = some (.type "function") ∧
    K.lookup fI = some ⟨oc, od, .func (ksFn "__init__" qual params (.Expr (.Call (.Attribute (.Call (.Name "super" p0) [] [] p1) "__init__" p2) [.Constant (.str m) j p3] [] p4) p5 :: body) scope dV kV doc pm an (.ref cda) ct cc), osl⟩ ∧
    codeIn K (.ref cda) qual = true ∧ L2.Binds K (ksFn "__init__" qual params (.Expr (.Call (.Attribute (.Call (.Name "super" p0) [] [] p1) "__init__" p2) [.Constant (.str m) j p3] [] p4) p5 :: body) scope dV kV doc pm an (.ref cda) ct cc) (("self" : Str) :: fs) [] ∧
    (params.posonlyargs ++ params.args).head? = some ar ∧ ar.arg = "self" ∧ K.lookup cda = some ⟨ccl, cdd, .fields vs, ccs⟩ ∧ vs[2]? = some (.str file tf) ∧ ((prog.main.file : Str) == file) = true ∧
    K.lookup cc = some ⟨cl, cld, .cell (some (.ref D)), csl⟩ ∧ clsIn K D = some cdD ∧ mroIn K C (.ref D) = some true ∧ ks_superIn K C D "__init__" = some (some (.builtin "ValueError.__init__")) ∧
    scope.names.lookup ("super" : Str) = some .globalImplicit ∧ scope.names.lookup ("__class__" : Str) = some .free ∧ (∀ y ∈ ("self" : Str) :: fs, scope.names.lookup y = some .local ∧ (y == ("__debug__" : Str)) = false) ∧ (∀ x ∈ scope.names, x.2 ≠ .cell) ∧
    scope.kind = .function ∧ scope.isCoroutine = false ∧ scope.isGenerator = false
  mgS : mg "super" = none
  top : (prog.main.scope.names.lookup ("super" : Str)).isSome = false
  any : nsIn K cStatics "thirdparty.any" = some none
  sub : subIn K (.ref C) (.type "ValueError") = some true
  exi : excInitIn K C [.type "ValueError", .type "Exception", .type "BaseException", .type "object"] "ValueError.__new__" = true
  uniq : (("self" : Str) :: fs).Nodup
section
variable {prog : Program} {w : World} {A : Around} {E : Value → Shared → Prop} {R : Result → Shared → Prop} {s : Shared} {K : Frag} {mg : Str → Option Value} {C : Addr} {fs : List Str}
def puts (m0 : Str → Option Value) : List (Str × Value) → Str → Option Value
  | [] => m0
  | p :: r => puts (fun y => if y = p.1 then some p.2 else m0 y) r
theorem within_keep {m0 : Str → Option Value} {nl : List Str} {f : Str} {v : Value} (h : Within m0 nl) : Within (fun y => if y = f then some v else m0 y) (f :: nl) := Within.cons f v h
/-- a further field kept, and the rest -/
theorem keeps_old {env : PySem.Env} {body : List Stmt} {x dx : Addr} {fv : Array Value} {cd : ClassData} {m : Str → Option Value} {Q : Flow → Shared → Prop} (kb : Keeps fs body) (hk : env.scope.kind = .function)
    (hcd : clsIn K C = some cd) (hm : refsVE cd.mro = true) (hh : cd.hasDict = true) (hsa : findIn K (.ref C) "__setattr__" = some (some (.builtin "object.__setattr__"))) (hself : m "self" = some (.ref x)) (hks : env.kindOf "self" = some .local) (hxd : x ≠ dx) (hLd : env.locals ≠ dx) (hKd : K.lookup dx = none) :
    ∀ {us : List Value} {m0 : Str → Option Value} {nl : List Str} {s : Shared}, us.length = fs.length → K.In s.heap → s.heap.Ns env.locals m → (∀ p ∈ fs.zip us, m p.1 = some p.2) → (∀ f ∈ fs, env.kindOf f = some .local ∧ (f == ("__debug__" : Str)) = false) → (∀ f ∈ fs, findIn K (.ref C) f = some none) →
      s.heap.get? x = some { cls := .ref C, dict := some dx, data := .fields fv } → s.heap.Ns1 dx m0 → Within m0 nl → nl.length + fs.length ≤ 1000 →
      (∀ h' tk, (∀ b o, b ≠ dx → s.heap.get? b = some o → h'.get? b = some o) → h'.Ns1 dx (puts m0 (fs.zip us)) → Q .next { s with heap := h', toks := tk }) → wpAny (model prog w) A (execs body env) Q E s := by
  induction kb with
  | nil =>
    intro us m0 nl s hl X hn hv hf hno hx h1 hw hz hq
    exact wpAny_execs_nil (hq s.heap s.toks (fun _ _ _ e => e) h1)
  | @cons f fs q1 q2 q3 q4 b kb ih =>
    intro us m0 nl s hl X hn hv hf hno hx h1 hw hz hq
    cases us with
    | nil => cases hl
    | cons u us =>
      have hfv := hv (f, u) (by simp)
      obtain ⟨hkf, hdf⟩ := hf f List.mem_cons_self
      refine wpAny_execs_cons (plainObj_wpAny_Assign_Attribute ?_ (by rfl))
      refine wpAny_Name (wpAny_loadName_local hk hkf hn hfv ?_) hdf
      refine wpAny_Name (wpAny_loadName_local hk hks hn hself ?_) (by decide)
      obtain ⟨od, _, _, hod, _⟩ := h1
      have h1 : s.heap.Ns1 dx m0 := ⟨od, _, _, hod, by assumption⟩
      obtain ⟨hp, g, d, t, os⟩ := s
      refine set_plain X (ox := { cls := .ref C, dict := some dx, data := .fields fv }) (od := some od) ⟨hx, rfl, rfl, hod⟩ hsa ?_
      refine OEX.osa_old X hx h1 hw (by simp at hz ⊢; omega) hcd hm hh (hno f List.mem_cons_self) fun h' tk' k hn' => ?_
      show wpAny _ _ (execs b env) _ _ _
      have X' : K.In h' := fun a o e => k a o (fun z => by rw [z, hKd] at e; cases e) (X a o e)
      refine ih (us := us) (m0 := fun y => if y = f then some u else m0 y) (nl := f :: nl) (s := ⟨h', g, d, tk', os⟩) (by simpa using hl) X' (hn.at fun o q => k _ o hLd q) (fun p hp => hv p (by simp [hp])) (fun y hy => hf y (List.mem_cons_of_mem _ hy)) (fun y hy => hno y (List.mem_cons_of_mem _ hy)) (k _ _ hxd hx) hn' (within_keep hw) (by simp at hz ⊢; omega) ?_
      intro h'' tk'' k' hn''
      exact hq h'' tk'' (fun b o hb e => k' b o hb (k b o hb e)) hn''
theorem rev_lookup {ps : List (Str × Value)} (nd : (ps.map (·.1)).Nodup) {p : Str × Value} (h : p ∈ ps) : ps.reverse.lookup p.1 = some p.2 := by
  induction ps with
  | nil => cases h
  | cons q ps ih =>
    rw [List.reverse_cons, List.lookup_append]
    rw [List.map_cons, List.nodup_cons] at nd
    rcases List.mem_cons.mp h with rfl | h
    · have : ps.reverse.lookup p.1 = none := by
        rw [List.lookup_eq_none_iff]
        intro r hr
        rw [bne_iff_ne]
        exact fun z => nd.1 (by rw [z]; exact List.mem_map_of_mem (List.mem_reverse.mp hr))
      rw [this]
      show List.lookup p.1 [p] = some p.2
      rw [show [p] = [(p.1, p.2)] from rfl, List.lookup_cons_self]
    · rw [ih nd.2 h]
      rfl
/-- __init__ of such a class, run on a fresh exception -/
theorem sup_init (T : SupC K mg prog C fs) {fI x t0 : Addr} {us : List Value} {h₀ : Heap} (hfI : findIn K (.ref C) "__init__" = some (some (.ref fI))) (X₀ : K.In h₀) (k₀ : ∀ b o, h₀.get? b = some o → s.heap.get? b = some o) (hsz : h₀.objs.size ≤ s.heap.objs.size)
    (hg : s.heap.Ns mainGlobals mg) (hb : ∃ mb, s.heap.Ns builtinsNs mb ∧ ∀ x : Str, x ≠ "__name__" → mb x = bootBuiltins x) (hlim : s.heap.NoLimit) (hx : s.heap.get? x = some (excObj C t0 none .none)) (hx0 : h₀.get? x = none) (hroom : A.depth < recursionLimit) (hl : us.length = fs.length) (hl2 : fs.length ≤ 900)
    (hq : ∀ h' tk t1, (∀ b o, h₀.get? b = some o → h'.get? b = some o) → h₀.objs.size ≤ h'.objs.size →
      ((fs = [] ∧ h'.get? x = some (excObj C t1 none .none)) ∨ fs ≠ [] ∧ ∃ dx, h₀.objs.size ≤ dx ∧ dx ≠ x ∧ h'.get? x = some (excObj C t1 (some dx) .none) ∧ h'.Ns1 dx (puts (fun _ => none) (fs.zip us))) → R (.ok (.ret .none)) { s with heap := h', toks := tk }) :
    codeAny (model prog w) A (.call (.ref fI) ⟨.ref x :: us, []⟩) R s := by
  obtain ⟨fI', D, cc, cda, mt, qual, params, scope, dV, kV, doc, pm, ct, oc, cl, ccl, an, od, cld, cdd, osl, csl, ccs, vs, file, tf, cdD, j, p0, p1, p2, p3, p4, p5, body, ar, hline, kb, i1, i2, i3, i4, i5, i6, i7, i8, i9, i10, i11, i12, i13, i14, i15, i16, i17, i18, i19, i20, i21⟩ := T.init
  rw [hfI] at i1
  cases i1
  obtain ⟨nm, q, N, bs, bm, sn, sub, ab, col, dd, k0, k1, k2, k3, k5, hC, hbm⟩ := T.cls
  have hcl : clsIn K C = some { name := nm, bases := bs, mro := .ref C :: bm, ns := N, qualname := q, hasDict := true, slotNames := sn, subclasses := sub, abstract := ab, collection := col, hasDel := false } := by unfold clsIn; rw [hC] <;> rfl
  have X : K.In s.heap := X₀.keeps k₀
  have hnd : (((("self" : Str), Value.ref x) :: fs.zip us).map (·.1)).Nodup := by
    rw [List.map_cons, List.map_fst_zip (by omega)]
    exact T.uniq
  refine ks_codeAny_call_defAt (binds := (("self" : Str), Value.ref x) :: fs.zip us) hroom (X _ _ i3) rfl hlim (codeRec_of X i4) rfl ?_ i18 (fun y hy => ?_) (fun hL hns kL => ?_) i20 i21 i19
  · have := i5 s (.ref x :: us) X (by simp [hl])
    simpa using this
  · refine (i17 y.1 ?_).1
    rcases List.mem_cons.mp hy with rfl | hy
    · exact List.mem_cons_self
    · exact List.mem_cons_of_mem _ (List.of_mem_zip hy).1
  generalize hLs : s.heap.objs.size = L at hns
  have hxL : x ≠ L := by rw [← hLs]; exact Nat.ne_of_lt (Heap.lt_size hx)
  have F0 : Fr h₀ L hL (fun y => ((("self" : Str), Value.ref x) :: fs.zip us).reverse.lookup y) := ⟨hns, fun b o e => kL b o (k₀ b o e), by rw [← hLs]; exact hsz⟩
  have Nw : News h₀ L hL [(x, excObj C t0 none .none)] := fun p hp => by
    rw [List.mem_singleton] at hp
    subst hp
    exact ⟨kL _ _ hx, hxL, hx0⟩
  have hmx : (((("self" : Str), Value.ref x) :: fs.zip us).reverse).lookup ("self" : Str) = some (Value.ref x) := rev_lookup hnd (p := (("self" : Str), Value.ref x)) List.mem_cons_self
  obtain ⟨hself, _⟩ := i17 "self" List.mem_cons_self
  obtain ⟨oD, hD1, hD2⟩ : ∃ oD, K.lookup D = some oD ∧ oD.data = .cls cdD := by
    unfold clsIn at i12
    split at i12
    · rename_i c d cd' sl ho
      cases i12
      exact ⟨_, ho, rfl⟩
    · cases i12
  have XL : K.In hL := X.keeps kL
  obtain ⟨mb, hb1, hb2⟩ := hb
  have hint : interactive (callEnv (ksFn "__init__" qual params (.Expr (.Call (.Attribute (.Call (.Name "super" p0) [] [] p1) "__init__" p2) [.Constant (.str mt) j p3] [] p4) p5 :: body) scope dV kV doc pm an (.ref cda) ct cc) L fI) = false := by
    have : (callEnv (ksFn "__init__" qual params (.Expr (.Call (.Attribute (.Call (.Name "super" p0) [] [] p1) "__init__" p2) [.Constant (.str mt) j p3] [] p4) p5 :: body) scope dV kV doc pm an (.ref cda) ct cc) L fI).scope.kind = .function := i19
    simp [interactive, this]
  refine ks_wpAt_execs_cons (ks_wpAt_Expr_any (ks_wpAt_MethodCall ?_ (mc_plain hline rfl)) hint rfl)
  refine ks_wpAt_super_base (ar := ar) i15 i16 (by decide) rfl (XL _ _ i3) rfl i6 rfl (XL _ _ i8) rfl i9 i10 T.top ?_
  refine ks_loadName_global i19 i15 (loadGlobal_builtin (hg.keeps kL) T.mgS (hb1.keeps kL) ((hb2 _ (by decide)).trans (by kernel_rfl)) ⟨rfl, ?_⟩)
  refine wpAny_loadName_free i19 i16 rfl ⟨_, XL _ _ i11, rfl⟩ ?_
  refine wpAny_loadName_local i19 (by rw [i7]; exact hself) hns (by rw [i7]; exact hmx) ?_
  refine ks_wpAny_isType_cls (XL _ _ hD1) hD2 ⟨rfl, ?_⟩
  refine ks_wpAny_call_super (XL _ _ hD1) hD2 (kL _ _ hx) rfl (fun c z => nomatch z) (looks_mroIn XL i13) (fun h1 e1 k1 => ?_)
  obtain ⟨F1, N1, l1⟩ := ks_newsPush (s := { s with heap := hL }) F0 Nw rfl e1 k1
  refine kxs_method (s := { s with heap := h1, toks := _ }) kxs_ValueError F1 X₀ N1 List.mem_cons_self (InstAt.of_exc0 N1 (List.mem_cons_of_mem _ List.mem_cons_self)) T.any i14 T.sub (by decide) (fun u h2 F2 N2 l2 => ?_)
  refine kxs_callWith1 N2 List.mem_cons_self (spliced_more (Constant_str (spliced_none ⟨kxs_at N2 List.mem_cons_self, ?_⟩)) rfl) rfl rfl
  have ne1 : u ≠ x := Ne.symm (Nat.ne_of_lt (l2 (x, excObj C t0 none .none) (by simp)))
  have ne2 : hL.objs.size ≠ x := Ne.symm (Nat.ne_of_lt (l1 (x, excObj C t0 none .none) (by simp)))
  refine kxs_call F2 X₀ N2 F.excBase_ValueError T.exi List.mem_cons_self (.tail ne1 (.tail ne2 (.head fun _ z => nomatch z))) (one_size _) (fun t1 h3 F3 N3 l3 => ?_)
  have ex3 : h3.get? x = some (excObj C t1 none .none) := (N3 (x, excObj C t1 none .none) (by simp)).1
  have X3 : K.In h3 := X₀.keeps F3.keep
  have hLl : h₀.objs.size ≤ L := by rw [← hLs]; exact hsz
  have hKx : K.lookup x = none := by
    cases z : K.lookup x with
    | none => rfl
    | some o => have := X₀ _ _ z; rw [hx0] at this; cases this
  have hL3 : L < h3.objs.size := F3.ns.lt
  refine wpAt_of_wpAny ?_
  cases kb with
  | nil =>
    refine wpAny_execs_nil (hq h3 _ t1 F3.keep (Nat.le_trans hLl (Nat.le_of_lt hL3)) (.inl ⟨rfl, ex3⟩))
  | @cons f fs q1 q2 q3 q4 b kb =>
    cases us with
    | nil => cases hl
    | cons u' us =>
      have hm : ∀ p ∈ (f :: fs).zip (u' :: us), (((("self" : Str), Value.ref x) :: (f :: fs).zip (u' :: us)).reverse).lookup p.1 = some p.2 := fun p hp => rev_lookup hnd (List.mem_cons_of_mem _ hp)
      obtain ⟨hkf, hdf⟩ := i17 f (by simp)
      refine wpAny_execs_cons (plainObj_wpAny_Assign_Attribute ?_ (by rfl))
      refine wpAny_Name (wpAny_loadName_local i19 hkf F3.ns (hm (f, u') (by simp)) ?_) hdf
      refine wpAny_Name (wpAny_loadName_local i19 hself F3.ns hmx ?_) (by decide)
      refine set_plain X3 (ox := excObj C t1 none .none) (od := none) ⟨ex3, rfl, rfl, trivial⟩ T.sa ?_
      refine exc_osa X3 ex3 hcl (show refsVE (.ref C :: bm) = true from hbm) rfl (T.no f List.mem_cons_self) fun h4 tk4 dx k4 dn dne ex4 hn4 => ?_
      show wpAny _ _ (execs b _) _ _ _
      have hdx : ∀ {a : Addr} {o : Obj}, h3.get? a = some o → a ≠ dx := fun {a o} e => Nat.ne_of_lt (Nat.lt_of_lt_of_le (Heap.lt_size e) dn)
      have hKd : K.lookup dx = none := by
        cases z : K.lookup dx with
        | none => rfl
        | some o => exact absurd rfl (hdx (X3 _ _ z))
      have X4 : K.In h4 := fun a o e => k4 a o (fun z => by rw [z, hKx] at e; cases e) (X3 a o e)
      have ns4 : h4.Ns L _ := F3.ns.at fun o q => k4 _ o (Ne.symm hxL) q
      refine keeps_old (x := x) (dx := dx) (fv := _) (m := fun y => ((("self" : Str), Value.ref x) :: (f :: fs).zip (u' :: us)).reverse.lookup y) kb (by exact i19) hcl (show refsVE (.ref C :: bm) = true from hbm) rfl T.sa (by exact hmx) (by exact hself) (Ne.symm dne) (Nat.ne_of_lt (Nat.lt_of_lt_of_le hL3 dn)) hKd (us := us) (m0 := fun y => if y = f then some u' else none) (nl := [f]) (s := ⟨h4, _, _, tk4, _⟩) (by simpa using hl) X4 (by exact ns4)
        (fun p hp => hm p (by simp [hp])) (fun y hy => by exact i17 y (by simp [hy])) (fun y hy => T.no y (List.mem_cons_of_mem _ hy)) ex4 hn4 (fun y hy => by
          by_cases e : y = f
          · rw [e]; exact List.mem_cons_self
          · have hy' : (if y = f then some u' else none) ≠ none := hy
            rw [if_neg e] at hy'
            exact absurd rfl hy') (by simp at hl2 ⊢; omega) ?_
      intro h5 tk5 k5 hn5
      refine hq h5 tk5 t1 (fun a o e => k5 a o (hdx (F3.keep a o e)) (k4 a o (fun z => by rw [z, hx0] at e; cases e) (F3.keep a o e))) ?_ (.inr ⟨(fun z => nomatch z), dx, Nat.le_trans (Nat.le_trans hLl (Nat.le_of_lt hL3)) dn, dne, k5 _ _ (Ne.symm dne) ex4, hn5⟩)
      obtain ⟨oL, _, _, eL, _⟩ := ns4
      exact Nat.le_trans hLl (Nat.le_of_lt (Heap.lt_size (k5 _ _ (Nat.ne_of_lt (Nat.lt_of_lt_of_le hL3 dn)) eL)))
/-- such an exception made -/
theorem sup_made (T : SupC K mg prog C fs) {us : List Value} (X₀ : K.In s.heap) (hg : s.heap.Ns mainGlobals mg) (hb : ∃ mb, s.heap.Ns builtinsNs mb ∧ ∀ x : Str, x ≠ "__name__" → mb x = bootBuiltins x) (hlim : s.heap.NoLimit) (hroom : A.depth + 1 < recursionLimit) (hl : us.length = fs.length) (hl2 : fs.length ≤ 900)
    (hq : ∀ h' tk e t1, s.heap.objs.size ≤ e → (∀ b o, s.heap.get? b = some o → h'.get? b = some o) →
      ((fs = [] ∧ h'.get? e = some (excObj C t1 none .none)) ∨ fs ≠ [] ∧ ∃ dx, s.heap.objs.size ≤ dx ∧ dx ≠ e ∧ h'.get? e = some (excObj C t1 (some dx) .none) ∧ h'.Ns1 dx (puts (fun _ => none) (fs.zip us))) → R (.ok (.ret (.ref e))) { s with heap := h', toks := tk }) :
    codeAny (model prog w) A (.call (.ref C) ⟨us, []⟩) R s := by
  obtain ⟨nm, q, N, bs, bm, sn, sub, ab, col, dd, k0, k1, k2, k3, k5, hC, hbm⟩ := T.cls
  obtain ⟨fI, _, _, _, _, _, _, _, _, _, _, _, _, _, _, _, _, _, _, _, _, _, _, _, _, _, _, _, _, _, _, _, _, _, _, _, _, _, i1, i2, _⟩ := T.init
  obtain ⟨hp, g, dr, tk, os⟩ := s
  have k : ∀ b o, hp.get? b = some o → ((hp.push (kdv_tup us)).push (excO C hp.objs.size)).get? b = some o := fun b o e => Heap.get?_push_of_some _ (Heap.get?_push_of_some _ e)
  have hget : ((hp.push (kdv_tup us)).push (excO C hp.objs.size)).get? (hp.objs.size + 1) = some (excO C hp.objs.size) := by heap_get
  have hnone : hp.get? (hp.objs.size + 1) = none := by
    cases e : hp.get? (hp.objs.size + 1) with
    | none => rfl
    | some o => exact absurd (Nat.lt_of_succ_lt (Heap.lt_size e)) (Nat.lt_irrefl _)
  refine call_own F.excBase_ValueError (fun X => refsVE_contains X bm hbm) (X₀ _ _ hC) (looks_findIn X₀ i1) (fun self => bind_fn X₀ self i2) (by rw [hl, sizeLine_eq]; omega) ?_
  refine sup_init (s := ⟨(hp.push (kdv_tup us)).push (excO C hp.objs.size), g, dr, tk, os⟩) (h₀ := hp) T i1 X₀ k (by simp only [Heap.size_push]; omega) (hg.keeps k) (by obtain ⟨mb, h1, h2⟩ := hb; exact ⟨mb, h1.keeps k, h2⟩) (hlim.keeps k) hget hnone ?_ hl hl2 fun h' tk' t1 k' _ hd => ?_
  · show A.depth + 1 < recursionLimit
    exact hroom
  · refine ⟨rfl, hq h' tk' (hp.objs.size + 1) t1 (Nat.le_succ _) k' ?_⟩
    exact hd
end
theorem puts_rel : ∀ {fs : List Str} {vs : List V} {us : List Value} {m0 : Str → Option Value}, fs.Nodup → Vals vs us → vs.length = fs.length → ∀ f, (f ∈ fs ∧ RelO ((fs.zip vs).lookup f) (puts m0 (fs.zip us) f)) ∨ (f ∉ fs ∧ (fs.zip vs).lookup f = none ∧ puts m0 (fs.zip us) f = m0 f)
  | [], _, _, _, _, _, _, f => .inr ⟨by simp, rfl, rfl⟩
  | g :: fs, [], _, _, _, _, hl, _ => by cases hl
  | g :: fs, v :: vs, _, m0, hn, .cons (b := u) (l₂ := us) r rr, hl, f => by
    rw [List.nodup_cons] at hn
    have ih := puts_rel (m0 := fun y => if y = g then some u else m0 y) hn.2 rr (by simpa using hl) f
    show (f ∈ g :: fs ∧ RelO (((g, v) :: fs.zip vs).lookup f) (puts (fun y => if y = g then some u else m0 y) (fs.zip us) f)) ∨ (f ∉ g :: fs ∧ ((g, v) :: fs.zip vs).lookup f = none ∧ puts (fun y => if y = g then some u else m0 y) (fs.zip us) f = m0 f)
    by_cases e : f = g
    · subst e
      rcases ih with ⟨h1, _⟩ | ⟨_, _, h3⟩
      · exact absurd h1 hn.1
      · refine .inl ⟨List.mem_cons_self, ?_⟩
        rw [h3, List.lookup_cons_self, if_pos rfl]
        exact r
    · have e' : (f == g) = false := by simpa using e
      rw [List.lookup_cons, e']
      rcases ih with ⟨h1, h2⟩ | ⟨h1, h2, h3⟩
      · exact .inl ⟨List.mem_cons_of_mem _ h1, h2⟩
      · exact .inr ⟨fun z => (List.mem_cons.mp z).elim e h1, h2, by rw [h3, if_neg e]⟩
section
variable {X : Cx} {C : Addr} {fs : List Str}
/-- the exception made, for a raise -/
def tSup (C : Addr) (fs : List Str) : List V → Hp → XK → Prop := fun vs H Q => vs.length = fs.length ∧ (fs = [] → Q (.ref C) none H) ∧ (fs ≠ [] → ∀ d, H d = none → Q (.ref C) (some d) (upd H d (.xd (fs.zip vs))))
theorem sup_end {k : Nat} {pins : List (Addr × Obj)} {s : Shared} {σ : L2.St} {H : Hp} {Q : XK} {vs : List V} {us : List Value} (T : SupC X.K X.mg X.prog C fs) (hr : Room k X.A) (r : Raises X (.ref C)) (hl2 : fs.length ≤ 900) (I : Inv X pins σ H s) (rv : Vals vs us) (h : tSup C fs vs H Q) :
    wpAny (model X.prog X.w) X.A (call (.ref C) us) (MkP X pins σ Q) X.xe s := by
  obtain ⟨hl, hq0, hq1⟩ := h
  have hlu : us.length = fs.length := by rw [← hl, rv.length]
  have hlim := I.nolimit
  have hg : s.heap.Ns mainGlobals X.mg := I.mod.glob.keeps I.bk
  have hb : ∃ mb, s.heap.Ns builtinsNs mb ∧ ∀ x : Str, x ≠ "__name__" → mb x = bootBuiltins x := let ⟨mb, h1, h2⟩ := I.mod.blt; ⟨mb, h1.keeps I.bk, h2⟩
  have hK := I.kIn
  obtain ⟨hp, g, dr, tk, os⟩ := s
  refine wpAny_call (sup_made T hK hg hb hlim (by have := hr.dp; omega) hlu hl2 fun h' tk' e t1 he k hd => ?_)
  show MkP X pins σ Q (.ref e) ⟨h', g, dr, tk', os⟩
  obtain ⟨G', g1, g2⟩ := restrict h' fun b => decide (b ≠ e)
  have gk : ∀ b, b ≠ e → G'.get? b = h'.get? b := fun b hb => g1 b (decide_eq_true hb)
  have ge : G'.get? e = none := g2 e (by simp)
  have old : ∀ b o, hp.get? b = some o → G'.get? b = some o := fun b o q => (gk b (Nat.ne_of_lt (Nat.lt_of_lt_of_le (Heap.lt_size q) he))).trans (k b o q)
  have back : ∀ b o, G'.get? b = some o → h'.get? b = some o := fun b o q => by
    by_cases hb : b = e
    · rw [hb, ge] at q; cases q
    · exact (gk b hb).symm.trans q
  rcases hd with ⟨hf, hx⟩ | ⟨hf, dx, d1, d2, hx, hns⟩
  · have J : Inv X pins σ H ⟨G', g, dr, tk', os⟩ := I.kept (t' := tk') old
    exact ⟨e, _, _, ⟨G', g, dr, tk', os⟩, H, .ref C, none, rfl, J, back, ge, hx, ⟨rfl, rfl⟩, rfl, rfl, I.hok.fresh he, rfl, I.bare, r, hq0 hf⟩
  · have ob : ObjOk X.prog X.w (upd H dx (.xd (fs.zip vs))) G' dx (.xd (fs.zip vs)) :=
      ⟨_, hns.at (fun o q => (gk dx d2).trans q), fun f => by
        rcases puts_rel (m0 := fun _ => none) (List.nodup_cons.mp T.uniq).2 rv hl f with ⟨_, q⟩ | ⟨_, q1, q2⟩
        · exact q
        · rw [q1, q2]; trivial⟩
    have J : Inv X pins σ (upd H dx (.xd (fs.zip vs))) ⟨G', g, dr, tk', os⟩ := I.laid (t' := tk') old d1 ob
    refine ⟨e, _, _, ⟨G', g, dr, tk', os⟩, _, .ref C, some dx, rfl, J, back, ge, hx, ⟨rfl, rfl⟩, rfl, rfl, ?_, rfl, I.bare, r, hq1 hf dx (I.hok.fresh d1)⟩
    rw [upd_ne (Ne.symm d2)]
    exact I.hok.fresh he
theorem pmk_sup {k : Nat} {x : Str} {e : Expr} {es : List Expr} {ta : TA} {p pos : Pos} (T : SupC X.K X.mg X.prog C fs) (hr : Room k X.A) (r : Raises X (.ref C)) (hl2 : fs.length ≤ 900) (gC : X.mg x = some (.ref C)) (kC : keepIn X.K (.ref C) = true) (hg : Gl X x) (hdb : (x == ("__debug__" : Str)) = false) (ha : PA X (e :: es) ta)
    (he : starEach (e :: es) X.env = (false, eval e X.env) :: starEach es X.env) (hpl : (backTo pos (starEach es X.env)).any (·.1) = false) :
    PMk X (.Call (.Name x p) (e :: es) [] pos) (fun σ H Q => ta σ H fun vs H1 => tSup C fs vs H1 Q) := by
  intro pins s σ H Q I h
  refine wpAny_Call_Name_kw (ld_glob I hg gC ?_ hdb)
  refine callWith_K (h₀ := X.base) I.ok.mod.kin kC (thn (ha.run pos pins s σ H _ I h) fun us s1 hh => ?_) he hpl
  obtain ⟨vs, H1, I1, r1, q1⟩ := hh
  exact ⟨I1.kIn, sup_end T hr r hl2 I1 r1 q1⟩
theorem pmk_sup0 {k : Nat} {x : Str} {p pos : Pos} (T : SupC X.K X.mg X.prog C fs) (hr : Room k X.A) (r : Raises X (.ref C)) (hl2 : fs.length ≤ 900) (gC : X.mg x = some (.ref C)) (kC : keepIn X.K (.ref C) = true) (hg : Gl X x) (hdb : (x == ("__debug__" : Str)) = false) :
    PMk X (.Call (.Name x p) [] [] pos) (fun _ H Q => tSup C fs [] H Q) := by
  intro pins s σ H Q I h
  refine wpAny_Call_Name_kw (ld_glob I hg gC ?_ hdb)
  exact callWith_K0 I.kIn kC (sup_end T hr r hl2 I .nil h)
end
end Mi
end
section
set_option Elab.async false
set_option linter.all false
set_option maxRecDepth 100000
namespace Mi
open PySem PySem.Spec PyProof.Rows L2

/-- what the written part says of the error classes; own: those that are raised -/
structure ExcsG (X : Cx) (P : Prog) (own : List Nat) : Prop where
  mg : ∀ (c : Nat) (ei : EInfo), P.excs[c]? = some ei → ∃ C, X.mg ei.name = some (.ref C) ∧ XfC X.K C ∧ ExcC X.K C
  sup : ∀ c ∈ own, ∀ ei, P.excs[c]? = some ei → ∀ C, X.mg ei.name = some (.ref C) → SupC X.K X.mg X.prog C ei.fields ∧ PySem.W.keepIn X.K (.ref C) = true ∧ Raises X (.ref C) ∧ ei.fields.length ≤ 900
  no : ∀ (c : Nat) (ei : EInfo), P.excs[c]? = some ei → ∀ C, X.mg ei.name = some (.ref C) → ∀ (d : Nat) (ed : EInfo), P.excs[d]? = some ed → ∀ f ∈ ed.fields, PySem.W.findIn X.K (.ref C) f = some none
  exm : ∀ (c d : Nat) (ei ed : EInfo) (C D : Addr), P.excs[c]? = some ei → P.excs[d]? = some ed → X.mg ei.name = some (.ref C) → X.mg ed.name = some (.ref D) →
    PySem.W.exmOne X.K (.ref C) (.ref D) = some (ei.anc.contains d) ∧ PySem.W.kitOne X.K (.ref C) (.ref D) = some (ei.anc.contains d)
  val : ∀ (c : Nat) (ei : EInfo) (C : Addr), P.excs[c]? = some ei → X.mg ei.name = some (.ref C) → PySem.W.kitOne X.K (.ref C) (.type "ValueError") = some true
section
variable {X : Cx} {P : Prog} {hot : Option Hot} {W : WX} {call : Nat → List D → Hh → Res D} {x : Option Ex} {own : List Nat}
variable {e a b c tg o iter : Expr} {es : List Expr} {ss ss' : List Stmt} {st : Stmt} {pos p tpos pos' : Pos} {y : Str}
theorem zip_rep {K : PySem.W.Frag} {ρ : Pl} {H : Hp} : ∀ {fs : List Str} {ds : List D} {vs : List V}, Reps K ρ H ds vs → ∀ f d, (fs.zip ds).lookup f = some d → ∃ v, (fs.zip vs).lookup f = some v ∧ Rep K ρ H d v
  | [], _, _, _, _, _, e => by cases e
  | g :: fs, [], _, _, _, _, e => by cases e
  | g :: fs, d0 :: ds, _, r, f, d, e => by
    obtain ⟨v, q, rfl, r1, r2⟩ := r.cons_of
    rw [List.zip_cons_cons, List.lookup_cons] at e ⊢
    cases h : f == g with
    | true => rw [h] at e; cases e; exact ⟨v, rfl, r1⟩
    | false => rw [h] at e; exact zip_rep r2 f d e
theorem s_raise {k c : Nat} {ei : EInfo} {ees : MEs} (G : ExcsG X P own) (hci : P.excs[c]? = some ei) (ho : c ∈ own) (hr : Room k X.A) (hc : X.calm = true) (hg : Gl X ei.name) (hdb : (ei.name == ("__debug__" : Str)) = false) (tk : Takes X W) (ha : PA X (e :: es) (tMa (gm X P hot) W (semA call P x ees)))
    (he : starEach (e :: es) X.env = (false, eval e X.env) :: starEach es X.env) (hpl : (backTo pos (starEach es X.env)).any (·.1) = false) :
    PS X (.Raise (some (.Call (.Name ei.name p) (e :: es) [] pos)) none pos') (tMs (gm X P hot) W (ssem call P (.raise c ees) x)) := by
  obtain ⟨C, hC, _⟩ := G.mg c ei hci
  obtain ⟨T, hk, hR, hl2⟩ := G.sup c ho ei hci C hC
  refine (ps_raise hc tk (pmk_sup T hr hR hl2 hC hk hg hdb ha he hpl)).imp fun D σ H ⟨ρ, env, h, rh, re, p⟩ => ?_
  rw [ssem] at p
  refine ⟨ρ, env, h, rh, re, p.then re fun ds h1 ρ1 H1 x1 rh1 p1 vs rvs => ?_⟩
  rw [hci] at p1
  simp only at p1
  split at p1
  · rename_i hl
    refine ⟨by rw [rvs.length, hl], fun hf => ?_, fun hf d hd => ?_⟩
    · refine p1 σ _ _ ρ1 H1 .refl rh1 (re.mono x1) ⟨C, ei, hci, hC, rfl, .inl ⟨rfl, ?_⟩⟩
      rw [hf]
      rfl
    · have x2 := Ext.laid (o := HO.xd (ei.fields.zip vs)) rh1 hd
      refine p1 σ _ _ ρ1 _ x2 (rh1.laid hd) ((re.mono x1).mono x2) ⟨C, ei, hci, hC, rfl, .inr ⟨d, _, rfl, upd_same, rh1.new hd, fun f y q => ?_⟩⟩
      exact zip_rep (Reps.mono x2 _ rvs) f y q
  · exact False.elim p1
theorem s_raise0 {k c : Nat} {ei : EInfo} (G : ExcsG X P own) (hci : P.excs[c]? = some ei) (ho : c ∈ own) (hr : Room k X.A) (hc : X.calm = true) (hg : Gl X ei.name) (hdb : (ei.name == ("__debug__" : Str)) = false) (tk : Takes X W) :
    PS X (.Raise (some (.Call (.Name ei.name p) [] [] pos)) none pos') (tMs (gm X P hot) W (ssem call P (.raise c .nil) x)) := by
  obtain ⟨C, hC, _⟩ := G.mg c ei hci
  obtain ⟨T, hk, hR, hl2⟩ := G.sup c ho ei hci C hC
  refine (ps_raise hc tk (pmk_sup0 T hr hR hl2 hC hk hg hdb)).imp fun D σ H ⟨ρ, env, h, rh, re, p⟩ => ?_
  rw [ssem, semA] at p
  simp only [then_ok, hci] at p
  split at p
  · rename_i hl
    have hf : ei.fields = [] := List.length_eq_zero_iff.mp hl.symm
    refine ⟨hl, fun _ => ?_, fun z => absurd hf z⟩
    refine p σ _ _ ρ H .refl rh re ⟨C, ei, hci, hC, rfl, .inl ⟨rfl, ?_⟩⟩
    rw [hf]
    rfl
  · exact False.elim p

/-! ### the clause -/
theorem RH.cold {hot hot' : Option Hot} {ρ : Pl} {H : Hp} {h : Hh} (r : RH (gm X P hot) ρ H h) : RH (gm X P hot') ρ H h :=
  ⟨r.nd, r.len, fun i a o e1 e2 => by have := r.ob i a o e1 e2; cases o <;> exact this, r.sep, r.exs⟩
theorem RE.gone {t : Hot} {ρ : Pl} {H : Hp} {env : Env} {σ : L2.St} (r : RE (gm X P (some t)) ρ H env σ) (i : Nat) : RE (gm X P none) ρ H (env.set i none) (σ.set i none) :=
  ⟨by simp [r.len], fun j d q => by
    by_cases hj : j = i
    · subst hj
      by_cases hl : j < env.length
      · rw [List.getElem?_set_self hl] at q; cases q
      · rw [List.getElem?_eq_none (by simpa using hl)] at q; cases q
    · rw [List.getElem?_set_ne (Ne.symm hj)] at q ⊢
      exact r.get j d q, fun t ht => by cases ht⟩
theorem pss_ex {α : Type} {t : α → TS} (h : ∀ a, PSs X ss (t a)) : PSs X ss fun D σ H => ∃ a, t a D σ H := ⟨fun pins s σ H D I ⟨a, q⟩ => (h a).run pins s σ H D I q⟩
theorem s_try {c i : Nat} {ec : EInfo} {n : Str} {np : Pos} {b₀ : Stmt} {body suite : List Stmt} {sb su : MSs} (G : ExcsG X P own) (hci : P.excs[c]? = some ec) (hs : X.stack = X.env :: X.outer) (hf : X.env.frame = some X.env.locals) (hN : X.N.Nodup) (hi : X.N[i]? = some n) (hln : X.env.kindOf n = some .local)
    (hg : Gl X ec.name) (hdb : (ec.name == ("__debug__" : Str)) = false) (tk : Takes X W)
    (hb : ∀ (W' : WX) (pn : List (Addr × Obj)) (xe : Value → Shared → Prop), Takes (X.tr pn xe) W' → PassesOwn (model X.prog X.w) X.A X.env xe → PSs (X.tr pn xe) body (tMs (gm X P none) W' (ssems call P sb x)))
    (hsu : ∀ (e : Ex) (a : Addr) (oe : Obj) (cls : Value) (d : Option Addr) (pn : List (Addr × Obj)), Zc cls d oe → (∃ vs, oe.data = .fields vs) → PSs (X.suite a ((a, oe) :: pn)) (b₀ :: suite) (tMs (gm X P (some ⟨a, i, e, cls, d⟩)) W0 (ssems call P su (some e)))) :
    PS X (.Try body [.ExceptHandler (some (.Name ec.name np)) (some n) (b₀ :: suite) pos'] [] [] pos) (tMs (gm X P none) W (ssem call P (.tryx sb c i su) x)) := by
  obtain ⟨C, hC, _⟩ := G.mg c ec hci
  refine (ps_try_as (ts := fun a cls d => fun D σ H => ∃ e : Ex, tMs (gm X P (some ⟨a, i, e, cls, d⟩)) W0 (ssems call P su (some e)) D σ H) hs hf hN hi hln ⟨hg, hdb, .inl hC⟩ tk hb (fun a oe cls d pn hz hd => pss_ex fun e => hsu e a oe cls d pn hz hd)).imp fun D σ H ⟨ρ, env, h, rh, re, p⟩ => ?_
  refine ⟨ρ, env, h, rh, re, ?_⟩
  rw [ssem] at p
  cases er : ssems call P sb x env h with
  | nx env1 h1 => rw [er] at p; exact p
  | brk env1 h1 => rw [er] at p; exact p
  | ct env1 h1 => rw [er] at p; exact p
  | ret d h1 => rw [er] at p; exact p
  | stuck => rw [er] at p; exact p
  | exc e env1 h1 =>
    rw [er] at p
    intro σ' cls dd ρ' H' x' rh' re' rx
    obtain ⟨Ce, ei, k1, k2, k3, k4⟩ := id rx
    have k1' : P.excs[e.1]? = some ei := k1
    obtain ⟨m1, m2⟩ := G.exm e.1 c ei ec Ce C k1' hci k2 hC
    have hanc : ancOf P e c = ei.anc.contains c := by unfold ancOf; rw [k1']
    rw [k3]
    refine ⟨_, m1, fun hbt a ha => ?_, fun hbf => ?_⟩
    · simp only at p
      rw [hanc, hbt, if_pos rfl] at p
      split at p
      · rename_i hle
        have hil : i < σ'.length := by rw [← re'.len]; exact hle
        refine ⟨e, ρ', env1.set i none, h1, rh'.cold, ⟨by simp [re'.len], fun j d q => ?_, fun t ht => ?_⟩, ?_⟩
        · by_cases hj : j = i
          · subst hj
            rw [List.getElem?_set_self hle] at q
            cases q
          · rw [List.getElem?_set_ne (Ne.symm hj)] at q ⊢
            exact re'.get j d q
        · cases ht
          refine ⟨List.getElem?_set_self hil, List.getElem?_set_self hle, ?_⟩
          rw [← k3]
          exact rx
        · cases es : ssems call P su (some e) (env1.set i none) h1 with
          | nx env2 h2 => rw [es] at p; exact fun σ2 ρ2 H2 x2 rh2 re2 => p _ ρ2 H2 (x'.trans x2) rh2.cold (re2.gone i)
          | brk env2 h2 => rw [es] at p; exact fun σ2 ρ2 H2 x2 rh2 re2 => p _ ρ2 H2 (x'.trans x2) rh2.cold (re2.gone i)
          | ct env2 h2 => rw [es] at p; exact fun σ2 ρ2 H2 x2 rh2 re2 => p _ ρ2 H2 (x'.trans x2) rh2.cold (re2.gone i)
          | ret d h2 => rw [es] at p; exact fun v ρ2 H2 x2 rh2 r2 => p v ρ2 H2 (x'.trans x2) rh2.cold r2
          | exc e2 env2 h2 => rw [es] at p; exact False.elim p
          | stuck => rw [es] at p; exact False.elim p
      · exact False.elim p
    · simp only at p
      rw [hanc, hbf, if_neg (by decide)] at p
      rw [← k3]
      exact p σ' _ _ ρ' H' x' rh' re' rx
/-! ### within the suite -/
section
variable {ad C : Addr} {i : Nat} {ex : Ex} {cls : Value} {d : Option Addr} {oe : Obj} {pn : List (Addr × Obj)} {n : Str}
theorem pe_slot (hi : X.N[i]? = some n) (hv : Vis X.env.scope n) (hdb : (n == ("__debug__" : Str)) = false) (hcd : (n == ("__classdict__" : Str)) = false) : PE (X.suite ad ((ad, oe) :: pn)) (.Name n p) (L2.tVar i) := pe_var hi hv hdb hcd
/-- n.f, n the exception -/
theorem r_xf {f : Str} (G : ExcsG X P own) (hf : f ∈ (P.excs.map (·.fields)).flatten) (hz : Zc cls d oe) (hd : ∃ vs, oe.data = .fields vs) (hi : X.N[i]? = some n) (hv : Vis X.env.scope n) (hdb : (n == ("__debug__" : Str)) = false) (hcd : (n == ("__classdict__" : Str)) = false)
    (hb : attributeBase (.Name n p) f X.env (eval (.Name n p) X.env) = eval (.Name n p) X.env) :
    PE (X.suite ad ((ad, oe) :: pn)) (.Attribute (.Name n p) f pos) (tM (gm X P (some ⟨ad, i, ex, cls, d⟩)) W (sem call P (some ex) (.xf f))) := by
  refine ⟨fun pins s σ H Q I ⟨ρ, env, h, rh, re, q⟩ => ?_⟩
  obtain ⟨h1, _, C, ei, k1, k2, k3, k4⟩ := re.hot _ rfl
  obtain ⟨C', k5, T, _⟩ := G.mg ex.1 ei k1
  have k2' : X.mg ei.name = some (.ref C) := k2
  rw [k2'] at k5
  cases k5
  rw [sem] at q
  obtain ⟨y, ey, q⟩ := q.of rh
  obtain ⟨fs, hfs, hff⟩ := List.mem_flatten.mp hf
  obtain ⟨ed, hed, rfl⟩ := List.mem_map.mp hfs
  obtain ⟨dn, hdn⟩ := List.mem_iff_getElem?.mp hed
  refine (pe_xf T (G.no ex.1 ei k1 C k2 dn ed hdn f hff) hz hd (pe_slot hi hv hdb hcd) hb).run pins s σ H Q I ?_
  refine ⟨_, h1, rfl, k3, ?_⟩
  rcases k4 with ⟨_, k4⟩ | ⟨bb, fs, e1, e2, e3, k4⟩
  · rw [k4] at ey; cases ey
  · obtain ⟨v, e4, e5⟩ := k4 f y ey
    exact ⟨bb, fs, v, e1, e2, e4, q.ok rh v e5⟩
theorem call_isX {D : Addr} (C : ExcC X.K D) (hz : Zc (.ref D) d oe) (hf : ∃ vs, oe.data = .fields vs) :
    CallR (X.suite ad ((ad, oe) :: pn)) (.builtin "isinstance") fun xs H Q => (d = none ∨ ∃ b fs, d = some b ∧ H b = some (.xd fs)) ∧ rIsE X.K D ad xs H Q := by
  intro pins s σ H xs us Q I r ⟨h0, h⟩
  rcases h0 with h0 | ⟨bd, fs, h0, hb⟩
  · subst h0
    exact call_isE C hz hf pins s σ H xs us Q I r h
  · subst h0
    obtain ⟨c, cv, b, rfl, hcv, e, q⟩ := h
    obtain ⟨u1, u2, rfl, r1, r2⟩ := vals2 r
    cases r1
    have ec := hcv _ r2
    subst ec
    obtain ⟨hget, _⟩ := I.pin (ad, oe) (List.mem_append_left _ List.mem_cons_self)
    obtain ⟨vs, hv⟩ := hf
    obtain ⟨mA, hns, hr⟩ := (show ObjOk X.prog X.w H s.heap bd (.xd fs) from I.hok bd _ hb)
    obtain ⟨od, ho, hl⟩ := lookIn_ns hns
    have J : PySem.W.InstAt s.heap ad oe D (some od) := ⟨hget, hz.1, by unfold PySem.W.notCls; rw [hv] <;> rfl, by rw [hz.2]; exact ho⟩
    exact PySem.W.kia_one (PySem.W.kitx_exc (by obtain ⟨cd, hc, _⟩ := PySem.W.any_some C.hd; rw [hc]; rfl) C.hg C.hk C.hs C.ha C.hn C.ht C.hm) I.kIn J e (fun z => nomatch z) fun tk => ⟨.bl b, H, I.kept (t' := tk) fun _ _ z => z, rfl, q⟩
/-- isinstance(n, c), n the exception -/
theorem r_xis {k : Option Nat} {y : Str} {cv : Value} (G : ExcsG X P own) (hz : Zc cls d oe) (hd : ∃ vs, oe.data = .fields vs) (hi : X.N[i]? = some n) (hv : Vis X.env.scope n) (hdb : (n == ("__debug__" : Str)) = false) (hcd : (n == ("__classdict__" : Str)) = false)
    (hgi : Gl X "isinstance") (hmi : X.mg "isinstance" = none) {p1 p2 p3 : Pos} {v : V} (hc : PE (X.suite ad ((ad, oe) :: pn)) (.Name y p3) (L2.tC v)) (hcv : ∀ u, RelV v u → u = cv) (hk : match k with | none => cv = .type "ValueError" | some c => ∃ ec C, P.excs[c]? = some ec ∧ X.mg ec.name = some (.ref C) ∧ cv = .ref C)
    (he : starEach [.Name n p2, .Name y p3] X.env = (false, eval (.Name n p2) X.env) :: starEach [.Name y p3] X.env) (hpl : (backTo pos (starEach [.Name y p3] X.env)).any (·.1) = false) (he1 : starEach [.Name y p3] X.env = (false, eval (.Name y p3) X.env) :: starEach [] X.env) :
    PE (X.suite ad ((ad, oe) :: pn)) (.Call (.Name "isinstance" p1) [.Name n p2, .Name y p3] [] pos) (tM (gm X P (some ⟨ad, i, ex, cls, d⟩)) W (sem call P (some ex) (.xis [k]))) := by
  refine ⟨fun pins s σ H Q I ⟨ρ, env, h, rh, re, q⟩ => ?_⟩
  obtain ⟨h1, _, C, ei, k1, k2, k3, k4⟩ := re.hot _ rfl
  obtain ⟨C', k5, _, T⟩ := G.mg ex.1 ei k1
  have k1' : P.excs[ex.1]? = some ei := k1
  have k2' : X.mg ei.name = some (.ref C) := k2
  rw [k2'] at k5
  cases k5
  rw [sem] at q
  simp only [k1'] at q
  have k3' : cls = .ref C := k3
  subst k3'
  have ha : PA (X.suite ad ((ad, oe) :: pn)) [.Name n p2, .Name y p3] (tCons (L2.tVar i) (tCons (L2.tC v) tNil)) := pa_cons (pe_slot hi hv hdb hcd) (pa_cons hc pa_nil he1) he
  refine (pe_callB (call_isX T hz hd) hgi hmi (by kernel_rfl) ha (by decide) (by decide) he hpl).run pins s σ H Q I ?_
  refine ⟨_, h1, ?_⟩
  have hans : PySem.W.kitOne X.K (.ref C) cv = some ([k].any fun t => match t with | none => true | some c => ei.anc.contains c) := by
    cases k with
    | none => rw [hk]; simpa using G.val ex.1 ei C k1' k2'
    | some c =>
      obtain ⟨ec, C', e1, e2, e3⟩ := hk
      rw [e3]
      simpa using (G.exm ex.1 c ei ec C C' k1' e1 k2' e2).2
  refine ⟨?_, _, cv, _, rfl, hcv, hans, q.ok rh _ rep_bl⟩
  rcases k4 with ⟨k4, _⟩ | ⟨bb, fs, e1, e2, _⟩
  · exact .inl k4
  · exact .inr ⟨bb, fs, e1, e2⟩
end
end
end Mi
end
section
set_option Elab.async false
set_option linter.all false
set_option maxRecDepth 100000
namespace Mi
open PySem PySem.Spec PyProof.Rows L2

section
variable {X : Cx} {P : Prog} {hot : Option Hot} {W : WX} {call : Nat → List D → Hh → Res D} {x : Option Ex}
variable {e a b c o : Expr} {es : List Expr} {pos p apos : Pos} {y : Str}
theorem Bi.cases (b : Bi) : (∃ id, b.val = .builtin id) ∨ ∃ T, b.val = .type T := by cases b <;> first | exact .inl ⟨_, rfl⟩ | exact .inr ⟨_, rfl⟩
/-- a built-in function or type by its name -/
theorem pe_named {b : Bi} {r : List V → Hp → VK → Prop} {t : TA} (hc : CallR X b.val r) (hg : Gl X b.name) (hm : X.mg b.name = none) (ha : PA X (e :: es) t)
    (he : starEach (e :: es) X.env = (false, eval e X.env) :: starEach es X.env) (hpl : (backTo pos (starEach es X.env)).any (·.1) = false) : PE X (.Call (.Name b.name p) (e :: es) [] pos) (tCB r t) := by
  have h1 : b.name ≠ "__name__" := by cases b <;> decide
  have h2 : (b.name == ("__debug__" : Str)) = false := by cases b <;> decide
  rcases b.cases with ⟨id, h⟩ | ⟨T, h⟩
  · rw [h] at hc
    exact pe_callB hc hg hm (b.boot.trans (by rw [h])) ha h1 h2 he hpl
  · rw [h] at hc
    exact pe_callTy hc hg hm (b.boot.trans (by rw [h])) ha h1 h2 he hpl
theorem r_bi {b : Bi} {ees : MEs} (hc : X.calm = true) (hu : X.A.units + 66 < cLine) (hgu : X.A.guards = some []) (hg : Gl X b.name) (hm : X.mg b.name = none) (ha : PA X (e :: es) (tMa (gm X P hot) W (semA call P x ees)))
    (he : starEach (e :: es) X.env = (false, eval e X.env) :: starEach es X.env) (hpl : (backTo pos (starEach es X.env)).any (·.1) = false) : PE X (.Call (.Name b.name p) (e :: es) [] pos) (tM (gm X P hot) W (sem call P x (.bi b ees))) := by
  refine (pe_named (call_bi (P := P) (hot := hot) hc hu hgu b) hg hm ha he hpl).imp fun σ H Q ⟨ρ, env, h, rh, re, p⟩ => ?_
  rw [sem] at p
  refine ⟨ρ, env, h, rh, re, p.bind fun ds h1 ρ1 H1 x1 rh1 p1 vs rvs => ?_⟩
  obtain ⟨d, e1, p2⟩ := p1.of rh1
  exact ⟨ρ1, h1, ds, d, rh1, rvs, e1, fun w ρ2 H2 x2 rh2 rw' => p2 ρ2 H2 x2 rh2 w rw'⟩
/-- list(x), sorted(x): a list that is made -/
theorem call_mk {b : Bi} : CallR X b.val fun xs H Q => ∃ ρ h u v ds, RH (gm X P hot) ρ H h ∧ xs = [v] ∧ Rep X.K ρ H u v ∧ MC.bis b h u = some ds ∧ ∀ p vs, Reps X.K ρ H ds vs → H p = none → Q (.ref p) (upd H p (.lst vs)) := by
  intro pins s σ H xs us Q I rx ⟨ρ, h, u, v, ds, rh, ex, r1, e, k⟩
  subst ex
  cases b with
  | list =>
    have e1 : listD h u = some ds := e
    obtain ⟨a, ws, rfl, h1, q1⟩ := seq_at (Γ := gm X P hot) rh r1 (iter_seq e1)
    exact call_list_of pins s σ H _ us Q I rx ⟨a, ws, rfl, h1.imp (·.1) (·.1), fun l hl => k l ws q1 hl⟩
  | sorted =>
    have e1 : sortedD h u = some ds := e
    unfold sortedD at e1
    split at e1
    · rename_i ys e2
      obtain ⟨ns, e3, rfl⟩ := Option.map_eq_some_iff.mp e1
      obtain ⟨a, ws, rfl, h1, q1⟩ := own_at (Γ := gm X P hot) rh r1 e2
      have ew := q1.ints_of e3
      subst ew
      refine cr_sortedI pins s σ H _ us Q I rx ⟨a, ns, rfl, .inl (.inl h1), fun ns' p hp hs hq => ?_⟩
      have : ns' = sortI ns := sorted_unique (hp.trans (sortI_perm ns).symm) hs (sortI_sorted ns)
      subst this
      exact k p _ Reps.ints hq
    · cases e1
  | _ => simp only [MC.bis] at e; cases e
theorem c_bi {b : Bi} {ee : ME} (hg : Gl X b.name) (hm : X.mg b.name = none) (ha : PA X [e] (tMa (gm X P hot) W (semA call P x (.cons ee .nil))))
    (he : starEach [e] X.env = (false, eval e X.env) :: starEach [] X.env) (hpl : (backTo pos (starEach [] X.env)).any (·.1) = false) : PE X (.Call (.Name b.name p) [e] [] pos) (tMl (gm X P hot) W (semC call P x (.bi b ee))) := by
  refine (pe_named (call_mk (P := P) (hot := hot) (b := b)) hg hm ha he hpl).imp fun σ H Q ⟨ρ, env, h, rh, re, p⟩ => ?_
  rw [semC] at p
  refine ⟨ρ, env, h, rh, re, post_a1 p fun u ρ1 H1 h1 rh1 p1 vs rvs => ?_⟩
  obtain ⟨v, rfl, r1⟩ := reps1 rvs
  obtain ⟨ds, e1, p2⟩ := p1.of rh1
  exact ⟨ρ1, h1, u, v, ds, rh1, rfl, r1, e1, p2.ok rh1⟩

/-! ### isinstance -/
def Ty.name : Ty → String
  | .int => "int" | .bool => "bool" | .str => "str" | .tuple => "tuple" | .list => "list" | .dict => "dict"
theorem Ty.boot (t : Ty) : bootBuiltins (Str.ofString t.name) = some (.type t.name) := by cases t <;> decide +kernel
theorem isD_rep {ρ : Pl} {H : Hp} {h : Hh} (rh : RH (gm X P hot) ρ H h) {d : D} {v : V} (r : Rep X.K ρ H d v) {t : Ty} {k : Bool} (e : isD h t d = some k) : ∃ n, TyX X.K H v (.type n) ∧ kitB n t.name = some k ∧ ∀ t' k', isD h t' d = some k' → kitB n t'.name = some k' := by
  have key : ∀ n (f : Ty → Bool), (∀ t', isD h t' d = some (f t')) → (∀ t' : Ty, kitB n t'.name = some (f t')) → TyX X.K H v (.type n) → ∃ n, TyX X.K H v (.type n) ∧ kitB n t.name = some k ∧ ∀ t' k', isD h t' d = some k' → kitB n t'.name = some k' := fun n f h1 h2 h3 =>
    ⟨n, h3, (h2 t).trans ((h1 t).symm.trans e), fun t' k' e' => (h2 t').trans ((h1 t').symm.trans e')⟩
  cases d with
  | non => simp only [Rep] at r; subst r; exact key "NoneType" (fun _ => false) (fun _ => rfl) (fun t' => by cases t' <;> decide +kernel) (.base .non)
  | bl b => simp only [Rep] at r; subst r; exact key "bool" (fun t => t == .bool || t == .int) (fun _ => rfl) (fun t' => by cases t' <;> decide +kernel) (.base (.bl _))
  | int i => simp only [Rep] at r; subst r; exact key "int" (fun t => t == .int) (fun _ => rfl) (fun t' => by cases t' <;> decide +kernel) (.base (.int _))
  | str i => simp only [Rep] at r; subst r; exact key "str" (fun t => t == .str) (fun _ => rfl) (fun t' => by cases t' <;> decide +kernel) (.base (.str _))
  | tup ds =>
    simp only [Rep] at r
    obtain ⟨a, vs, rfl, q, _⟩ := r
    refine key "tuple" (fun t => t == .tuple) (fun _ => rfl) (fun t' => by cases t' <;> decide +kernel) ?_
    rcases q with ⟨q | ⟨_, q⟩, _⟩ | ⟨o, _, _, q, q2, _⟩
    · exact .base (.tup q)
    · exact .fTuple q
    · exact .kTuple q q2
  | lst ds =>
    simp only [Rep] at r
    obtain ⟨a, vs, rfl, q, _⟩ := r
    exact key "list" (fun t => t == .list) (fun _ => rfl) (fun t' => by cases t' <;> decide +kernel) (.base (.lst q.1))
  | ref i =>
    simp only [isD] at e
    split at e
    · rename_i xs hi
      obtain ⟨a, rfl, _, vs, q, _⟩ := rh.ref (Γ := gm X P hot) r hi
      exact key "list" (fun t => t == .list) (fun _ => by simp only [isD, hi]) (fun t' => by cases t' <;> decide +kernel) (.base (.lst q))
    · rename_i xs hi
      obtain ⟨a, rfl, _, vs, q, _⟩ := rh.ref (Γ := gm X P hot) r hi
      exact key "dict" (fun t => t == .dict) (fun _ => by simp only [isD, hi]) (fun t' => by cases t' <;> decide +kernel) (.base (.dK q))
    · cases e
  | scr ns => cases e
theorem pe_ty {t : Ty} (hg : Gl X (Str.ofString t.name)) (hm : X.mg (Str.ofString t.name) = none) : PE X (.Name (Str.ofString t.name) p) (L2.tC (.ty t.name)) :=
  pe_bltn hg hm t.boot rfl (by cases t <;> decide) (by cases t <;> decide)
theorem r_isi1 {t : Ty} {ee : ME} {p2 : Pos} (hg : Gl X "isinstance") (hm : X.mg "isinstance" = none) (hgt : Gl X (Str.ofString t.name)) (hmt : X.mg (Str.ofString t.name) = none) (he : PE X e (tM (gm X P hot) W (sem call P x ee)))
    (hs : starEach [e, .Name (Str.ofString t.name) p2] X.env = (false, eval e X.env) :: starEach [.Name (Str.ofString t.name) p2] X.env) (hpl : (backTo pos (starEach [.Name (Str.ofString t.name) p2] X.env)).any (·.1) = false)
    (hs1 : starEach [.Name (Str.ofString t.name) p2] X.env = (false, eval (.Name (Str.ofString t.name) p2) X.env) :: starEach [] X.env) :
    PE X (.Call (.Name "isinstance" p) [e, .Name (Str.ofString t.name) p2] [] pos) (tM (gm X P hot) W (sem call P x (.isi ee [t]))) := by
  have ha : PA X [e, .Name (Str.ofString t.name) p2] _ := pa_cons he (pa_cons (pe_ty (p := p2) hgt hmt) pa_nil hs1) hs
  refine (pe_callB call_isi hg hm (by kernel_rfl) ha (by decide) (by decide) hs hpl).imp fun σ H Q ⟨ρ, env, h, rh, re, p⟩ => ?_
  rw [sem] at p
  refine ⟨ρ, env, h, rh, re, p.bind fun u h1 ρ1 H1 x1 rh1 p1 v rv => ?_⟩
  obtain ⟨d, e1, p2⟩ := p1.of rh1
  obtain ⟨k, e2, rfl⟩ := Option.map_eq_some_iff.mp e1
  have e3 : isD h1 t u = some k := by
    simp only [isAnyD] at e2
    cases hk : isD h1 t u with
    | none => rw [hk] at e2; cases e2
    | some k' => rw [hk] at e2; simpa using e2
  obtain ⟨n, q1, q2, _⟩ := isD_rep rh1 rv e3
  exact ⟨v, .ty t.name, .type n, .type t.name, k, rfl, .ty _, q1, kit_ty q2, p2.ok rh1 _ rep_bl⟩
theorem r_isi2 {t t' : Ty} {ee : ME} {p2 p3 p4 : Pos} {kk : Nat} (hg : Gl X "isinstance") (hm : X.mg "isinstance" = none) (hgt : Gl X (Str.ofString t.name)) (hmt : X.mg (Str.ofString t.name) = none) (hgt' : Gl X (Str.ofString t'.name)) (hmt' : X.mg (Str.ofString t'.name) = none) (he : PE X e (tM (gm X P hot) W (sem call P x ee)))
    (hs : starEach [e, .Tuple [.Name (Str.ofString t.name) p2, .Name (Str.ofString t'.name) p3] kk p4] X.env = (false, eval e X.env) :: starEach [.Tuple [.Name (Str.ofString t.name) p2, .Name (Str.ofString t'.name) p3] kk p4] X.env) (hpl : (backTo pos (starEach [.Tuple [.Name (Str.ofString t.name) p2, .Name (Str.ofString t'.name) p3] kk p4] X.env)).any (·.1) = false)
    (hs1 : starEach [.Tuple [.Name (Str.ofString t.name) p2, .Name (Str.ofString t'.name) p3] kk p4] X.env = (false, eval (.Tuple [.Name (Str.ofString t.name) p2, .Name (Str.ofString t'.name) p3] kk p4) X.env) :: starEach [] X.env)
    (hs2 : starEach [.Name (Str.ofString t.name) p2, .Name (Str.ofString t'.name) p3] X.env = (false, eval (.Name (Str.ofString t.name) p2) X.env) :: starEach [.Name (Str.ofString t'.name) p3] X.env)
    (hs3 : starEach [.Name (Str.ofString t'.name) p3] X.env = (false, eval (.Name (Str.ofString t'.name) p3) X.env) :: starEach [] X.env) :
    PE X (.Call (.Name "isinstance" p) [e, .Tuple [.Name (Str.ofString t.name) p2, .Name (Str.ofString t'.name) p3] kk p4] [] pos) (tM (gm X P hot) W (sem call P x (.isi ee [t, t']))) := by
  have ht : PE X (.Tuple [.Name (Str.ofString t.name) p2, .Name (Str.ofString t'.name) p3] kk p4) _ := pe_tup (pa_cons (pe_ty (p := p2) hgt hmt) (pa_cons (pe_ty (p := p3) hgt' hmt') pa_nil hs3) hs2)
  have ha : PA X [e, .Tuple [.Name (Str.ofString t.name) p2, .Name (Str.ofString t'.name) p3] kk p4] _ := pa_cons he (pa_cons ht pa_nil hs1) hs
  refine (pe_callB call_isiT hg hm (by kernel_rfl) ha (by decide) (by decide) hs hpl).imp fun σ H Q ⟨ρ, env, h, rh, re, p⟩ => ?_
  rw [sem] at p
  refine ⟨ρ, env, h, rh, re, p.bind fun u h1 ρ1 H1 x1 rh1 p1 v rv => ?_⟩
  obtain ⟨d, e1, p2⟩ := p1.of rh1
  obtain ⟨k, e2, rfl⟩ := Option.map_eq_some_iff.mp e1
  simp only [isAnyD] at e2
  cases hk : isD h1 t u with
  | none => rw [hk] at e2; cases e2
  | some k1 =>
    cases hk' : isD h1 t' u with
    | none => rw [hk, hk'] at e2; cases e2
    | some k2 =>
      rw [hk, hk'] at e2
      have e3 : (k1 || k2) = k := by simpa using e2
      refine ⟨by show 2 ≤ sizeLine; decide, fun q hq => ?_⟩
      have x2 := Ext.laid (o := HO.tup [V.ty t.name, V.ty t'.name]) rh1 hq
      have rh2 : RH (gm X P hot) ρ1 _ h1 := rh1.laid (o := HO.tup [V.ty t.name, V.ty t'.name]) hq
      obtain ⟨n, q1, q2, q3⟩ := isD_rep rh2 (rv.mono x2) hk
      have q4 := q3 t' k2 hk'
      refine ⟨v, q, [.ty t.name, .ty t'.name], .type n, [.type t.name, .type t'.name], k, rfl, upd_same, .cons (.ty _) (.cons (.ty _) .nil), q1, ?_, (Post.later x2 p2).ok rh2 _ rep_bl⟩
      refine kitAny_cons (b := k1) (kit_ty q2) (fun h1 => kitAny_cons (b := k2) (kit_ty q4) (fun h2 => ?_) (fun h2 => ?_)) (fun h1 => ?_)
      · rw [h1, h2] at e3
        rw [← e3]
        rfl
      · rw [h2] at e3
        rw [← e3, Bool.or_true]
      · rw [h1] at e3
        rw [← e3, Bool.true_or]
end
end Mi
end
section
set_option Elab.async false
set_option linter.all false
set_option maxRecDepth 100000
namespace Mi
open PySem PySem.Spec PyProof.Rows L2

section
variable {X : Cx} {P : Prog} {hot : Option Hot} {W : WX} {call : Nat → List D → Hh → Res D} {x : Option Ex}
variable {e a b c o : Expr} {es : List Expr} {pos p apos cpos : Pos} {y : Str}
/-! ### methods of lists and dicts -/
def BM.name : BM → Str
  | .append => "append" | .pop => "pop" | .popAt => "pop" | .get => "get" | .getOr => "get" | .extend => "extend" | .bitLength => "bit_length" | .index => "index"
/-- a list's method, by values -/
def rLm (X : Cx) (P : Prog) (hot : Option Hot) (m : BM) : V → List V → Hp → VK → Prop := fun v vs H Q => ∃ ρ h u ds d h', RH (gm X P hot) ρ H h ∧ Rep X.K ρ H u v ∧ Reps X.K ρ H ds vs ∧ bmD h m u ds = some (d, h') ∧ ∀ w ρ' H', Ext ρ H ρ' H' → RH (gm X P hot) ρ' H' h' → Rep X.K ρ' H' d w → Q w H'
theorem lst_write {ρ : Pl} {H : Hp} {h : Hh} (rh : RH (gm X P hot) ρ H h) {i : Nat} {a : Addr} (ea : ρ.pl[i]? = some a) {xs : List D} {ws : List V} (r : Reps X.K ρ H xs ws) : Ext ρ H ρ (upd H a (.lst ws)) ∧ RH (gm X P hot) ρ (upd H a (.lst ws)) (h.set i (.lst xs)) := by
  have ew := Ext.write (o := HO.lst ws) rh ea
  exact ⟨ew, rh.write ea ⟨ws, upd_same, r.mono ew⟩⟩
theorem lm_append : MtR X "list.append" (rLm X P hot .append) := by
  intro pins s σ H v vs vv us Q I rx rv ⟨ρ, h, u, ds, d, h', rh, r, rs, e, k⟩
  cases u with
  | ref i =>
    match ds, e with
    | [y], e =>
      simp only [bmD] at e
      split at e
      · rename_i xs hi
        split at e
        · rename_i hl
          cases e
          obtain ⟨a, rfl, ea, ws, q, rw'⟩ := rh.ref (Γ := gm X P hot) r hi
          obtain ⟨z, rfl, rz⟩ := reps1 rs
          obtain ⟨x1, rh1⟩ := lst_write rh ea (rw'.append (.cons rz .nil))
          exact mt_append pins s σ H _ _ vv us Q I rx rv ⟨a, ws, z, rfl, rfl, q, by rw [rw'.length]; exact hl, k _ ρ _ x1 rh1 rep_non⟩
        · cases e
      · cases e
    | [], e => cases e
    | _ :: _ :: _, e => cases e
  | _ => simp only [bmD] at e; cases e
theorem lm_extend : MtR X "list.extend" (rLm X P hot .extend) := by
  intro pins s σ H v vs vv us Q I rx rv ⟨ρ, h, u, ds, d, h', rh, r, rs, e, k⟩
  cases u with
  | ref i =>
    match ds, e with
    | [y], e =>
      simp only [bmD] at e
      split at e
      · rename_i xs ys hi hy
        split at e
        · rename_i hl
          cases e
          obtain ⟨a, rfl, ea, ws, q, rw'⟩ := rh.ref (Γ := gm X P hot) r hi
          obtain ⟨z, rfl, rz⟩ := reps1 rs
          obtain ⟨b, zs, rfl, q2, rz'⟩ := own_at (Γ := gm X P hot) rh rz hy
          obtain ⟨x1, rh1⟩ := lst_write rh ea (rw'.append rz')
          exact mt_extend pins s σ H _ _ vv us Q I rx rv ⟨a, b, ws, zs, rfl, rfl, q, q2, by rw [rw'.length, rz'.length]; exact hl, k _ ρ _ x1 rh1 rep_non⟩
        · cases e
      · cases e
    | [], e => cases e
    | _ :: _ :: _, e => cases e
  | _ => simp only [bmD] at e; cases e
theorem lm_pop : MtR X "list.pop" (rLm X P hot .pop) := by
  intro pins s σ H v vs vv us Q I rx rv ⟨ρ, h, u, ds, d, h', rh, r, rs, e, k⟩
  cases u with
  | ref i =>
    match ds, e with
    | [], e =>
      simp only [bmD] at e
      split at e
      · rename_i xs hi
        split at e
        · rename_i y hl
          cases e
          obtain ⟨a, rfl, ea, ws, q, rw'⟩ := rh.ref (Γ := gm X P hot) r hi
          obtain ⟨z, ez, rz⟩ := rw'.get hl
          obtain ⟨x1, rh1⟩ := lst_write rh ea rw'.dropLast
          have ev := rs.nil_of
          subst ev
          exact mt_pop pins s σ H _ _ vv us Q I rx rv ⟨a, ws, z, rfl, rfl, q, by rw [rw'.length]; exact ez, k _ ρ _ x1 rh1 (rz.mono x1)⟩
        · cases e
      · cases e
    | _ :: _, e => simp only [bmD] at e; cases e
  | _ => simp only [bmD] at e; cases e
theorem lm_popAt : MtR X "list.pop" (rLm X P hot .popAt) := by
  intro pins s σ H v vs vv us Q I rx rv ⟨ρ, h, u, ds, d, h', rh, r, rs, e, k⟩
  cases u with
  | ref i =>
    match ds, e with
    | [y], e =>
      cases y with
      | int n =>
        simp only [bmD] at e
        split at e
        · rename_i xs hi
          split at e
          · rename_i hb
            split at e
            · rename_i j hj
              split at e
              · rename_i y hl
                cases e
                obtain ⟨a, rfl, ea, ws, q, rw'⟩ := rh.ref (Γ := gm X P hot) r hi
                obtain ⟨z, ez, rz⟩ := rw'.get hl
                obtain ⟨w, rfl, rw2⟩ := reps1 rs
                simp only [Rep] at rw2
                subst rw2
                obtain ⟨x1, rh1⟩ := lst_write rh ea (rw'.eraseIdx j)
                exact mt_popAt pins s σ H _ _ vv us Q I rx rv ⟨a, ws, n, j, z, rfl, rfl, q, hb.1, hb.2, by rw [rw'.length]; exact hj, ez, k _ ρ _ x1 rh1 (rz.mono x1)⟩
              · cases e
            · cases e
          · cases e
        · cases e
      | _ => simp only [bmD] at e; cases e
    | [], e => simp only [bmD] at e; cases e
    | _ :: _ :: _, e => simp only [bmD] at e; cases e
  | _ => simp only [bmD] at e; cases e
theorem lm_index (hu : X.A.units + 65 < cLine) : MtR X "list.index" (rLm X P hot .index) := by
  intro pins s σ H v vs vv us Q I rx rv ⟨ρ, h, u, ds, d, h', rh, r, rs, e, k⟩
  match ds, e with
  | [y], e =>
    have e' : (indexD h u y).map (fun (j : Nat) => (D.int (j : Int), h)) = some (d, h') := by cases u <;> exact e
    obtain ⟨j, ej, e2⟩ := Option.map_eq_some_iff.mp e'
    cases e2
    unfold indexD at ej
    split at ej
    · rename_i zs z e1 e2
      split at ej
      · rename_i hs
        obtain ⟨w, rfl, rw'⟩ := reps1 rs
        have d1 := rd_dp (Γ := gm X P hot) rh r e1
        have d2 := rd_dp (Γ := gm X P hot) rh rw' e2
        obtain ⟨a, rfl⟩ : ∃ a, v = V.ref a := by
          cases d1
          exact ⟨_, rfl⟩
        obtain ⟨h1, h2, h3⟩ := List.findIdx?_eq_some_iff_getElem.mp ej
        refine mt_indexD hu pins s σ H _ _ vv us Q I rx rv ⟨a, w, z, zs, j, zs[j], rfl, rfl, d1, d2, hs.1, hs.2, List.getElem?_eq_getElem h1, h2, fun m z' hm hz => ?_, k _ ρ H .refl rh rep_int⟩
        have hml : m < zs.length := by omega
        rw [List.getElem?_eq_getElem hml] at hz
        cases hz
        have := h3 m hm
        simpa using this
      · cases ej
    · cases ej
  | [], e => cases u <;> cases e
  | _ :: _ :: _, e => cases u <;> cases e
theorem lm_ty {ρ : Pl} {H : Hp} {h : Hh} (rh : RH (gm X P hot) ρ H h) {u : D} {v : V} (r : Rep X.K ρ H u v) {m : BM} (hm : m = .append ∨ m = .pop ∨ m = .popAt ∨ m = .extend ∨ m = .index) (e : bmT h m u = true) : tyV X.K "list" v H := by
  cases u with
  | lst ds =>
    simp only [Rep] at r
    obtain ⟨a, vs, rfl, t, _⟩ := r
    exact .inl ⟨rfl, vs, t.sq⟩
  | ref i =>
    simp only [bmT] at e
    split at e
    · rename_i xs hi
      obtain ⟨a, rfl, ea, ws, q, rw'⟩ := rh.ref (Γ := gm X P hot) r hi
      exact .inl ⟨rfl, ws, .inl (.inl q)⟩
    · rcases hm with rfl | rfl | rfl | rfl | rfl <;> cases e
    · cases e
  | int i => rcases hm with rfl | rfl | rfl | rfl | rfl <;> cases e
  | _ => cases e
/-- o.m(e, ..), o a list -/
theorem r_lm {m : BM} {id : String} {eo : ME} {ees : MEs} (hm : m = .append ∨ m = .pop ∨ m = .popAt ∨ m = .extend ∨ m = .index) (slot : Slot "list" m.name id) (hty : typeOf (.builtin id) = pure (.type "method_descriptor")) (hr : MtR X id (rLm X P hot m)) (ho : PE X o (tM (gm X P hot) W (sem call P x eo))) (ha : PA X (e :: es) (tMa (gm X P hot) W (semA call P x ees)))
    (hbase : attributeBase o m.name X.env (eval o X.env) = eval o X.env)
    (hfew : ((backTo cpos (starEach (e :: es) X.env)).all (fun x => !x.1) && (backToKw cpos (keywordEach [] X.env)).all (fun x => x.1.isSome)
      && decide ((e :: es).length + ([] : List Keyword).length + (if ([] : List Keyword).isEmpty then 0 else 1) < 30)) = true)
    (hline : (apos.endLine == cpos.line) = true) (hs : starEach (e :: es) X.env = (false, eval e X.env) :: starEach es X.env) (hplain : (backTo cpos (starEach es X.env)).any (·.1) = false) :
    PE X (.Call (.Attribute o m.name apos) (e :: es) [] cpos) (tM (gm X P hot) W (sem call P x (.bm eo m ees))) := by
  refine (pe_bm F.plainAttrs_list slot hty hr ho ha hbase hfew hline hs hplain).imp fun σ H Q ⟨ρ, env, h, rh, re, p⟩ => ?_
  rw [sem] at p
  refine ⟨ρ, env, h, rh, re, p.bind fun u h1 ρ1 H1 x1 rh1 p1 v rv => ?_⟩
  split at p1
  · rename_i hT
    refine ⟨lm_ty rh1 rv hm hT, ρ1, env, h1, rh1, re.mono x1, p1.bind fun ds h2 ρ2 H2 x2 rh2 p2 vs rvs => ?_⟩
    cases eb : bmD h2 m u ds with
    | none => rw [eb] at p2; exact False.elim p2
    | some r =>
      rw [eb] at p2
      exact ⟨ρ2, h2, u, ds, r.1, r.2, rh2, rv.mono x2, rvs, eb, fun w ρ3 H3 x3 rh3 rw' => p2 ρ3 H3 x3 rh3 w rw'⟩
  · exact False.elim p1
/-- o.pop() -/
theorem r_lm0 {eo : ME} (ho : PE X o (tM (gm X P hot) W (sem call P x eo))) (hbase : attributeBase o "pop" X.env (eval o X.env) = eval o X.env) (hline : (apos.endLine == cpos.line) = true) :
    PE X (.Call (.Attribute o "pop" apos) [] [] cpos) (tM (gm X P hot) W (sem call P x (.bm eo .pop .nil))) := by
  refine (pe_bm0 F.plainAttrs_list F.slot_list_pop F.type_list_pop (lm_pop (P := P) (hot := hot)) ho hbase hline).imp fun σ H Q ⟨ρ, env, h, rh, re, p⟩ => ?_
  rw [sem] at p
  refine ⟨ρ, env, h, rh, re, p.bind fun u h1 ρ1 H1 x1 rh1 p1 v rv => ?_⟩
  split at p1
  · rename_i hT
    rw [semA, bind_ok] at p1
    refine ⟨lm_ty rh1 rv (.inr (.inl rfl)) hT, ?_⟩
    cases eb : bmD h1 .pop u [] with
    | none => rw [eb] at p1; exact False.elim p1
    | some r =>
      rw [eb] at p1
      exact ⟨ρ1, h1, u, [], r.1, r.2, rh1, rv, Reps.nil, eb, fun w ρ3 H3 x3 rh3 rw' => p1 ρ3 H3 x3 rh3 w rw'⟩
  · exact False.elim p1
/-- n.bit_length() -/
theorem r_bits {eo : ME} (ho : PE X o (tM (gm X P hot) W (sem call P x eo))) (hbase : attributeBase o "bit_length" X.env (eval o X.env) = eval o X.env) (hline : (apos.endLine == cpos.line) = true) :
    PE X (.Call (.Attribute o "bit_length" apos) [] [] cpos) (tM (gm X P hot) W (sem call P x (.bm eo .bitLength .nil))) := by
  refine (pe_bits ho hbase hline).imp fun σ H Q ⟨ρ, env, h, rh, re, p⟩ => ?_
  rw [sem] at p
  refine ⟨ρ, env, h, rh, re, p.bind fun u h1 ρ1 H1 x1 rh1 p1 v rv => ?_⟩
  split at p1
  · rename_i hT
    rw [semA, bind_ok] at p1
    cases u with
    | int i =>
      simp only [Rep] at rv
      subst rv
      exact ⟨i, rfl, p1.ok rh1 _ rep_int⟩
    | _ => exact False.elim p1
  · exact False.elim p1
/-! .. of dicts -/
theorem dct_at {ρ : Pl} {H : Hp} {h : Hh} (rh : RH (gm X P hot) ρ H h) {u : D} {v : V} (r : Rep X.K ρ H u v) {m : BM} (hm : m = .get ∨ m = .getOr) (e : bmT h m u = true) : ∃ i a, u = .ref i ∧ v = .ref a ∧ ρ.pl[i]? = some a ∧ IsD H a := by
  cases u with
  | ref i =>
    simp only [bmT] at e
    split at e
    · rcases hm with rfl | rfl <;> cases e
    · rename_i kvs hi
      obtain ⟨a, rfl, ea, ws, q, rw'⟩ := rh.ref (Γ := gm X P hot) r hi
      exact ⟨i, a, rfl, rfl, ea, .inl ⟨ws, .inl q⟩⟩
    · cases e
  | lst ds => rcases hm with rfl | rfl <;> cases e
  | int i => rcases hm with rfl | rfl <;> cases e
  | _ => cases e
theorem r_get1 {eo ee : ME} (hu : X.A.units + 1 < cLine) (ho : PE X o (tM (gm X P hot) W (sem call P x eo))) (he : PE X e (tM (gm X P hot) W (sem call P x ee))) (m : M1 X o "get" apos e cpos) :
    PE X (.Call (.Attribute o "get" apos) [e] [] cpos) (tM (gm X P hot) W (sem call P x (.bm eo .get (.cons ee .nil)))) := by
  refine (pe_dget1 hu ho he m).imp fun σ H Q ⟨ρ, env, h, rh, re, p⟩ => ?_
  rw [sem] at p
  refine ⟨ρ, env, h, rh, re, p.bind fun u h1 ρ1 H1 x1 rh1 p1 v rv => ?_⟩
  split at p1
  · rename_i hT
    obtain ⟨i, a, rfl, rfl, ea, hd⟩ := dct_at rh1 rv (.inl rfl) hT
    refine ⟨a, rfl, hd, ρ1, env, h1, rh1, re.mono x1, ?_⟩
    simp only [semA, bind_assoc, bind_ok] at p1
    refine p1.bind fun k h2 ρ2 H2 x2 rh2 p2 z rz => ?_
    cases eb : bmD h2 .get (.ref i) [k] with
    | none => rw [eb] at p2; exact False.elim p2
    | some r =>
      rw [eb] at p2
      simp only [bmD] at eb
      split at eb
      · rename_i kvs hi
        obtain ⟨oo, e1, rfl⟩ := Option.map_eq_some_iff.mp eb
        obtain ⟨ov, g, q⟩ := dget_of rh2 (x2.1.1 _ _ ea) hi rz e1
        refine ⟨ov, g, p2.ok rh2 _ ?_⟩
        cases oo <;> cases ov <;> first | exact False.elim q | exact rep_non | exact q
      · rename_i kvs hi
        obtain ⟨oo, e1, rfl⟩ := Option.map_eq_some_iff.mp eb
        obtain ⟨ov, g, q⟩ := dget_of rh2 (x2.1.1 _ _ ea) hi rz e1
        refine ⟨ov, g, p2.ok rh2 _ ?_⟩
        cases oo <;> cases ov <;> first | exact False.elim q | exact rep_non | exact q
      · cases eb
  · exact False.elim p1
theorem r_get2 {eo ee ef : ME} {f : Expr} (hu : X.A.units + 1 < cLine) (ho : PE X o (tM (gm X P hot) W (sem call P x eo))) (he : PE X e (tM (gm X P hot) W (sem call P x ee))) (hf : PE X f (tM (gm X P hot) W (sem call P x ef))) (m : M2 X o "get" apos e f cpos) :
    PE X (.Call (.Attribute o "get" apos) [e, f] [] cpos) (tM (gm X P hot) W (sem call P x (.bm eo .getOr (.cons ee (.cons ef .nil))))) := by
  refine (pe_dget2 hu ho he hf m).imp fun σ H Q ⟨ρ, env, h, rh, re, p⟩ => ?_
  rw [sem] at p
  refine ⟨ρ, env, h, rh, re, p.bind fun u h1 ρ1 H1 x1 rh1 p1 v rv => ?_⟩
  split at p1
  · rename_i hT
    obtain ⟨i, a, rfl, rfl, ea, hd⟩ := dct_at rh1 rv (.inr rfl) hT
    refine ⟨a, rfl, hd, ρ1, env, h1, rh1, re.mono x1, ?_⟩
    simp only [semA, bind_assoc, bind_ok] at p1
    refine p1.bind fun k h2 ρ2 H2 x2 rh2 p2 z rz => ⟨ρ2, env, h2, rh2, re.mono (x1.trans x2), p2.bind fun t h3 ρ3 H3 x3 rh3 p3 w rw' => ?_⟩
    cases eb : bmD h3 .getOr (.ref i) [k, t] with
    | none => rw [eb] at p3; exact False.elim p3
    | some r =>
      rw [eb] at p3
      simp only [bmD] at eb
      split at eb
      · rename_i kvs hi
        obtain ⟨oo, e1, rfl⟩ := Option.map_eq_some_iff.mp eb
        obtain ⟨ov, g, q⟩ := dget_of rh3 (x3.1.1 _ _ (x2.1.1 _ _ ea)) hi (rz.mono x3) e1
        refine ⟨ov, g, p3.ok rh3 _ ?_⟩
        cases oo <;> cases ov <;> first | exact False.elim q | exact rw' | exact q
      · rename_i kvs hi
        obtain ⟨oo, e1, rfl⟩ := Option.map_eq_some_iff.mp eb
        obtain ⟨ov, g, q⟩ := dget_of rh3 (x3.1.1 _ _ (x2.1.1 _ _ ea)) hi (rz.mono x3) e1
        refine ⟨ov, g, p3.ok rh3 _ ?_⟩
        cases oo <;> cases ov <;> first | exact False.elim q | exact rw' | exact q
      · cases eb
  · exact False.elim p1

/-! ### new dicts -/
theorem r_dnew : PE X (.Dict [] [] pos) (tM (gm X P hot) W (sem call P x (.dnew false))) := by
  refine pe_dnewK.imp fun σ H Q ⟨ρ, env, h, rh, re, p⟩ q hq => ?_
  rw [sem] at p
  simp only [Bool.false_eq_true, if_false] at p
  have x1 := Ext.alloc (o := HO.dK []) rh hq
  exact p (ρ.push q) _ x1 (rh.alloc hq ⟨[], upd_same, .nil⟩) _ (rep_ref (last_ref rh))
/-- the entries of a display, keys written texts -/
inductive Ents (X : Cx) (P : Prog) (hot : Option Hot) (W : WX) (call : Nat → List D → Hh → Res D) (x : Option Ex) : List (Option Expr) → List Expr → MKs → Prop where
  | nil : Ents X P hot W call x [] [] .nil
  | cons {k : Str} {j : Nat} {p : Pos} {v : Expr} {ks : List (Option Expr)} {vs : List Expr} {ev : ME} {r : MKs} : PE X v (tM (gm X P hot) W (sem call P x ev)) → Ents X P hot W call x ks vs r → Ents X P hot W call x (some (.Constant (.str k) j p) :: ks) (v :: vs) (.cons k ev r)
def entT (X : Cx) (P : Prog) (hot : Option Hot) (W : WX) (call : Nat → List D → Hh → Res D) (x : Option Ex) : MKs → List (TE × TE)
  | .nil => []
  | .cons k e r => (L2.tC (.str k), tM (gm X P hot) W (sem call P x e)) :: entT X P hot W call x r
def MKs.len : MKs → Nat
  | .nil => 0
  | .cons _ _ r => r.len + 1
theorem ents_pps {keys : List (Option Expr)} {values : List Expr} {ks : MKs} (h : Ents X P hot W call x keys values ks) : PPs X pos keys values (entT X P hot W call x ks) ∧ keys.all (·.isSome) = true ∧ keys.length = values.length ∧ keys.length = ks.len := by
  induction h with
  | nil => exact ⟨pps_nil, rfl, rfl, rfl⟩
  | cons h t ih => exact ⟨pps_cons pe_str h ih.1, by simp [ih.2.1], by simp [ih.2.2.1], by simp [ih.2.2.2, MKs.len]⟩
theorem ents_run {σ : L2.St} {env : Env} : ∀ (ks : MKs) {ρ : Pl} {H : Hp} {h : Hh} {Q : List (V × V) → Hp → Prop}, RH (gm X P hot) ρ H h → RE (gm X P hot) ρ H env σ →
    Post (gm X P hot) W σ ρ H (semK call P x ks env h) (fun ps ρ' H' _ => ∀ ws, RKV X.K ρ' H' ps ws → ws.length = ks.len → Q (ws.map fun kv => (V.str kv.1, kv.2)) H') → tPairs (entT X P hot W call x ks) σ H Q
  | .nil, ρ, H, h, Q, rh, re, p => by
    rw [semK] at p
    exact p.ok rh [] .nil rfl
  | .cons k e r, ρ, H, h, Q, rh, re, p => by
    rw [semK] at p
    refine ⟨ρ, env, h, rh, re, p.bind fun u h1 ρ1 H1 x1 rh1 p1 v rv => ents_run r rh1 (re.mono x1) (p1.bind fun ps h2 ρ2 H2 x2 rh2 p2 ws rws hl => ?_)⟩
    exact p2.ok rh2 ((k, v) :: ws) (.cons ⟨rfl, rv.mono x2⟩ rws) (by simp [hl, MKs.len])
theorem rkv_fold {K : PySem.W.Frag} {ρ : Pl} {H : Hp} : ∀ {ps : List (Str × D)} {ws : List (Str × V)} {kvs : List (Key × D)} {vs : List (Key × V)}, RKV K ρ H ps ws → RKV K ρ H kvs vs →
    RKV K ρ H (ps.foldl (fun d p => Mi.putK d (.inr p.1) p.2) kvs) ((ws.map fun kv => ((Sum.inr kv.1 : Key), kv.2)).foldl (fun acc kv => L2.putK acc kv.1 kv.2) vs)
  | [], _, _, _, r, h => by
    cases r
    exact h
  | (k, d) :: ps, _, kvs, vs, r, h => by
    cases r with
    | @cons _ q _ l2 r t =>
      obtain ⟨k', v⟩ := q
      obtain ⟨r1, r2⟩ := r
      have r1' : k = k' := r1
      subst r1'
      exact rkv_fold (ps := ps) (ws := l2) t (rkv_put _ r2 h)
theorem wk_less {ρ : Pl} {H : Hp} {a : Addr} {ex : List Addr} (e : ρ.ex = a :: ex) : Wk ρ H ⟨ρ.pl, ex⟩ H :=
  ⟨fun _ _ e => e, fun b u eb n => ⟨eb, fun z => n (z.elim .inl fun z => .inr (by rw [e]; exact List.mem_cons_of_mem _ z))⟩⟩
theorem rh_less {Γ : Gam} {ρ : Pl} {H : Hp} {h : Hh} {a : Addr} {ex : List Addr} (r : RH Γ ρ H h) (e : ρ.ex = a :: ex) : RH Γ ⟨ρ.pl, ex⟩ H h :=
  r.move (wk_less e) rfl (fun _ _ => rfl) (fun b hb z => r.sep b hb (by rw [e]; exact List.mem_cons_of_mem _ z)) fun b hb => r.exs b (by rw [e]; exact List.mem_cons_of_mem _ hb)
theorem upd_del2 {H : Hp} {a : Addr} {o : HO} : upd (del H a) a o = upd H a o := by
  funext b
  unfold upd del
  by_cases h : b = a
  · rw [if_pos h, if_pos h]
  · rw [if_neg h, if_neg h, if_neg h]
theorem r_dsp {keys : List (Option Expr)} {values : List Expr} {ks : MKs} (h : Ents X P hot W call x keys values ks) (h0 : keys ≠ []) (h15 : ks.len ≤ 15) : PE X (.Dict keys values pos) (tM (gm X P hot) W (sem call P x (.dsp ks))) := by
  obtain ⟨hp, hall, hl, hlen⟩ := ents_pps (pos := pos) h
  refine (pe_disp hp hall hl h0 (by omega)).imp fun σ H Q ⟨ρ, env, h, rh, re, p⟩ q hq => ?_
  rw [sem] at p
  have na : q ∉ ρ.ex := (Pl.not_mem.mp (rh.new hq)).2
  have rh0 := rh_hide (o := HO.dK []) rh hq
  refine ents_run ks rh0 (re.wk (wk_hide hq)) ?_
  have hstr : ∀ (ps : List (Str × D)) (h1 : Hh) (ρ1 : Pl) (H1 : Hp), Ext (ρ.hide q) (upd H q (.dK [])) ρ1 H1 → RH (gm X P hot) ρ1 H1 h1 →
      (∀ ρ' H', Ext ρ H ρ' H' → RH (gm X P hot) ρ' H' (h1 ++ [.dct (ps.foldl (fun d p => Mi.putK d (.inr p.1) p.2) [])]) → ∀ v, Rep X.K ρ' H' (.ref h1.length) v → Q v H') →
      ∀ ws, RKV X.K ρ1 H1 ps ws → ws.length = ks.len → H1 q = some (.dK []) ∧ ∃ kvs : List (Key × V), (ws.map fun kv => (V.str kv.1, kv.2)) = kvs.map (fun kv => (kV kv.1, kv.2)) ∧ kvs.length ≤ 15 ∧ Q (.ref q) (upd H1 q (.dK (mergeK [] kvs))) := by
    intro ps h1 ρ1 H1 x1 rh1 hQ ws rws hl2
    have hex : q ∈ (ρ.hide q).ex := List.mem_cons_self
    have ex1 : ρ1.ex = q :: ρ.ex := x1.2.1
    refine ⟨by rw [x1.2.2 q hex]; exact upd_same, ws.map fun kv => ((Sum.inr kv.1 : Key), kv.2), by rw [List.map_map]; rfl, by simp [hl2]; omega, ?_⟩
    have rh2 : RH (gm X P hot) ⟨ρ1.pl, ρ.ex⟩ (del H1 q) h1 := rh_show rh1 ex1 na
    have wk2 : Wk ρ1 H1 ⟨ρ1.pl, ρ.ex⟩ (del H1 q) := wk_show ex1
    have e1 : Ext ρ H ⟨ρ1.pl, ρ.ex⟩ (del H1 q) := ⟨((wk_hide hq).trans x1.1).trans wk2, rfl, fun b hb => by
      rw [del_ne (fun z => na (by rw [← z]; exact hb)), x1.2.2 b (List.mem_cons_of_mem _ hb), upd_ne (fun z => na (by rw [← z]; exact hb))]⟩
    have e2 := Ext.alloc (o := HO.dK (mergeK [] (ws.map fun kv => ((Sum.inr kv.1 : Key), kv.2)))) rh2 del_none
    have rh3 := rh2.alloc (oo := .dct (ps.foldl (fun d p => Mi.putK d (.inr p.1) p.2) [])) (o := HO.dK (mergeK [] (ws.map fun kv => ((Sum.inr kv.1 : Key), kv.2)))) del_none ⟨_, upd_same, rkv_fold ((rws.wk wk2).mono e2) .nil⟩
    have fin := hQ _ _ (e1.trans e2) rh3 _ (rep_ref (last_ref rh2))
    rw [upd_del2] at fin
    exact fin
  cases er : semK call P x ks env h with
  | ok ps h1 =>
    rw [er] at p
    exact fun ρ1 H1 x1 rh1 => hstr ps h1 ρ1 H1 x1 rh1 fun ρ' H' x' rh' v rv => p ρ' H' x' rh' v rv
  | exc e h1 =>
    rw [er] at p
    intro cls dd ρ1 H1 x1 rh1 q1
    have ex1 : ρ1.ex = q :: ρ.ex := x1.2.1
    exact p cls dd ⟨ρ1.pl, ρ.ex⟩ H1 ⟨((wk_hide hq).trans x1.1).trans (wk_less ex1), rfl, fun b hb => by
      rw [x1.2.2 b (List.mem_cons_of_mem _ hb), upd_ne (fun z => na (by rw [← z]; exact hb))]⟩ (rh_less rh1 ex1) (q1.wk (wk_less ex1))
  | stuck => rw [er] at p; exact p
end
end Mi
end
section
set_option Elab.async false
set_option linter.all false
set_option maxRecDepth 100000
namespace Mi
open PySem PySem.Spec PyProof.Rows L2

/-! ### of the texts alone -/
def okx : Expr → Bool
  | .Starred .. => false
  | .Slice .. => false
  | .Set .. => false
  | _ => true
def noComp : Expr → Bool
  | .ListComp .. => false
  | .SetComp .. => false
  | .DictComp .. => false
  | _ => true
def isSup : Expr → Bool
  | .Call (.Name id _) [] [] _ => id == "super"
  | _ => false
def isIfx : Expr → Bool
  | .IfExp .. => true
  | .BoolOp .. => true
  | .Compare .. => true
  | .UnaryOp .Not _ _ => true
  | _ => false
def isName : Expr → Bool
  | .Name .. => true
  | _ => false
section
variable {e : Expr} {es : List Expr} {env : PySem.Env} {pos : Pos}
theorem star1 (h : okx e = true) : starEach (e :: es) env = (false, eval e env) :: starEach es env := by
  cases e <;> first | rfl | cases h
theorem star_any (h : es.all okx = true) : (backTo pos (starEach es env)).any (·.1) = false := by
  induction es with
  | nil => rfl
  | cons e es ih =>
    rw [List.all_cons, Bool.and_eq_true] at h
    rw [star1 h.1]
    show (false || (backTo pos (starEach es env)).any (·.1)) = false
    rw [ih h.2]
    rfl
theorem star_all (h : es.all okx = true) : (backTo pos (starEach es env)).all (fun x => !x.1) = true := by
  induction es with
  | nil => rfl
  | cons e es ih =>
    rw [List.all_cons, Bool.and_eq_true] at h
    rw [star1 h.1]
    show (true && (backTo pos (starEach es env)).all (fun x => !x.1)) = true
    rw [ih h.2]
    rfl
theorem abase {f : Str} {w : Sem Value} (h : isSup e = false) : attributeBase e f env w = w := by
  unfold attributeBase
  split
  · rename_i id _ _
    have h' : (id == ("super" : Str)) = false := h
    have h2 : (id != ("super" : Str)) = true := by rw [bne, h']; rfl
    rw [h2]
    simp
  · rfl
theorem plain_ix (h : okx e = true) : PlainIx e := fun o i => by cases e <;> first | rfl | cases h
theorem fold_set (h : okx e = true) (v : Value) : foldedSetIterable e env v = pure v := by
  cases e <;> first | rfl | cases h
theorem beh_in (h : okx e = true) (o : CmpOp) : behindInMarks o e = false := by
  cases e <;> first | rfl | cases h
theorem last2 {a b : Expr} {o o' : CmpOp} (h : okx b = true) : lastMarks [o, o'] [a, b] = false := by
  show lastMarks [o'] [b] = false
  exact beh_in h o'
theorem is_true (h : isIfx e = false) (w : Sem Value) : isTrue e env w = (do let v ← w; standAt e.pos; holding [v] (truthy v)) := by
  cases e <;> first | rfl | (cases h; done) | (rename_i o _ _; cases o <;> first | rfl | cases h)
theorem few_ok {n : Nat} (h : es.all okx = true) (hl : n < 29) : ((backTo pos (starEach es env)).all (fun x => !x.1) && (backToKw pos (keywordEach [] env)).all (fun x => x.1.isSome)
    && decide (n + ([] : List Keyword).length + (if ([] : List Keyword).isEmpty then 0 else 1) < 30)) = true := by
  rw [star_all h]
  show (true && true && decide (n + 0 + 0 < 30)) = true
  simp
  omega
theorem kw_all {kws : List Keyword} (h : kws.all (fun k => k.arg.isSome) = true) : (backToKw pos (keywordEach kws env)).all (·.1.isSome) = true ∧ (backToKw pos (keywordEach kws env)).filterMap (·.1) = kws.filterMap (·.arg) ∧ (backToKw pos (keywordEach kws env)).any (·.1.isNone) = false := by
  induction kws with
  | nil => exact ⟨rfl, rfl, rfl⟩
  | cons k r ih =>
    rw [List.all_cons, Bool.and_eq_true] at h
    obtain ⟨a, b, c⟩ := ih h.2
    obtain ⟨n, v, p⟩ := k
    cases n with
    | none => cases h.1
    | some n =>
      refine ⟨?_, ?_, ?_⟩
      · show (true && (backToKw pos (keywordEach r env)).all (·.1.isSome)) = true
        rw [a]; rfl
      · show n :: (backToKw pos (keywordEach r env)).filterMap (·.1) = n :: r.filterMap (·.arg)
        rw [b]
      · show (false || (backToKw pos (keywordEach r env)).any (·.1.isNone)) = false
        rw [c]; rfl
theorem form_ok (h : es.all okx = true) (hl : es.length < 29) : methodCallForm es.length (backTo pos (starEach es env)) [] = true := by
  unfold methodCallForm
  rw [star_all h]
  simp
  omega
theorem back1 {a : Expr} (h : okx a = true) : backTo pos (starEach [a] env) = [(false, eval a env)] := by
  rw [star1 h]
  rfl
theorem back2 {a b : Expr} (h : okx a = true) (h' : okx b = true) : backTo pos (starEach [a, b] env) = [(false, eval a env), (false, eval b env)] := by
  rw [star1 h, star1 h']
  rfl
theorem swaps_none (h : noComp e = true) (t : Option Expr) (l : Nat) : swapsWith e t l env = pure false := by
  cases e <;> first | rfl | cases h
theorem swaps_other {t : Expr} (h : isName t = false) (l : Nat) : swapsWith e (some t) l env = pure false := by
  cases t <;> first | (cases e <;> rfl) | cases h
theorem ass1 {t : Expr} (h : okx t = true) : (assignEach (t :: es) env).map (·.2) = assign t env :: (assignEach es env).map (·.2) := by
  cases t <;> first | rfl | cases h
theorem ass_len : (assignEach es env).length = es.length := by
  induction es with
  | nil => rfl
  | cons e es ih => cases e <;> (show (assignEach es env).length + 1 = _; rw [ih]; rfl)
theorem ass_find (h : es.all isName = true) : (assignEach es env).findIdx? (·.1) = none := by
  induction es with
  | nil => rfl
  | cons e es ih =>
    rw [List.all_cons, Bool.and_eq_true] at h
    cases e <;> first
      | (show List.findIdx? _ ((false, _) :: assignEach es env) = none
         rw [List.findIdx?_cons, ih h.2]
         rfl)
      | cases h.1
end
end Mi
end
section
set_option Elab.async false
set_option linter.all false
set_option maxRecDepth 100000
namespace Mi
open PySem PySem.Spec PyProof.Rows L2

/-- what is known of a place in the text -/
structure Cfg where
  N : List Str
  sc : Scope
  mine : Str → Bool
  hot : Option Nat
  full : Bool
  calm : Bool
  P : Prog
  own : List Nat
def Cfg.gl (C : Cfg) (y : Str) : Bool := (C.sc.names.lookup y == some .globalImplicit) && !(y == ("__debug__" : Str))
def Cfg.vis (C : Cfg) (i : Nat) (y : Str) : Bool := decide (C.N[i]? = some y) && (C.sc.names.lookup y == some .local || C.sc.names.lookup y == some .cell || C.sc.names.lookup y == some .free) && !(y == ("__debug__" : Str)) && !(y == ("__classdict__" : Str))
def Cfg.store (C : Cfg) (i : Nat) (y : Str) : Bool := decide (C.N[i]? = some y) && (C.sc.names.lookup y == some .local || C.sc.names.lookup y == some .cell) && C.mine y && decide (C.hot ≠ some i)
/-- a comprehension's block -/
def Cfg.blk (C : Cfg) (scope : Scope) : Cfg := { C with sc := relS scope C.sc, mine := fun y => scope.names.lookup y == some .cell || (relS scope C.sc).names.lookup y == some .local, hot := none, full := false }
def Cfg.pairs (C : Cfg) (own : List Nat) : List (Str × Nat) := own.map fun i => ((C.N[i]?).getD "", i)
/-- how many a method is given -/
def BM.few : BM → Nat → Bool
  | .append, k => decide (k = 1) | .extend, k => decide (k = 1) | .pop, k => decide (k = 0) | .popAt, k => decide (k = 1) | .get, k => decide (k = 1) | .getOr, k => decide (k = 2) | .bitLength, k => decide (k = 0) | .index, k => decide (k = 1)
def litB : D → Expr → Bool
  | .non, .Constant .none _ _ => true
  | .bl b, .Constant (.bool c) _ _ => b == c
  | .int i, .Constant (.int j) _ _ => i == j
  | .str s, .Constant (.str t) _ _ => s == t
  | _, _ => false
/-- tests: and, or, not, comparisons -/
def tst : Expr → Bool := fun e => match e with
  | .IfExp .. => false
  | _ => true
def swN (C : Cfg) (e : Expr) (y : Str) (p : Pos) : Bool := match e with
  | .ListComp _ _ s pos => (C.sc.kind == .function) && (C.sc.names.lookup y == some .local) && (p.line == pos.line) && !(s.names.any fun (n, k) => n == y && (k == .local || k == .cell))
  | .SetComp .. => true
  | .DictComp .. => true
  | _ => false
def chkN : List Nat → Cfg → List Expr → Bool
  | [], _, es => match es with
    | [] => true
    | _ => false
  | i :: is, C, es => match es with
    | .Name y _ :: r => C.store i y && chkN is C r
    | _ => false
def chkG : MT → Cfg → Expr → Bool
  | .nm i, C, e => match e with
    | .Name y _ => C.store i y
    | _ => false
  | .tp is, C, e => match e with
    | .Tuple es _ _ => C.calm && chkN is C es
    | _ => false
mutual
def chkE : ME → Bool → Cfg → Expr → Bool
  | .var i, q, C, e => match e with
    | .Name y _ => C.vis i y
    | _ => false
  | .lit d, q, _, e => litB d e
  | .glb g, q, C, e => match e with
    | .Name y _ => C.gl y && (match C.P.consts[g]? with | some c => c.1 == y | none => false)
    | _ => false
  | .bin o a b, q, C, e => match e with
    | .BinOp l o' r _ => decide (o = o') && chkE a false C l && chkE b false C r
    | _ => false
  | .neg a, q, C, e => match e with
    | .UnaryOp .USub y _ => chkE a false C y
    | _ => false
  | .cmp o a b, q, C, e => match e with
    | .Compare l [o'] [r] _ => decide (o = o') && okx r && chkE a false C l && chkE b false C r
    | _ => false
  | .cmp2 o o' a b c, q, C, e => match e with
    | .Compare l [p, p'] [q, r] _ => decide (o = p) && decide (o' = p') && okx r && chkE a false C l && chkE b false C q && chkE c false C r
    | _ => false
  | .and a b, q, C, e => match e with
    | .BoolOp .And [y, z] _ => chkE a q C y && chkE b q C z
    | .BoolOp .And (y :: z :: t :: r) pos => chkE a q C y && chkE b q C (.BoolOp .And (z :: t :: r) pos)
    | _ => false
  | .or a b, q, C, e => match e with
    | .BoolOp .Or [y, z] _ => chkE a q C y && chkE b q C z
    | .BoolOp .Or (y :: z :: t :: r) pos => chkE a q C y && chkE b q C (.BoolOp .Or (z :: t :: r) pos)
    | _ => false
  | .not a, q, C, e => match e with
    | .UnaryOp .Not y _ => chkE a q C y
    | _ => false
  | .ifx c a b, q, C, e => match e with
    | .IfExp t y z _ => !q && chkE c true C t && chkE a false C y && chkE b false C z
    | _ => false
  | .tup es, q, C, e => match e with
    | .Tuple xs _ _ => decide (es.len ≤ 1000) && chkA es C xs
    | _ => false
  | .frz m, _, C, e => !isIfx e && chkC m C e
  | .new m, _, C, e => !isIfx e && chkC m C e
  | .call f es, q, C, e => match e with
    | .Call (.Name y _) xs [] _ => C.calm && C.gl y && (match C.P.fns[f]? with | some fi => fi.top && fi.plain && fi.name == y | none => false) && xs.all okx && chkA es C xs
    | _ => false
  | .bi b es, q, C, e => match e with
    | .Call (.Name y _) (z :: xs) [] _ => C.calm && C.gl y && (b.name == y) && (z :: xs).all okx && chkA es C (z :: xs)
    | _ => false
  | .isi a ts, q, C, e => match e with
    | .Call (.Name y _) [z, .Name t _] [] _ => (match ts with
      | [t1] => (y == ("isinstance" : Str)) && C.gl y && (t == Str.ofString t1.name) && C.gl t && okx z && chkE a false C z
      | _ => false)
    | .Call (.Name y _) [z, .Tuple [.Name t _, .Name t' _] _ _] [] _ => (match ts with
      | [t1, t2] => (y == ("isinstance" : Str)) && C.gl y && (t == Str.ofString t1.name) && C.gl t && (t' == Str.ofString t2.name) && C.gl t' && okx z && chkE a false C z
      | _ => false)
    | _ => false
  | .fld a f, q, C, e => match e with
    | .Attribute o g _ => (f == g) && !isSup o && chkE a false C o
    | _ => false
  | .mth a c m es, q, C, e => match e with
    | .Call (.Attribute o g ap) xs [] pos => C.calm && (match C.P.inss[c]? with | some ci => (match ci.meths[m]? with | some mf => mf.1 == g | none => false) | none => false) && (ap.endLine == pos.line) && decide (xs.length < 29) && xs.all okx && !isSup o && chkE a false C o && chkA es C xs
    | _ => false
  | .bm a m es, q, C, e => match e with
    | .Call (.Attribute o g ap) xs [] pos => (g == m.name) && (ap.endLine == pos.line) && decide (xs.length < 29) && xs.all okx && !isSup o && m.few xs.length && chkE a false C o && chkA es C xs
    | _ => false
  | .ix a i, q, C, e => match e with
    | .Subscript y z _ => okx z && chkE a false C y && chkE i false C z
    | _ => false
  | .slc a lo hi, q, C, e => match e with
    | .Subscript y (.Slice l u none _) _ => chkE a false C y && chkO lo C l && chkO hi C u
    | _ => false
  | .dnew t, q, _, e => match e with
    | .Dict [] [] _ => !t
    | _ => false
  | .dsp ks, q, C, e => match e with
    | .Dict keys vals _ => !keys.isEmpty && decide (ks.len ≤ 15) && chkK ks C keys vals
    | _ => false
  | .ins c es, q, C, e => match e with
    | .Call (.Name y _) xs [] _ => C.calm && C.gl y && (match C.P.inss[c]? with | some ci => ci.name == y | none => false) && xs.all okx && chkA es C xs
    | _ => false
  | .xf f, q, C, e => match e with
    | .Attribute (.Name n _) g _ => (f == g) && (match C.hot with | some i => C.vis i n | none => false) && decide (f ∈ (C.P.excs.map (·.fields)).flatten)
    | _ => false
  | .xis ts, q, C, e => match e with
    | .Call (.Name y _) [.Name n _, .Name z _] [] _ => (y == ("isinstance" : Str)) && C.gl y && (match C.hot with | some i => C.vis i n | none => false) && C.gl z && (match ts with
      | [none] => z == ("ValueError" : Str)
      | [some c] => (match C.P.excs[c]? with | some ec => ec.name == z | none => false)
      | _ => false)
    | _ => false
  | .callK g es ws, q, C, e => match e with
    | .Call (.Name y _) (x :: xs) kws _ => C.calm && C.gl y && (match C.P.sigs[g]? with
      | some sg => (match C.P.fns[sg.f]? with | some fi => fi.top && fi.name == y | none => false) && chkW ws C sg.ks kws
      | none => false) && chkA es C (x :: xs)
    | _ => false
  | .any, _, _, _ => true
/-- keywords -/
def chkW : MEs → Cfg → List Str → List Keyword → Bool
  | .nil, _, ks, kws => ks.isEmpty && kws.isEmpty
  | .cons m r, C, ks, kws => match ks, kws with
    | k :: ks, ⟨some n, e, _⟩ :: kws => (k == n) && chkE m false C e && chkW r C ks kws
    | _, _ => false
def chkA : MEs → Cfg → List Expr → Bool
  | .nil, _, xs => match xs with
    | [] => true
    | _ => false
  | .cons m r, C, xs => match xs with
    | y :: ys => okx y && chkE m false C y && chkA r C ys
    | _ => false
def chkK : MKs → Cfg → List (Option Expr) → List Expr → Bool
  | .nil, _, ks, vs => match ks, vs with
    | [], [] => true
    | _, _ => false
  | .cons k m r, C, ks, vs => match ks, vs with
    | some (.Constant (.str t) _ _) :: ks, v :: vs => (k == t) && chkE m false C v && chkK r C ks vs
    | _, _ => false
def chkO : MO → Cfg → Option Expr → Bool
  | .none, _, o => match o with
    | none => true
    | _ => false
  | .some m, C, o => match o with
    | some e => chkE m false C e
    | none => false
def chkC : MC → Cfg → Expr → Bool
  | .dsp es, C, e => match e with
    | .List xs _ => decide (es.len ≤ 1000) && chkA es C xs
    | _ => false
  | .lc own t it cs m, C, e => match e with
    | .ListComp elt [⟨tg, iter, ifs, a⟩] scope _ => C.calm && decide (a = 0) && blkC C.N C.sc scope (C.pairs own) && (t.slots.all fun i => own.contains i) && okx iter && chkI it C iter tg && chkG t (C.blk scope) tg && chkT cs (C.blk scope) ifs && chkE m false (C.blk scope) elt
    | _ => false
  | .lc2 .., _, _ => false
  | .bi b m, C, e => match e with
    | .Call (.Name y _) [z] [] _ => C.gl y && (b.name == y) && okx z && chkE m false C z
    | _ => false
  | .cat a b, C, e => match e with
    | .BinOp l .Add r _ => chkE a false C l && chkE b false C r
    | _ => false
  | .rep a b, C, e => match e with
    | .BinOp l .Mult r _ => chkE a false C l && chkE b false C r
    | _ => false
def chkT : MEs → Cfg → List Expr → Bool
  | .nil, _, xs => match xs with
    | [] => true
    | _ => false
  | .cons m .nil, C, xs => match xs with
    | [y] => chkE m true C y
    | _ => false
  | .cons _ (.cons _ _), _, _ => false
def chkI : MI → Cfg → Expr → Expr → Bool
  | .val m, C, e, _ => chkE m false C e
  | .rng1 a, C, e, _ => match e with
    | .Call (.Name y _) [p] [] _ => (y == ("range" : Str)) && C.gl y && okx p && chkE a false C p
    | _ => false
  | .rng2 a b, C, e, _ => match e with
    | .Call (.Name y _) [p, q] [] _ => (y == ("range" : Str)) && C.gl y && okx p && okx q && chkE a false C p && chkE b false C q
    | _ => false
  | .rng3 a b c, C, e, _ => match e with
    | .Call (.Name y _) [p, q, r] [] _ => (y == ("range" : Str)) && C.gl y && okx p && okx q && okx r && chkE a false C p && chkE b false C q && chkE c false C r
    | _ => false
  | .enum a, C, e, tg => match e, tg with
    | .Call (.Name y _) [p] [] _, .Tuple _ _ _ => (y == ("enumerate" : Str)) && C.gl y && okx p && chkE a false C p
    | _, _ => false
  | .zip a b, C, e, tg => match e, tg with
    | .Call (.Name y _) [p, q] [] _, .Tuple _ _ _ => (y == ("zip" : Str)) && C.gl y && okx p && okx q && chkE a false C p && chkE b false C q
    | _, _ => false
end
example (C : Cfg) (p : Pos) : chkE (.bin .Add (.lit (.int 1)) (.lit (.int 2))) false C (.BinOp (.Constant (.int 1) 0 p) .Add (.Constant (.int 2) 0 p) p) = true := by rfl
end Mi
end
section
set_option Elab.async false
set_option linter.all false
set_option maxRecDepth 100000
set_option maxHeartbeats 1000000
namespace Mi
open PySem PySem.Spec PyProof.Rows L2

def bltNames : List Str := ["len", "abs", "int", "str", "tuple", "list", "sorted", "sum", "min", "max", "all", "any", "repr", "range", "enumerate", "zip", "isinstance", "bool", "dict", "ValueError"]
/-- what stands around at a place, of the written part alone -/
structure Gnd (X : Cx) (P : Prog) (own : List Nat) : Prop where
  blt : ∀ y ∈ bltNames, X.mg y = none
  con : ∀ (g : Nat) (c : Str × D), P.consts[g]? = some c → ∃ v u, X.mg c.1 = some u ∧ RelV v u ∧ ∀ ρ H, Rep X.K ρ H c.2 v
  exc : ExcsG X P own
  ins : Known X P
/-- what may be called -/
structure Can (X : Cx) (P : Prog) (n : Nat) (call : Nat → List D → Hh → Res D) : Prop where
  fn : ∀ (f : Nat) (fi : FInfo), P.fns[f]? = some fi → fi.top = true → ∃ fa fd ps, X.mg fi.name = some (.ref fa) ∧ PySem.W.keepIn X.K (.ref fa) = true ∧ FnG X.prog X.w X.K X.mg X.base n fa fd ps (spM (gm X P none) call f) ∧ (fi.plain = true → L2.Binds X.K fd ps [])
  sig : ∀ (g : Nat) (sg : Sig), P.sigs[g]? = some sg → ∃ fi fa fd ps dus, P.fns[sg.f]? = some fi ∧ X.mg fi.name = some (.ref fa) ∧ PySem.W.keepIn X.K (.ref fa) = true ∧ FnG X.prog X.w X.K X.mg X.base n fa fd ps (spM (gm X P none) call sg.f) ∧ SigB X.K fd ps sg dus
  cls : ∀ (c : Nat) (ci : CInfo), P.inss[c]? = some ci → ∃ D, ClsG X P n call ci D
structure Good (C : Cfg) (X : Cx) (hot : Option Hot) (W : WX) (call : Nat → List D → Hh → Res D) (x : Option Ex) (n : Nat) : Prop where
  sc : X.env.scope = C.sc
  N : X.N = C.N
  nd : C.N.Nodup
  mine : ∀ y, C.mine y = true → X.fn y = true ∨ X.env.scope.names.lookup y = some .local
  hotC : ∀ t, hot = some t → C.hot = some t.i
  un : X.A.units + 66 < cLine
  gnd : Gnd X C.P C.own
  calm : C.calm = true → hot = none ∧ X.calm = true ∧ X.A.guards = some [] ∧ Takes X W ∧ Room (n + 1) X.A ∧ Can X C.P n call
  xf : ∀ i, C.hot = some i → ∀ f, f ∈ (C.P.excs.map (·.fields)).flatten → ∀ y p pos, C.vis i y = true → PE X (.Attribute (.Name y p) f pos) (tM (gm X C.P hot) W (sem call C.P x (.xf f)))
  xis : ∀ i, C.hot = some i → ∀ y z p p1 p2 pos, C.vis i y = true → C.gl "isinstance" = true → C.gl z = true → ∀ k : Option Nat, (match k with
      | none => z = ("ValueError" : Str)
      | some c => ∃ ec, C.P.excs[c]? = some ec ∧ ec.name = z) → PE X (.Call (.Name "isinstance" p) [.Name y p1, .Name z p2] [] pos) (tM (gm X C.P hot) W (sem call C.P x (.xis [k])))
section
variable {C : Cfg} {X : Cx} {hot : Option Hot} {W : WX} {call : Nat → List D → Hh → Res D} {x : Option Ex} {n : Nat}
theorem beq_some {o : Option NameKind} {k : NameKind} (h : (o == some k) = true) : o = some k := by simpa using h
theorem Good.gl (G : Good C X hot W call x n) {y : Str} (h : C.gl y = true) : Gl X y ∧ (y == ("__debug__" : Str)) = false := by
  unfold Cfg.gl at h
  rw [Bool.and_eq_true] at h
  refine ⟨?_, by simpa using h.2⟩
  show X.env.scope.names.lookup y = _
  rw [G.sc]
  exact beq_some h.1
theorem Good.vis (G : Good C X hot W call x n) {i : Nat} {y : Str} (h : C.vis i y = true) : X.N[i]? = some y ∧ Vis X.env.scope y ∧ (y == ("__debug__" : Str)) = false ∧ (y == ("__classdict__" : Str)) = false := by
  unfold Cfg.vis at h
  simp only [Bool.and_eq_true, Bool.or_eq_true, decide_eq_true_eq] at h
  obtain ⟨⟨⟨h1, h2⟩, h3⟩, h4⟩ := h
  refine ⟨by rw [G.N]; exact h1, ?_, by simpa using h3, by simpa using h4⟩
  unfold Vis
  rw [G.sc]
  rcases h2 with (h2 | h2) | h2
  · exact .inl (beq_some h2)
  · exact .inr (.inl (beq_some h2))
  · exact .inr (.inr (beq_some h2))
theorem Good.cold (G : Good C X hot W call x n) {i : Nat} (h : C.hot ≠ some i) : Cold hot i := fun t e z => h (by rw [G.hotC t e, z])
theorem Good.store (G : Good C X hot W call x n) {i : Nat} {y : Str} (h : C.store i y = true) : Own X i y ∧ Cold hot i := by
  unfold Cfg.store at h
  simp only [Bool.and_eq_true, Bool.or_eq_true, decide_eq_true_eq] at h
  obtain ⟨⟨⟨h1, h2⟩, h3⟩, h4⟩ := h
  refine ⟨⟨by rw [G.N]; exact h1, ?_, G.mine y h3⟩, G.cold h4⟩
  unfold L2.Loc
  rw [G.sc]
  rcases h2 with h2 | h2
  · exact .inl (beq_some h2)
  · exact .inr (beq_some h2)
theorem Good.mgb (G : Good C X hot W call x n) {y : Str} (h : y ∈ bltNames) : X.mg y = none := G.gnd.blt y h
theorem bi_blt (b : Bi) : b.name ∈ bltNames := by cases b <;> decide
theorem ty_blt (t : Ty) : Str.ofString t.name ∈ bltNames := by cases t <;> decide
theorem lit_ok {d : D} {e : Expr} (h : litB d e = true) : isIfx e = false ∧ PE X e (tM (gm X C.P hot) W (sem call C.P x (.lit d))) := by
  unfold litB at h
  split at h
  · exact ⟨rfl, r_lit pe_non fun _ _ => rep_non⟩
  · rename_i b c _ _
    have e : b = c := by simpa using h
    subst e
    exact ⟨rfl, r_lit pe_bl fun _ _ => rep_bl⟩
  · rename_i b c _ _
    have e : b = c := by simpa using h
    subst e
    exact ⟨rfl, r_lit pe_int fun _ _ => rep_int⟩
  · rename_i b c _ _
    have e : b = c := by simpa using h
    subst e
    exact ⟨rfl, r_lit pe_str fun _ _ => rep_str⟩
  · cases h
/-- as a value, as a test -/
def Both (X : Cx) (C : Cfg) (hot : Option Hot) (W : WX) (call : Nat → List D → Hh → Res D) (x : Option Ex) (m : ME) (q : Bool) (e : Expr) : Prop :=
  (q = false → PE X e (tM (gm X C.P hot) W (sem call C.P x m))) ∧ (q = true → PT X e (tMb (gm X C.P hot) W (semB call C.P x m)) ∧ ∀ o xs pos, e = .BoolOp o xs pos → PW X e (tMb (gm X C.P hot) W (semB call C.P x m)))
theorem both_of {m : ME} {q : Bool} {e : Expr} (h : PE X e (tM (gm X C.P hot) W (sem call C.P x m))) (hi : isIfx e = false) : Both X C hot W call x m q e :=
  ⟨fun _ => h, fun _ => ⟨t_truth h (is_true hi), fun o xs pos z => by subst z; cases hi⟩⟩
theorem gs_ok (G : Good C X hot W call x n) : ∀ {is : List Nat} {es : List Expr}, chkN is C es = true → PGs X es (gsM (gm X C.P hot) is) ∧ es.length = is.length ∧ es.all isName = true
  | [], es, h => by
    simp only [chkN] at h
    split at h
    · exact ⟨gs_nil, rfl, rfl⟩
    · cases h
  | i :: is, es, h => by
    simp only [chkN] at h
    split at h
    · rename_i y p r
      rw [Bool.and_eq_true] at h
      obtain ⟨h1, h2⟩ := G.store h.1
      obtain ⟨h3, h4, h5⟩ := gs_ok G h.2
      exact ⟨gs_cons (by rw [G.N]; exact G.nd) h1 h2 h3 (ass1 rfl), by simp [h4], by simp [isName, h5]⟩
    · cases h
theorem g_ok (G : Good C X hot W call x n) {t : MT} {e : Expr} (h : chkG t C e = true) : PG X e (gM (gm X C.P hot) t) := by
  cases t with
  | nm i =>
    simp only [chkG] at h
    split at h
    · obtain ⟨h1, h2⟩ := G.store h
      exact g_nm (by rw [G.N]; exact G.nd) h1 h2
    · cases h
  | tp is =>
    simp only [chkG] at h
    split at h
    · rw [Bool.and_eq_true] at h
      obtain ⟨h1, h2, h3⟩ := gs_ok G h.2
      exact g_tp (G.calm h.1).2.1 h1 (by rw [ass_len, h2]) (ass_find h3)
    · cases h
/-- a comprehension's block -/
theorem Good.blk (G : Good C X hot W call x n) (hc : C.calm = true) {s : Shared} {H : Hp} {scope : Scope} {A : Addr} {cl : List (Str × Addr)} {fp : List Addr} : Good (C.blk scope) (X.blk s H scope (compEnvC scope cl A X.env) fp) none W0 call x n := by
  obtain ⟨h1, h2, h3, h4, h5, h6⟩ := G.calm hc
  have hs : (compEnvC scope cl A X.env).scope = relS scope C.sc := by rw [← G.sc]; rfl
  refine ⟨hs, G.N, G.nd, fun y hy => ?_, (fun t z => by cases z), G.un, ⟨G.gnd.blt, G.gnd.con, ⟨G.gnd.exc.mg, G.gnd.exc.sup, G.gnd.exc.no, G.gnd.exc.exm, G.gnd.exc.val⟩, G.gnd.ins⟩, fun _ => ⟨rfl, h2, h3, fun u s' ⟨a, B, sI, pins, σ, H, cls, d, e, I, nb, up, sky, na, os, ag, w⟩ => w, h5, ⟨h6.fn, h6.sig, fun c ci e => let ⟨D, k⟩ := h6.cls c ci e; ⟨D, ⟨k.mg, k.cls, k.flds, k.init, k.meths⟩⟩⟩⟩, (fun i z => by cases z), fun i z => by cases z⟩
  have hy' : (scope.names.lookup y == some .cell || (relS scope C.sc).names.lookup y == some .local) = true := hy
  rw [Bool.or_eq_true] at hy'
  rcases hy' with h | h
  · exact .inl h
  · right
    show (compEnvC scope cl A X.env).scope.names.lookup y = _
    rw [hs]
    exact beq_some h
theorem glb_ok (G : Good C X hot W call x n) {g : Nat} {y : Str} {pos : Pos} (h1 : C.gl y = true) (h2 : (match C.P.consts[g]? with | some c => c.1 == y | none => false) = true) : PE X (.Name y pos) (tM (gm X C.P hot) W (sem call C.P x (.glb g))) := by
  obtain ⟨hg, hd⟩ := G.gl h1
  split at h2
  · rename_i c hc
    obtain ⟨v, u, e1, e2, e3⟩ := G.gnd.con g c hc
    have e : c.1 = y := by simpa using h2
    subst e
    exact r_glb hg e1 e2 hd hc e3
  · cases h2
/-- arguments, one by one -/
inductive AllP (X : Cx) (C : Cfg) (hot : Option Hot) (W : WX) (call : Nat → List D → Hh → Res D) (x : Option Ex) : MEs → List Expr → Prop where
  | nil : AllP X C hot W call x .nil []
  | cons {m : ME} {r : MEs} {y : Expr} {ys : List Expr} : okx y = true → PE X y (tM (gm X C.P hot) W (sem call C.P x m)) → AllP X C hot W call x r ys → AllP X C hot W call x (.cons m r) (y :: ys)
theorem AllP.pa {es : MEs} {xs : List Expr} (h : AllP X C hot W call x es xs) : PA X xs (tMa (gm X C.P hot) W (semA call C.P x es)) := by
  induction h with
  | nil => exact a_nil
  | cons h1 h2 _ ih => exact a_cons h2 ih (star1 h1)
theorem AllP.ok {es : MEs} {xs : List Expr} (h : AllP X C hot W call x es xs) : xs.all okx = true := by
  induction h with
  | nil => rfl
  | cons h1 _ _ ih => simp [h1, ih]
theorem AllP.one {es : MEs} {y : Expr} (h : AllP X C hot W call x es [y]) : ∃ m, es = .cons m .nil ∧ PE X y (tM (gm X C.P hot) W (sem call C.P x m)) := by
  cases h with
  | cons h1 h2 h3 => cases h3; exact ⟨_, rfl, h2⟩
theorem AllP.two {es : MEs} {y z : Expr} (h : AllP X C hot W call x es [y, z]) : ∃ m k, es = .cons m (.cons k .nil) ∧ PE X y (tM (gm X C.P hot) W (sem call C.P x m)) ∧ PE X z (tM (gm X C.P hot) W (sem call C.P x k)) := by
  cases h with
  | cons h1 h2 h3 =>
    obtain ⟨k, rfl, h4⟩ := h3.one
    exact ⟨_, k, rfl, h2, h4⟩
theorem AllP.zero {es : MEs} (h : AllP X C hot W call x es []) : es = .nil := by
  cases h
  rfl
theorem all1 {y : Expr} {ys : List Expr} (h : (y :: ys).all okx = true) : okx y = true ∧ ys.all okx = true := by
  rw [List.all_cons, Bool.and_eq_true] at h
  exact h
theorem call_ok (G : Good C X hot W call x n) {f : Nat} {es : MEs} {y : Str} {xs : List Expr} {p pos : Pos} (hc : C.calm = true) (hg : C.gl y = true) (hf : (match C.P.fns[f]? with | some fi => fi.top && fi.plain && fi.name == y | none => false) = true) (ha : AllP X C hot W call x es xs) :
    PE X (.Call (.Name y p) xs [] pos) (tM (gm X C.P hot) W (sem call C.P x (.call f es))) := by
  obtain ⟨rfl, k2, k3, k4, k5, k6⟩ := G.calm hc
  obtain ⟨g1, g2⟩ := G.gl hg
  split at hf
  · rename_i fi hfi
    rw [Bool.and_eq_true, Bool.and_eq_true] at hf
    have e : fi.name = y := by simpa using hf.2
    subst e
    obtain ⟨fa, fd, ps, c1, c2, c3, c4⟩ := k6.fn f fi hfi hf.1.1
    have c4 := c4 hf.1.2
    cases ha with
    | nil => exact r_call0 c3 (k5.mono (Nat.le_succ _)) k3 g1 c1 c2 c4 k4 g2
    | cons h1 h2 h3 => exact r_call c3 (k5.mono (Nat.le_succ _)) k3 g1 c1 c2 c4 k4 (AllP.cons h1 h2 h3).pa g2 (star1 h1) (star_any h3.ok)
  · cases hf
theorem stuck_pe {e : Expr} {m : Mi.Env → Hh → Res D} (hm : ∀ env h, m env h = .stuck) : PE X e (tM (gm X C.P hot) W m) := ⟨fun pins s σ H Q I ⟨ρ, env, h, rh, re, p⟩ => by
  rw [hm] at p
  exact False.elim p⟩
theorem any_ok {q : Bool} {e : Expr} : Both X C hot W call x .any q e := by
  refine ⟨fun _ => stuck_pe fun env h => by rw [sem], fun _ => ⟨⟨fun pins s σ H Q I ⟨ρ, env, h, rh, re, p⟩ => ?_⟩, fun o xs pos _ => ⟨fun whole pins s σ H Q I ⟨ρ, env, h, rh, re, p⟩ => ?_⟩⟩⟩
  all_goals
    rw [semB, sem] at p
    exact False.elim p
/-- keywords, one by one -/
inductive AllW (X : Cx) (C : Cfg) (hot : Option Hot) (W : WX) (call : Nat → List D → Hh → Res D) (x : Option Ex) : MEs → List Str → List Keyword → Prop where
  | nil : AllW X C hot W call x .nil [] []
  | cons {m : ME} {r : MEs} {k : Str} {ks : List Str} {y : Expr} {p : Pos} {kws : List Keyword} : PE X y (tM (gm X C.P hot) W (sem call C.P x m)) → AllW X C hot W call x r ks kws → AllW X C hot W call x (.cons m r) (k :: ks) (⟨some k, y, p⟩ :: kws)
theorem AllW.pk {es : MEs} {ks : List Str} {kws : List Keyword} (h : AllW X C hot W call x es ks kws) : PK X kws (tMa (gm X C.P hot) W (semA call C.P x es)) ∧ kws.all (fun k => k.arg.isSome) = true ∧ kws.filterMap (·.arg) = ks := by
  induction h with
  | nil =>
    refine ⟨⟨fun pos pins s σ H Q I ⟨ρ, env, h, rh, re, p⟩ => ?_⟩, rfl, rfl⟩
    rw [semA] at p
    exact pk_nil.run pos pins s σ H Q I (p.ok rh _ Reps.nil)
  | cons h1 _ ih =>
    obtain ⟨a, b, c⟩ := ih
    refine ⟨⟨fun pos pins s σ H Q I ⟨ρ, env, h, rh, re, p⟩ => ?_⟩, by rw [List.all_cons, b]; rfl, by rw [List.filterMap_cons, c]⟩
    rw [semA] at p
    refine (pk_cons h1 a).run pos pins s σ H Q I ?_
    refine ⟨ρ, env, h, rh, re, p.bind fun d h2 ρ2 H2 x2 rh2 p2 v rv => ⟨ρ2, env, h2, rh2, re.mono x2, p2.bind fun ds h3 ρ3 H3 x3 rh3 p3 vs rvs => p3.ok rh3 _ (.cons (rv.mono x3) rvs)⟩⟩
theorem callK_ok (G : Good C X hot W call x n) {g : Nat} {es ws : MEs} {y : Str} {z : Expr} {xs : List Expr} {kws : List Keyword} {p pos : Pos} {sg : Sig} (hc : C.calm = true) (hg : C.gl y = true) (hs : C.P.sigs[g]? = some sg) (hf : (match C.P.fns[sg.f]? with | some fi => fi.top && fi.name == y | none => false) = true)
    (ha : AllP X C hot W call x es (z :: xs)) (hw : AllW X C hot W call x ws sg.ks kws) : PE X (.Call (.Name y p) (z :: xs) kws pos) (tM (gm X C.P hot) W (sem call C.P x (.callK g es ws))) := by
  obtain ⟨rfl, k2, k3, k4, k5, k6⟩ := G.calm hc
  obtain ⟨g1, g2⟩ := G.gl hg
  obtain ⟨fi, fa, fd, ps, dus, c0, c1, c2, c3, c4⟩ := k6.sig g sg hs
  rw [c0] at hf
  rw [Bool.and_eq_true] at hf
  have e : fi.name = y := by simpa using hf.2
  subst e
  obtain ⟨w1, w2, w3⟩ := hw.pk
  obtain ⟨u1, u2, u3⟩ := kw_all (pos := pos) (env := X.env) w2
  have o := all1 ha.ok
  have s1 := star1 (es := xs) (env := X.env) o.1
  refine r_callK hs c3 (k5.mono (Nat.le_succ _)) k3 g1 c1 c2 c4 k4 ha.pa w1 u1 (u2.trans w3) g2 s1 ?_
  rw [star_any ha.ok, u3]
  rfl
theorem ins_ok (G : Good C X hot W call x n) {c : Nat} {es : MEs} {y : Str} {xs : List Expr} {p pos : Pos} (hc : C.calm = true) (hg : C.gl y = true) (hf : (match C.P.inss[c]? with | some ci => ci.name == y | none => false) = true) (ha : AllP X C hot W call x es xs) :
    PE X (.Call (.Name y p) xs [] pos) (tM (gm X C.P hot) W (sem call C.P x (.ins c es))) := by
  obtain ⟨rfl, k2, k3, k4, k5, k6⟩ := G.calm hc
  obtain ⟨g1, g2⟩ := G.gl hg
  split at hf
  · rename_i ci hci
    have e : ci.name = y := by simpa using hf
    subst e
    obtain ⟨D, hD⟩ := k6.cls c ci hci
    cases ha with
    | nil => exact r_ins0 hci hD k5 k3 g1 k4 g2
    | cons h1 h2 h3 => exact r_ins hci hD k5 k3 g1 k4 (AllP.cons h1 h2 h3).pa g2 (star1 h1) (star_any h3.ok)
  · cases hf
theorem mth_ok (G : Good C X hot W call x n) {c m : Nat} {a : ME} {es : MEs} {o : Expr} {g : Str} {ap pos : Pos} {xs : List Expr} (hc : C.calm = true) (hf : (match C.P.inss[c]? with | some ci => (match ci.meths[m]? with | some mf => mf.1 == g | none => false) | none => false) = true) (hl : (ap.endLine == pos.line) = true) (hn : xs.length < 29)
    (hs : isSup o = false) (ho : PE X o (tM (gm X C.P hot) W (sem call C.P x a))) (ha : AllP X C hot W call x es xs) : PE X (.Call (.Attribute o g ap) xs [] pos) (tM (gm X C.P hot) W (sem call C.P x (.mth a c m es))) := by
  obtain ⟨rfl, k2, k3, k4, k5, k6⟩ := G.calm hc
  split at hf
  · rename_i ci hci
    split at hf
    · rename_i mf hmf
      have e : mf.1 = g := by simpa using hf
      subst e
      obtain ⟨D, hD⟩ := k6.cls c ci hci
      have ht := mc_plain (o := o) (name := mf.1) (env := X.env) hl (form_ok ha.ok hn)
      rw [abase hs] at ht
      cases ha with
      | nil => exact r_mth0 hci hD hmf (k5.mono (Nat.le_succ _)) k3 k4 ho ht
      | cons h1 h2 h3 => exact r_mth hci hD hmf (k5.mono (Nat.le_succ _)) k3 k4 ho (AllP.cons h1 h2 h3).pa (star1 h1) (star_any h3.ok) ht
    · cases hf
  · cases hf
theorem bi_ok (G : Good C X hot W call x n) {b : Bi} {es : MEs} {y : Str} {z : Expr} {xs : List Expr} {p pos : Pos} (hc : C.calm = true) (hg : C.gl y = true) (hb : (b.name == y) = true) (ha : AllP X C hot W call x es (z :: xs)) :
    PE X (.Call (.Name y p) (z :: xs) [] pos) (tM (gm X C.P hot) W (sem call C.P x (.bi b es))) := by
  obtain ⟨rfl, k2, k3, k4, k5, k6⟩ := G.calm hc
  have e : b.name = y := by simpa using hb
  subst e
  obtain ⟨g1, g2⟩ := G.gl hg
  obtain ⟨o1, o2⟩ := all1 ha.ok
  exact r_bi k2 G.un k3 g1 (G.mgb (bi_blt b)) ha.pa (star1 o1) (star_any o2)
theorem bm_ok (G : Good C X hot W call x n) {m : BM} {a : ME} {es : MEs} {o : Expr} {g : Str} {ap pos : Pos} {xs : List Expr} (hg : (g == m.name) = true) (hl : (ap.endLine == pos.line) = true) (hn : xs.length < 29) (hs : isSup o = false)
    (hm : m.few xs.length = true)
    (ho : PE X o (tM (gm X C.P hot) W (sem call C.P x a))) (ha : AllP X C hot W call x es xs) : PE X (.Call (.Attribute o g ap) xs [] pos) (tM (gm X C.P hot) W (sem call C.P x (.bm a m es))) := by
  have e : g = m.name := by simpa using hg
  subst e
  have hu : X.A.units + 1 < cLine := by have := G.un; omega
  have lst : ∀ (id : String), (m = .append ∨ m = .pop ∨ m = .popAt ∨ m = .extend ∨ m = .index) → Slot "list" m.name id → typeOf (.builtin id) = pure (.type "method_descriptor") → MtR X id (rLm X C.P hot m) → xs ≠ [] → PE X (.Call (.Attribute o m.name ap) xs [] pos) (tM (gm X C.P hot) W (sem call C.P x (.bm a m es))) := fun id h1 h2 h3 h4 h5 => by
    cases ha with
    | nil => exact absurd rfl h5
    | cons q1 q2 q3 => exact r_lm h1 h2 h3 h4 ho (AllP.cons q1 q2 q3).pa (abase hs) (few_ok (AllP.cons q1 q2 q3).ok hn) hl (star1 q1) (star_any q3.ok)
  cases m with
  | append =>
    have h : xs.length = 1 := by simpa [BM.few] using hm
    exact lst _ (.inl rfl) F.slot_list_append F.type_list_append lm_append (fun z => by rw [z] at h; cases h)
  | extend =>
    have h : xs.length = 1 := by simpa [BM.few] using hm
    exact lst _ (.inr (.inr (.inr (.inl rfl)))) F.slot_list_extend F.type_list_extend lm_extend (fun z => by rw [z] at h; cases h)
  | popAt =>
    have h : xs.length = 1 := by simpa [BM.few] using hm
    exact lst _ (.inr (.inr (.inl rfl))) F.slot_list_pop F.type_list_pop lm_popAt (fun z => by rw [z] at h; cases h)
  | pop =>
    have h : xs = [] := by simpa [BM.few] using hm
    subst h
    rw [ha.zero]
    exact r_lm0 ho (abase hs) hl
  | get =>
    have h : xs.length = 1 := by simpa [BM.few] using hm
    obtain ⟨z, rfl⟩ := List.length_eq_one_iff.mp h
    obtain ⟨m, rfl, hz⟩ := ha.one
    have o1 := (all1 ha.ok).1
    exact r_get1 hu ho hz ⟨abase hs, few_ok ha.ok hn, hl, back1 o1⟩
  | getOr =>
    have h : xs.length = 2 := by simpa [BM.few] using hm
    obtain ⟨z, t, rfl⟩ : ∃ z t, xs = [z, t] := by
      match xs, h with
      | [z, t], _ => exact ⟨z, t, rfl⟩
    obtain ⟨m, k, rfl, hz, ht⟩ := ha.two
    have o1 := all1 ha.ok
    exact r_get2 hu ho hz ht ⟨abase hs, few_ok ha.ok hn, hl, back2 o1.1 (all1 o1.2).1⟩
  | index =>
    have h : xs.length = 1 := by simpa [BM.few] using hm
    exact lst _ (.inr (.inr (.inr (.inr rfl)))) F.slot_list_index F.type_list_index (lm_index (by have := G.un; omega)) (fun z => by rw [z] at h; cases h)
  | bitLength =>
    have h : xs = [] := by simpa [BM.few] using hm
    subst h
    rw [ha.zero]
    exact r_bits ho (abase hs) hl
end
end Mi
end
section
set_option Elab.async false
set_option linter.all false
set_option maxRecDepth 100000
set_option maxHeartbeats 1000000
namespace Mi
open PySem PySem.Spec PyProof.Rows L2
section
variable {call : Nat → List D → Hh → Res D} {x : Option Ex} {n : Nat}
mutual
theorem chkE_ok : ∀ (m : ME) (q : Bool) (C : Cfg) (X : Cx) (hot : Option Hot) (W : WX), Good C X hot W call x n → ∀ e, chkE m q C e = true → Both X C hot W call x m q e
  | .var i, q, C, X, hot, W, G, e, h => by
    simp only [chkE] at h
    split at h
    · obtain ⟨h1, h2, h3, h4⟩ := G.vis h
      exact both_of (r_var h1 h2 h3 h4) rfl
    · cases h
  | .lit d, q, C, X, hot, W, G, e, h => by
    simp only [chkE] at h
    obtain ⟨h1, h2⟩ := lit_ok (C := C) (hot := hot) (W := W) (call := call) (x := x) h
    exact both_of h2 h1
  | .glb g, q, C, X, hot, W, G, e, h => by
    simp only [chkE] at h
    split at h
    · rw [Bool.and_eq_true] at h
      exact both_of (glb_ok G h.1 h.2) rfl
    · cases h
  | .bin o a b, q, C, X, hot, W, G, e, h => by
    simp only [chkE] at h
    split at h
    · simp only [Bool.and_eq_true, decide_eq_true_eq] at h
      obtain ⟨⟨h1, h2⟩, h3⟩ := h
      subst h1
      exact both_of (r_bin ((chkE_ok a false C X hot W G _ h2).1 rfl) ((chkE_ok b false C X hot W G _ h3).1 rfl)) rfl
    · cases h
  | .neg a, q, C, X, hot, W, G, e, h => by
    simp only [chkE] at h
    split at h
    · exact both_of (r_neg ((chkE_ok a false C X hot W G _ h).1 rfl)) rfl
    · cases h
  | .cmp o a b, q, C, X, hot, W, G, e, h => by
    simp only [chkE] at h
    split at h
    · simp only [Bool.and_eq_true, decide_eq_true_eq] at h
      obtain ⟨⟨⟨h1, h2⟩, h3⟩, h4⟩ := h
      subst h1
      have ha := (chkE_ok a false C X hot W G _ h3).1 rfl
      have hb := (chkE_ok b false C X hot W G _ h4).1 rfl
      have hu : X.A.units + 65 < cLine := by have := G.un; omega
      exact ⟨fun _ => r_cmp hu ha hb (beh_in h2 _), fun _ => ⟨t_cmp hu ha hb (beh_in h2 _), fun o xs pos z => by cases z⟩⟩
    · cases h
  | .cmp2 o o' a b c, q, C, X, hot, W, G, e, h => by
    simp only [chkE] at h
    split at h
    · simp only [Bool.and_eq_true, decide_eq_true_eq] at h
      obtain ⟨⟨⟨⟨⟨h1, h1'⟩, h2⟩, h3⟩, h4⟩, h5⟩ := h
      subst h1 h1'
      have ha := (chkE_ok a false C X hot W G _ h3).1 rfl
      have hb := (chkE_ok b false C X hot W G _ h4).1 rfl
      have hc := (chkE_ok c false C X hot W G _ h5).1 rfl
      have hu : X.A.units + 65 < cLine := by have := G.un; omega
      exact ⟨fun _ => r_cmp2 hu ha hb hc (last2 h2), fun _ => ⟨t_cmp2 hu ha hb hc (last2 h2), fun o xs pos z => by cases z⟩⟩
    · cases h
  | .and a b, q, C, X, hot, W, G, e, h => by
    simp only [chkE] at h
    split at h
    · rw [Bool.and_eq_true] at h
      have ha := chkE_ok a q C X hot W G _ h.1
      have hb := chkE_ok b q C X hot W G _ h.2
      refine ⟨fun z => r_and (ha.1 z) (r_one (hb.1 z)), fun z => ⟨(t_and (ha.2 z).1 (t_and1 (hb.2 z).1)).pt, fun o xs pos z' => ?_⟩⟩
      cases z'
      exact t_and (ha.2 z).1 (t_and1 (hb.2 z).1)
    · rw [Bool.and_eq_true] at h
      have ha := chkE_ok a q C X hot W G _ h.1
      have hb := chkE_ok b q C X hot W G _ h.2
      refine ⟨fun z => r_and (ha.1 z) (hb.1 z), fun z => ?_⟩
      have pw := t_and (ha.2 z).1 ((hb.2 z).2 _ _ _ rfl)
      exact ⟨pw.pt, fun o xs pos z => by cases z; exact pw⟩
    · cases h
  | .or a b, q, C, X, hot, W, G, e, h => by
    simp only [chkE] at h
    split at h
    · rw [Bool.and_eq_true] at h
      have ha := chkE_ok a q C X hot W G _ h.1
      have hb := chkE_ok b q C X hot W G _ h.2
      refine ⟨fun z => r_or (ha.1 z) (r_one (hb.1 z)), fun z => ⟨(t_or (ha.2 z).1 (t_and1 (hb.2 z).1)).pt, fun o xs pos z' => ?_⟩⟩
      cases z'
      exact t_or (ha.2 z).1 (t_and1 (hb.2 z).1)
    · rw [Bool.and_eq_true] at h
      have ha := chkE_ok a q C X hot W G _ h.1
      have hb := chkE_ok b q C X hot W G _ h.2
      refine ⟨fun z => r_or (ha.1 z) (hb.1 z), fun z => ?_⟩
      have pw := t_or (ha.2 z).1 ((hb.2 z).2 _ _ _ rfl)
      exact ⟨pw.pt, fun o xs pos z => by cases z; exact pw⟩
    · cases h
  | .not a, q, C, X, hot, W, G, e, h => by
    simp only [chkE] at h
    split at h
    · have ha := chkE_ok a q C X hot W G _ h
      exact ⟨fun z => r_not (ha.1 z), fun z => ⟨t_not (ha.2 z).1, fun o xs pos z => by cases z⟩⟩
    · cases h
  | .ifx c a b, q, C, X, hot, W, G, e, h => by
    simp only [chkE] at h
    split at h
    · simp only [Bool.and_eq_true] at h
      obtain ⟨⟨⟨h0, h1⟩, h2⟩, h3⟩ := h
      refine ⟨fun _ => r_ifx ((chkE_ok c true C X hot W G _ h1).2 rfl).1 ((chkE_ok a false C X hot W G _ h2).1 rfl) ((chkE_ok b false C X hot W G _ h3).1 rfl), fun z => ?_⟩
      rw [z] at h0
      cases h0
    · cases h
  | .tup es, q, C, X, hot, W, G, e, h => by
    simp only [chkE] at h
    split at h
    · simp only [Bool.and_eq_true, decide_eq_true_eq] at h
      exact both_of (r_tup' (chkA_ok es C X hot W G _ h.2).pa h.1) rfl
    · cases h
  | .frz m, q, C, X, hot, W, G, e, h => by
    simp only [chkE, Bool.and_eq_true] at h
    exact both_of (r_frz (chkC_ok m C X hot W G _ h.2)) (by simpa using h.1)
  | .new m, q, C, X, hot, W, G, e, h => by
    simp only [chkE, Bool.and_eq_true] at h
    exact both_of (r_new (chkC_ok m C X hot W G _ h.2)) (by simpa using h.1)
  | .call f es, q, C, X, hot, W, G, e, h => by
    simp only [chkE] at h
    split at h
    · simp only [Bool.and_eq_true] at h
      obtain ⟨⟨⟨⟨h1, h2⟩, h3⟩, h4⟩, h5⟩ := h
      exact both_of (call_ok G h1 h2 h3 (chkA_ok es C X hot W G _ h5)) rfl
    · cases h
  | .bi b es, q, C, X, hot, W, G, e, h => by
    simp only [chkE] at h
    split at h
    · simp only [Bool.and_eq_true] at h
      obtain ⟨⟨⟨⟨h1, h2⟩, h3⟩, h4⟩, h5⟩ := h
      exact both_of (bi_ok G h1 h2 h3 (chkA_ok es C X hot W G _ h5)) rfl
    · cases h
  | .isi a ts, q, C, X, hot, W, G, e, h => by
    simp only [chkE] at h
    split at h
    · split at h
      · simp only [Bool.and_eq_true, beq_iff_eq] at h
        obtain ⟨⟨⟨⟨⟨rfl, h2⟩, rfl⟩, h4⟩, h5⟩, h6⟩ := h
        exact both_of (r_isi1 (G.gl h2).1 (G.mgb (by decide)) (G.gl h4).1 (G.mgb (ty_blt _)) ((chkE_ok a false C X hot W G _ h6).1 rfl) (star1 h5) (star_any rfl) (star1 rfl)) rfl
      · cases h
    · split at h
      · simp only [Bool.and_eq_true, beq_iff_eq] at h
        obtain ⟨⟨⟨⟨⟨⟨⟨rfl, h2⟩, rfl⟩, h4⟩, rfl⟩, h4'⟩, h5⟩, h6⟩ := h
        exact both_of (r_isi2 (G.gl h2).1 (G.mgb (by decide)) (G.gl h4).1 (G.mgb (ty_blt _)) (G.gl h4').1 (G.mgb (ty_blt _)) ((chkE_ok a false C X hot W G _ h6).1 rfl) (star1 h5) (star_any rfl) (star1 rfl) (star1 rfl) (star1 rfl)) rfl
      · cases h
    · cases h
  | .fld a f, q, C, X, hot, W, G, e, h => by
    simp only [chkE] at h
    split at h
    · simp only [Bool.and_eq_true, beq_iff_eq] at h
      obtain ⟨⟨rfl, h2⟩, h3⟩ := h
      exact both_of (r_fld G.gnd.ins ((chkE_ok a false C X hot W G _ h3).1 rfl) (abase (by simpa using h2))) rfl
    · cases h
  | .mth a c m es, q, C, X, hot, W, G, e, h => by
    simp only [chkE] at h
    split at h
    · simp only [Bool.and_eq_true, decide_eq_true_eq] at h
      obtain ⟨⟨⟨⟨⟨⟨⟨h1, h2⟩, h3⟩, h4⟩, h5⟩, h6⟩, h7⟩, h8⟩ := h
      exact both_of (mth_ok G h1 h2 h3 h4 (by simpa using h6) ((chkE_ok a false C X hot W G _ h7).1 rfl) (chkA_ok es C X hot W G _ h8)) rfl
    · cases h
  | .bm a m es, q, C, X, hot, W, G, e, h => by
    simp only [chkE] at h
    split at h
    · rw [Bool.and_eq_true, Bool.and_eq_true, Bool.and_eq_true, Bool.and_eq_true, Bool.and_eq_true, Bool.and_eq_true, Bool.and_eq_true] at h
      obtain ⟨⟨⟨⟨⟨⟨⟨h1, h2⟩, h3⟩, h4⟩, h5⟩, h6⟩, h7⟩, h8⟩ := h
      exact both_of (bm_ok G h1 h2 (of_decide_eq_true h3) (by simpa using h5) h6 ((chkE_ok a false C X hot W G _ h7).1 rfl) (chkA_ok es C X hot W G _ h8)) rfl
    · cases h
  | .ix a i, q, C, X, hot, W, G, e, h => by
    simp only [chkE] at h
    split at h
    · simp only [Bool.and_eq_true] at h
      obtain ⟨⟨h1, h2⟩, h3⟩ := h
      exact both_of (r_ix (by have := G.un; omega) ((chkE_ok a false C X hot W G _ h2).1 rfl) ((chkE_ok i false C X hot W G _ h3).1 rfl) (plain_ix h1)) rfl
    · cases h
  | .slc a lo hi, q, C, X, hot, W, G, e, h => by
    simp only [chkE] at h
    split at h
    · simp only [Bool.and_eq_true] at h
      obtain ⟨⟨h1, h2⟩, h3⟩ := h
      exact both_of (r_slc ((chkE_ok a false C X hot W G _ h1).1 rfl) (chkO_ok lo C X hot W G _ h2) (chkO_ok hi C X hot W G _ h3)) rfl
    · cases h
  | .dnew t, q, C, X, hot, W, G, e, h => by
    simp only [chkE] at h
    split at h
    · have : t = false := by simpa using h
      subst this
      exact both_of r_dnew rfl
    · cases h
  | .dsp ks, q, C, X, hot, W, G, e, h => by
    simp only [chkE] at h
    split at h
    · simp only [Bool.and_eq_true, decide_eq_true_eq] at h
      obtain ⟨⟨h1, h2⟩, h3⟩ := h
      exact both_of (r_dsp (chkK_ok ks C X hot W G _ _ h3) (fun z => by rw [z] at h1; cases h1) h2) rfl
    · cases h
  | .ins c es, q, C, X, hot, W, G, e, h => by
    simp only [chkE] at h
    split at h
    · simp only [Bool.and_eq_true] at h
      obtain ⟨⟨⟨⟨h1, h2⟩, h3⟩, h4⟩, h5⟩ := h
      exact both_of (ins_ok G h1 h2 h3 (chkA_ok es C X hot W G _ h5)) rfl
    · cases h
  | .xf f, q, C, X, hot, W, G, e, h => by
    simp only [chkE] at h
    split at h
    · simp only [Bool.and_eq_true, beq_iff_eq, decide_eq_true_eq] at h
      obtain ⟨⟨rfl, h2⟩, h3⟩ := h
      split at h2
      · rename_i i hi
        exact both_of (G.xf i hi _ h3 _ _ _ h2) rfl
      · cases h2
    · cases h
  | .xis ts, q, C, X, hot, W, G, e, h => by
    simp only [chkE] at h
    split at h
    · rw [Bool.and_eq_true, Bool.and_eq_true, Bool.and_eq_true, Bool.and_eq_true] at h
      obtain ⟨⟨⟨⟨h1, h2⟩, h3⟩, h4⟩, h5⟩ := h
      have e1 := beq_iff_eq.mp h1
      subst e1
      split at h3
      · rename_i i hi
        split at h5
        · exact both_of (G.xis i hi _ _ _ _ _ _ h3 h2 h4 none (by simpa using h5)) rfl
        · rename_i c
          split at h5
          · rename_i ec hec
            exact both_of (G.xis i hi _ _ _ _ _ _ h3 h2 h4 (some c) ⟨ec, hec, by simpa using h5⟩) rfl
          · cases h5
        · cases h5
      · cases h3
    · cases h
  | .callK g es ws, q, C, X, hot, W, G, e, h => by
    simp only [chkE] at h
    split at h
    · rw [Bool.and_eq_true, Bool.and_eq_true, Bool.and_eq_true] at h
      obtain ⟨⟨⟨h1, h2⟩, h3⟩, h4⟩ := h
      split at h3
      · rename_i sg hsg
        rw [Bool.and_eq_true] at h3
        exact both_of (callK_ok G h1 h2 hsg h3.1 (chkA_ok es C X hot W G _ h4) (chkW_ok ws C X hot W G _ _ h3.2)) rfl
      · cases h3
    · cases h
  | .any, q, C, X, hot, W, G, e, h => any_ok
theorem chkW_ok : ∀ (m : MEs) (C : Cfg) (X : Cx) (hot : Option Hot) (W : WX), Good C X hot W call x n → ∀ ks kws, chkW m C ks kws = true → AllW X C hot W call x m ks kws
  | .nil, C, X, hot, W, G, ks, kws, h => by
    simp only [chkW, Bool.and_eq_true] at h
    obtain ⟨h1, h2⟩ := h
    have e1 := List.isEmpty_iff.mp h1
    have e2 := List.isEmpty_iff.mp h2
    subst e1 e2
    exact .nil
  | .cons m r, C, X, hot, W, G, ks, kws, h => by
    simp only [chkW] at h
    split at h
    · rw [Bool.and_eq_true, Bool.and_eq_true] at h
      obtain ⟨⟨h1, h2⟩, h3⟩ := h
      have e1 := beq_iff_eq.mp h1
      subst e1
      exact .cons ((chkE_ok m false C X hot W G _ h2).1 rfl) (chkW_ok r C X hot W G _ _ h3)
    · cases h
theorem chkA_ok : ∀ (m : MEs) (C : Cfg) (X : Cx) (hot : Option Hot) (W : WX), Good C X hot W call x n → ∀ xs, chkA m C xs = true → AllP X C hot W call x m xs
  | .nil, C, X, hot, W, G, xs, h => by
    simp only [chkA] at h
    split at h
    · exact .nil
    · cases h
  | .cons m r, C, X, hot, W, G, xs, h => by
    simp only [chkA] at h
    split at h
    · simp only [Bool.and_eq_true] at h
      obtain ⟨⟨h1, h2⟩, h3⟩ := h
      exact .cons h1 ((chkE_ok m false C X hot W G _ h2).1 rfl) (chkA_ok r C X hot W G _ h3)
    · cases h
theorem chkK_ok : ∀ (m : MKs) (C : Cfg) (X : Cx) (hot : Option Hot) (W : WX), Good C X hot W call x n → ∀ ks vs, chkK m C ks vs = true → Ents X C.P hot W call x ks vs m
  | .nil, C, X, hot, W, G, ks, vs, h => by
    simp only [chkK] at h
    split at h
    · exact .nil
    · cases h
  | .cons k m r, C, X, hot, W, G, ks, vs, h => by
    simp only [chkK] at h
    split at h
    · simp only [Bool.and_eq_true, beq_iff_eq] at h
      obtain ⟨⟨rfl, h2⟩, h3⟩ := h
      exact .cons ((chkE_ok m false C X hot W G _ h2).1 rfl) (chkK_ok r C X hot W G _ _ h3)
    · cases h
theorem chkO_ok : ∀ (m : MO) (C : Cfg) (X : Cx) (hot : Option Hot) (W : WX), Good C X hot W call x n → ∀ o, chkO m C o = true → PO X o (tMo (gm X C.P hot) W (semO call C.P x m))
  | .none, C, X, hot, W, G, o, h => by
    simp only [chkO] at h
    split at h
    · exact o_none
    · cases h
  | .some m, C, X, hot, W, G, o, h => by
    simp only [chkO] at h
    split at h
    · exact o_some ((chkE_ok m false C X hot W G _ h).1 rfl)
    · cases h
theorem chkC_ok : ∀ (m : MC) (C : Cfg) (X : Cx) (hot : Option Hot) (W : WX), Good C X hot W call x n → ∀ e, chkC m C e = true → PE X e (tMl (gm X C.P hot) W (semC call C.P x m))
  | .dsp es, C, X, hot, W, G, e, h => by
    simp only [chkC] at h
    split at h
    · simp only [Bool.and_eq_true, decide_eq_true_eq] at h
      exact c_dsp (chkA_ok es C X hot W G _ h.2).pa h.1
    · cases h
  | .lc own t it cs m, C, X, hot, W, G, e, h => by
    simp only [chkC] at h
    split at h
    · rename_i elt tg iter ifs a scope pos
      simp only [Bool.and_eq_true, decide_eq_true_eq] at h
      obtain ⟨⟨⟨⟨⟨⟨⟨⟨h1, h2⟩, h3⟩, h4⟩, h5⟩, h6⟩, h7⟩, h8⟩, h9⟩ := h
      subst h2
      obtain ⟨rfl, k2, k3, k4, k5, k6⟩ := G.calm h1
      have e1 : (C.pairs own).map (·.2) = own := by simp [Cfg.pairs, List.map_map, Function.comp_def]
      have := c_lc (pos := pos) (own := C.pairs own) (t := t) (it := it) (cs := cs) (ee := m) k2 (by rw [G.N]; exact G.nd) (chkI_ok it C X none W G _ tg h6) (by rw [G.N, G.sc]; exact blkOk_by h3) (by rw [e1]; intro i hi; have := List.all_eq_true.mp h4 i hi; simpa using this)
        (fun s H A cl fp => g_ok (G.blk h1) h7) (fun s H A cl fp => chkT_ok cs (C.blk scope) _ none W0 (G.blk h1) _ h8) (fun s H A cl fp => (chkE_ok m false (C.blk scope) _ none W0 (G.blk h1) _ h9).1 rfl) (fold_set h5)
      rw [e1] at this
      exact this
    · cases h
  | .lc2 .., C, X, hot, W, G, e, h => by simp only [chkC] at h; cases h
  | .bi b m, C, X, hot, W, G, e, h => by
    simp only [chkC] at h
    split at h
    · simp only [Bool.and_eq_true] at h
      obtain ⟨⟨⟨h1, h2⟩, h3⟩, h4⟩ := h
      have e1 := beq_iff_eq.mp h2
      subst e1
      exact c_bi (G.gl h1).1 (G.mgb (bi_blt b)) (AllP.cons (C := C) h3 ((chkE_ok m false C X hot W G _ h4).1 rfl) .nil).pa (star1 h3) (star_any rfl)
    · cases h
  | .cat a b, C, X, hot, W, G, e, h => by
    simp only [chkC] at h
    split at h
    · rw [Bool.and_eq_true] at h
      exact c_cat ((chkE_ok a false C X hot W G _ h.1).1 rfl) ((chkE_ok b false C X hot W G _ h.2).1 rfl)
    · cases h
  | .rep a b, C, X, hot, W, G, e, h => by
    simp only [chkC] at h
    split at h
    · rw [Bool.and_eq_true] at h
      exact c_rep ((chkE_ok a false C X hot W G _ h.1).1 rfl) ((chkE_ok b false C X hot W G _ h.2).1 rfl)
    · cases h
theorem chkT_ok : ∀ (m : MEs) (C : Cfg) (X : Cx) (hot : Option Hot) (W : WX), Good C X hot W call x n → ∀ xs, chkT m C xs = true → PTs X xs (tMb (gm X C.P hot) W (semT call C.P x m))
  | .nil, C, X, hot, W, G, xs, h => by
    simp only [chkT] at h
    split at h
    · exact t_none
    · cases h
  | .cons m .nil, C, X, hot, W, G, xs, h => by
    simp only [chkT] at h
    split at h
    · exact t_one ((chkE_ok m true C X hot W G _ h).2 rfl).1
    · cases h
  | .cons _ (.cons _ _), C, X, hot, W, G, xs, h => by simp only [chkT] at h; cases h
theorem chkI_ok : ∀ (m : MI) (C : Cfg) (X : Cx) (hot : Option Hot) (W : WX), Good C X hot W call x n → ∀ e tg, chkI m C e tg = true → PI X tg e (tMi (gm X C.P hot) W (semI call C.P x m))
  | .val m, C, X, hot, W, G, e, tg, h => by
    simp only [chkI] at h
    exact i_val ((chkE_ok m false C X hot W G _ h).1 rfl)
  | .rng1 a, C, X, hot, W, G, e, tg, h => by
    simp only [chkI] at h
    split at h
    · simp only [Bool.and_eq_true, beq_iff_eq] at h
      obtain ⟨⟨⟨rfl, h2⟩, h3⟩, h4⟩ := h
      exact i_rng1 (G.gl h2).1 (G.mgb (by decide)) (AllP.cons (C := C) h3 ((chkE_ok a false C X hot W G _ h4).1 rfl) .nil).pa (star1 h3)
    · cases h
  | .rng2 a b, C, X, hot, W, G, e, tg, h => by
    simp only [chkI] at h
    split at h
    · simp only [Bool.and_eq_true, beq_iff_eq] at h
      obtain ⟨⟨⟨⟨⟨rfl, h2⟩, h3⟩, h3'⟩, h4⟩, h5⟩ := h
      have s2 := star1 (es := []) (env := X.env) h3'
      exact i_rng2 (G.gl h2).1 (G.mgb (by decide)) (AllP.cons (C := C) h3 ((chkE_ok a false C X hot W G _ h4).1 rfl) (.cons h3' ((chkE_ok b false C X hot W G _ h5).1 rfl) .nil)).pa (by rw [star1 h3, s2]; rfl) s2
    · cases h
  | .rng3 a b c, C, X, hot, W, G, e, tg, h => by
    simp only [chkI] at h
    split at h
    · simp only [Bool.and_eq_true, beq_iff_eq] at h
      obtain ⟨⟨⟨⟨⟨⟨⟨rfl, h2⟩, h3⟩, h3'⟩, h3''⟩, h4⟩, h5⟩, h6⟩ := h
      exact i_rng3 (G.gl h2).1 (G.mgb (by decide)) (AllP.cons (C := C) h3 ((chkE_ok a false C X hot W G _ h4).1 rfl) (.cons h3' ((chkE_ok b false C X hot W G _ h5).1 rfl) (.cons h3'' ((chkE_ok c false C X hot W G _ h6).1 rfl) .nil))).pa (star1 h3) (star_any (by simp [h3', h3'']))
    · cases h
  | .enum a, C, X, hot, W, G, e, tg, h => by
    simp only [chkI] at h
    split at h
    · simp only [Bool.and_eq_true, beq_iff_eq] at h
      obtain ⟨⟨⟨rfl, h2⟩, h3⟩, h4⟩ := h
      exact i_enum (G.gl h2).1 (G.mgb (by decide)) ((chkE_ok a false C X hot W G _ h4).1 rfl) (star1 h3)
    · cases h
  | .zip a b, C, X, hot, W, G, e, tg, h => by
    simp only [chkI] at h
    split at h
    · simp only [Bool.and_eq_true, beq_iff_eq] at h
      obtain ⟨⟨⟨⟨⟨rfl, h2⟩, h3⟩, h3'⟩, h4⟩, h5⟩ := h
      exact i_zip (G.gl h2).1 (G.mgb (by decide)) (AllP.cons (C := C) h3 ((chkE_ok a false C X hot W G _ h4).1 rfl) (.cons h3' ((chkE_ok b false C X hot W G _ h5).1 rfl) .nil)).pa (star1 h3) (star_any (by simp [h3']))
    · cases h
end
end
end Mi
end
section
set_option Elab.async false
set_option linter.all false
set_option maxRecDepth 100000
set_option maxHeartbeats 1000000
namespace Mi
open PySem PySem.Spec PyProof.Rows L2

def Cfg.suite (C : Cfg) (i : Nat) : Cfg := { C with hot := some i, full := false, calm := false }
def isTup : Expr → Bool
  | .Tuple .. => true
  | _ => false
/-- name = [.. for ..] on one row -/
def chkL : ME → Cfg → Expr → Bool
  | .frz m, C, e => chkC m C e
  | .new m, C, e => chkC m C e
  | _, _, _ => false
def isLc : ME → Bool
  | .frz (.lc ..) => true
  | .new (.lc ..) => true
  | _ => false
/-- a, b = .., ..: stored from the right -/
def parB (C : Cfg) (ts : List Expr) (vs : List Expr) : Bool := match ts, vs with
  | [.Name y p, .Name z p'], [a, b] => (C.sc.kind == .function) && (C.sc.names.lookup y == some .local) && (C.sc.names.lookup z == some .local) && (p.line == p'.line) && !(y == z) && okx a && okx b && !([a, b].all (foldedForSure 8)) && !([a, b].all (constantsAlone 8))
  | _, _ => false
def parB3 (C : Cfg) (ts : List Expr) (vs : List Expr) : Bool := match ts, vs with
  | [.Name y p, .Name z p', .Name t p''], [a, b, c] => (C.sc.kind == .function) && (C.sc.names.lookup y == some .local) && (C.sc.names.lookup z == some .local) && (C.sc.names.lookup t == some .local) && (p.line == p'.line) && (p.line == p''.line) && !(y == z) && !(y == t) && !(z == t) && okx a && okx b && okx c && !([a, b, c].all (foldedForSure 8)) && !([a, b, c].all (constantsAlone 8))
  | _, _ => false
mutual
def chkS : MS → Cfg → Stmt → Bool
  | .set t m, C, st => match st with
    | .Assign [tg] e _ => (match t with
      | .nm i => (match tg with
        | .Name y p => C.store i y && (C.sc.kind == .function) && (if swN C e y p = true then (C.calm && isLc m && chkL m C e) else chkE m false C e)
        | _ => false)
      | .tp is => (match tg with
        | .Tuple ts _ _ => C.calm && chkN is C ts && (match e with
          | .Tuple vs _ _ => (match m with
            | .tup (.cons a (.cons b .nil)) => parB C ts vs && chkA (.cons a (.cons b .nil)) C vs
            | .tup (.cons a (.cons b (.cons c .nil))) => parB3 C ts vs && chkA (.cons a (.cons b (.cons c .nil))) C vs
            | m => decide (4 ≤ vs.length) && chkE m false C e)
          | e => chkE m false C e)
        | _ => false))
    | _ => false
  | .sets a i m, C, st => match st with
    | .Assign [.Subscript o z _] e _ => okx z && chkE a false C o && chkE i false C z && chkE m false C e
    | _ => false
  | .setf a f m, C, st => match st with
    | .Assign [.Attribute o g _] e _ => (f == g) && chkE a false C o && chkE m false C e
    | _ => false
  | .aug i o m, C, st => match st with
    | .AugAssign (.Name y _) o' e _ => C.store i y && decide (o = o') && decide (o = .Add ∨ o = .Sub) && chkE m false C e
    | _ => false
  | .augf a f o m, C, st => match st with
    | .AugAssign (.Attribute z g _) o' e _ => (f == g) && decide (o = o') && decide (o = .Add ∨ o = .Sub) && chkE a false C z && chkE m false C e
    | _ => false
  | .ife c a b, C, st => match st with
    | .If t y z _ => chkE c true C t && chkSs a C y && chkSs b C z
    | _ => false
  | .loop t it b, C, st => match st with
    | .For tg iter body [] _ => C.full && C.calm && okx iter && chkI it C iter tg && chkG t C tg && chkSs b C body
    | _ => false
  | .whl c b, C, st => match st with
    | .While t body [] _ => C.full && chkE c true C t && chkSs b C body
    | _ => false
  | .ret m, C, st => match st with
    | .Return (some e) _ => chkE m false C e
    | _ => false
  | .retN, _, st => match st with
    | .Return none _ => true
    | _ => false
  | .exp m, C, st => match st with
    | .Expr e _ => noComp e && chkE m false C e
    | _ => false
  | .pass, _, st => match st with
    | .Pass _ => true
    | .Expr (.Constant (.str _) _ _) _ => true
    | _ => false
  | .brk, _, st => match st with
    | .Break _ => true
    | _ => false
  | .cont, _, st => match st with
    | .Continue _ => true
    | _ => false
  | .raise c es, C, st => match st with
    | .Raise (some (.Call (.Name y _) xs [] _)) none _ => C.calm && C.own.contains c && C.gl y && (match C.P.excs[c]? with | some ec => ec.name == y | none => false) && chkA es C xs
    | _ => false
  | .tryx b c i s, C, st => match st with
    | .Try body [.ExceptHandler (some (.Name y _)) (some nn) (b0 :: su) _] [] [] _ => C.full && C.calm && C.gl y && (match C.P.excs[c]? with | some ec => ec.name == y | none => false) && decide (C.N[i]? = some nn) && (C.sc.names.lookup nn == some .local) && chkSs b C body && chkSs s (C.suite i) (b0 :: su)
    | _ => false
  | .any, _, _ => true
def chkSs : MSs → Cfg → List Stmt → Bool
  | .nil, _, ss => match ss with
    | [] => true
    | _ => false
  | .cons s r, C, ss => match ss with
    | st :: rest => chkS s C st && chkSs r C rest
    | _ => false
end
example (C : Cfg) (p : Pos) : chkSs (.cons .pass (.cons .retN .nil)) C [.Pass p, .Return none p] = true := by rfl

section
variable {C : Cfg} {X : Cx} {hot : Option Hot} {W : WX} {call : Nat → List D → Hh → Res D} {x : Option Ex} {n : Nat}
theorem sw_name (G : Good C X hot W call x n) (hk : C.sc.kind = .function) {e : Expr} {y : Str} {p : Pos} {l : Nat} (h : swN C e y p = false) : swapsWith e (some (.Name y p)) l X.env = pure false := by
  cases e with
  | ListComp elt gs s pos =>
    have hb : X.env.blockKind = .function := by unfold Env.blockKind; rw [G.sc, hk]; rfl
    have hkk : X.env.kindOf y = C.sc.names.lookup y := by unfold Env.kindOf; rw [G.sc]
    have e1 : swapsWith (.ListComp elt gs s pos) (some (.Name y p)) l X.env = pure (X.env.blockKind == .function && X.env.kindOf y == some .local && p.line == (Expr.ListComp elt gs s pos).pos.line && !(s.names.any fun (n, k) => n == y && (k == .local || k == .cell))) := rfl
    have e2 : (Expr.ListComp elt gs s pos).pos = pos := rfl
    rw [e1, hb, hkk, e2]
    simp only [swN, hk] at h
    rw [h]
  | SetComp => cases h
  | DictComp => cases h
  | _ => rfl
theorem sw_yes (G : Good C X hot W call x n) {elt : Expr} {gs : List Comprehension} {s : Scope} {pos : Pos} {y : Str} {p : Pos} {l : Nat} (h : swN C (.ListComp elt gs s pos) y p = true) : swapsWith (.ListComp elt gs s pos) (some (.Name y p)) l X.env = pure true ∧ X.env.scope.names.lookup y = some .local := by
  simp only [swN, Bool.and_eq_true] at h
  obtain ⟨⟨⟨h1, h2⟩, h3⟩, h4⟩ := h
  have hy : X.env.scope.names.lookup y = some .local := by rw [G.sc]; exact beq_some h2
  exact ⟨sw_true (by rw [G.sc]; simpa using h1) hy h3 (by simpa using h4), hy⟩
theorem par_sw (G : Good C X hot W call x n) {y z : Str} {p p' pt pt2 : Pos} {a b : Expr} {kt k2 : Nat} (h : parB C [.Name y p, .Name z p'] [a, b] = true) :
    swappedStores [.Tuple [.Name y p, .Name z p'] kt pt] (.Tuple [a, b] k2 pt2) X.env = pure (some [y, z]) ∧ X.env.scope.names.lookup y = some .local ∧ X.env.scope.names.lookup z = some .local ∧ y ≠ z := by
  simp only [parB, Bool.and_eq_true, Bool.not_eq_true'] at h
  obtain ⟨⟨⟨⟨⟨⟨⟨⟨h1, h2⟩, h3⟩, h4⟩, h5⟩, h6⟩, h7⟩, h8⟩, h9⟩ := h
  have hy : X.env.scope.names.lookup y = some .local := by rw [G.sc]; exact beq_some h2
  have hz : X.env.scope.names.lookup z = some .local := by rw [G.sc]; exact beq_some h3
  have hne : y ≠ z := by simpa using h5
  have hb : X.env.blockKind = .function := by
    have : C.sc.kind = .function := by simpa using h1
    unfold Env.blockKind; rw [G.sc, this]; rfl
  refine ⟨?_, hy, hz, hne⟩
  have ky : X.env.kindOf y = some .local := hy
  have kz : X.env.kindOf z = some .local := hz
  have hst : ([a, b].any fun | .Starred .. => true | _ => false) = false := by
    cases a <;> first | (cases h6; done) | (cases b <;> first | (cases h7; done) | rfl)
  have h4' : p.line = p'.line := by simpa using h4
  unfold swappedStores
  simp only [hb, hst, h8, h9]
  have hzy : (z == y) = false := by simpa using Ne.symm hne
  have e0 : (Option.map (fun x => x.pos.line) [Expr.Name y p, Expr.Name z p'].head?).getD 0 = p.line := rfl
  have e1 : (Expr.Name y p).pos = p := rfl
  simp [ky, kz, h4', List.eraseDups_cons, hzy, e0, e1]
  intro hh
  rcases hh with hh | hh
  · cases a <;> first | (cases hh; done) | cases h6
  · cases b <;> first | (cases hh; done) | cases h7
theorem par_sw3 (G : Good C X hot W call x n) {y z t : Str} {p p' p'' pt pt2 : Pos} {a b c : Expr} {kt k2 : Nat} (h : parB3 C [.Name y p, .Name z p', .Name t p''] [a, b, c] = true) :
    swappedStores [.Tuple [.Name y p, .Name z p', .Name t p''] kt pt] (.Tuple [a, b, c] k2 pt2) X.env = pure (some [y, z, t]) ∧ X.env.scope.names.lookup y = some .local ∧ X.env.scope.names.lookup z = some .local ∧ X.env.scope.names.lookup t = some .local ∧ y ≠ z ∧ y ≠ t ∧ z ≠ t := by
  simp only [parB3, Bool.and_eq_true, Bool.not_eq_true'] at h
  obtain ⟨⟨⟨⟨⟨⟨⟨⟨⟨⟨⟨⟨⟨h1, h2⟩, h3⟩, h3'⟩, h4⟩, h4b⟩, h5⟩, h5b⟩, h5c⟩, h6⟩, h7⟩, h7b⟩, h8⟩, h9⟩ := h
  have hy : X.env.scope.names.lookup y = some .local := by rw [G.sc]; exact beq_some h2
  have hz : X.env.scope.names.lookup z = some .local := by rw [G.sc]; exact beq_some h3
  have ht : X.env.scope.names.lookup t = some .local := by rw [G.sc]; exact beq_some h3'
  have n1 : y ≠ z := by simpa using h5
  have n2 : y ≠ t := by simpa using h5b
  have n3 : z ≠ t := by simpa using h5c
  have hb : X.env.blockKind = .function := by
    have : C.sc.kind = .function := by simpa using h1
    unfold Env.blockKind; rw [G.sc, this]; rfl
  refine ⟨?_, hy, hz, ht, n1, n2, n3⟩
  have ky : X.env.kindOf y = some .local := hy
  have kz : X.env.kindOf z = some .local := hz
  have kt' : X.env.kindOf t = some .local := ht
  have hst : ([a, b, c].any fun | .Starred .. => true | _ => false) = false := by
    rw [List.any_eq_false]
    intro e he
    have : okx e = true := by
      simp only [List.mem_cons, List.not_mem_nil, or_false] at he
      rcases he with rfl | rfl | rfl <;> assumption
    cases e <;> first | (cases this; done) | simp
  have h4' : p.line = p'.line := by simpa using h4
  have h4'' : p.line = p''.line := by simpa using h4b
  unfold swappedStores
  simp only [hb, hst, h8, h9]
  have zy : (z == y) = false := by simpa using Ne.symm n1
  have ty : (t == y) = false := by simpa using Ne.symm n2
  have tz : (t == z) = false := by simpa using Ne.symm n3
  have e0 : (Option.map (fun x => x.pos.line) [Expr.Name y p, Expr.Name z p', Expr.Name t p''].head?).getD 0 = p.line := rfl
  have e1 : (Expr.Name y p).pos = p := rfl
  simp [ky, kz, kt', ← h4', ← h4'', List.eraseDups_cons, zy, ty, tz, e0, e1]
  intro hh
  rcases hh with hh | hh | hh
  · cases a <;> first | (cases hh; done) | cases h6
  · cases b <;> first | (cases hh; done) | cases h7
  · cases c <;> first | (cases hh; done) | cases h7b
/-- from four on the tuple is made -/
theorem many_sw {ts vs : List Expr} {k k2 : Nat} {p p2 : Pos} {env : PySem.Env} (h : 4 ≤ vs.length) : swappedStores [.Tuple ts k p] (.Tuple vs k2 p2) env = pure none := by
  unfold swappedStores
  have : (!(ts.length == 2 || ts.length == 3) || vs.length != ts.length || env.blockKind != .function) = true := by
    by_cases h2 : ts.length = 2
    · have : vs.length ≠ ts.length := by omega
      simp [this]
    · by_cases h3 : ts.length = 3
      · have : vs.length ≠ ts.length := by omega
        simp [this]
      · simp [h2, h3]
  simp only [this]
  rfl
/-- a suite's context -/
theorem Good.suite (G : Good C X none W call x n) {i : Nat} {ex : Ex} {a : Addr} {oe : Obj} {cls : Value} {d : Option Addr} {pn : List (Addr × Obj)} (hz : Zc cls d oe) (hd : ∃ vs, oe.data = .fields vs) :
    Good (C.suite i) (X.suite a ((a, oe) :: pn)) (some ⟨a, i, ex, cls, d⟩) W0 call (some ex) n := by
  have vis : ∀ {j : Nat} {y : Str}, (C.suite i).vis j y = true → X.N[j]? = some y ∧ Vis X.env.scope y ∧ (y == ("__debug__" : Str)) = false ∧ (y == ("__classdict__" : Str)) = false := fun {j y} h => G.vis (C := C) (i := j) h
  have gl : ∀ {y : Str}, (C.suite i).gl y = true → Gl X y ∧ (y == ("__debug__" : Str)) = false := fun {y} h => G.gl (C := C) h
  have ge := G.gnd.exc
  refine ⟨G.sc, G.N, G.nd, G.mine, fun t e => by cases e; rfl, G.un, ⟨G.gnd.blt, G.gnd.con, ⟨ge.mg, ge.sup, ge.no, ge.exm, ge.val⟩, G.gnd.ins⟩, (fun z => by cases z), fun j hj f hf y p pos hv => ?_, fun j hj y z p p1 p2 pos hv hgi hgz k hk => ?_⟩
  · cases hj
    obtain ⟨v1, v2, v3, v4⟩ := vis hv
    exact r_xf ge hf hz hd v1 v2 v3 v4 (abase rfl)
  · cases hj
    obtain ⟨v1, v2, v3, v4⟩ := vis hv
    obtain ⟨g1, g2⟩ := gl hgz
    cases k with
    | none =>
      subst hk
      exact r_xis (cv := .type "ValueError") (v := .ty "ValueError") ge hz hd v1 v2 v3 v4 (gl hgi).1 (G.gnd.blt _ (by decide)) (pe_bltn (X := X.suite a ((a, oe) :: pn)) g1 (G.gnd.blt _ (by decide)) (by kernel_rfl) rfl) (fun u r => r) rfl (star1 rfl) (star_any rfl) (star1 rfl)
    | some c =>
      obtain ⟨ec, h1, rfl⟩ := hk
      obtain ⟨D, hD, _⟩ := ge.mg c ec h1
      exact r_xis (cv := .ref D) (v := .ref D) ge hz hd v1 v2 v3 v4 (gl hgi).1 (G.gnd.blt _ (by decide)) (pe_glob (X := X.suite a ((a, oe) :: pn)) g1 hD rfl g2) (fun u r => r) ⟨ec, D, h1, hD, rfl⟩ (star1 rfl) (star_any rfl) (star1 rfl)
/-- a try's body -/
theorem Good.tr (G : Good C X none W call x n) {W' : WX} {pn : List (Addr × Obj)} {xe : Value → Shared → Prop} (hc : C.calm = true) (hh : C.hot = none) (tk : Takes (X.tr pn xe) W') : Good C (X.tr pn xe) none W' call x n := by
  obtain ⟨h1, h2, h3, h4, h5, h6⟩ := G.calm hc
  have ge := G.gnd.exc
  exact ⟨G.sc, G.N, G.nd, G.mine, (fun t e => by cases e), G.un, ⟨G.gnd.blt, G.gnd.con, ⟨ge.mg, ge.sup, ge.no, ge.exm, ge.val⟩, G.gnd.ins⟩, fun _ => ⟨rfl, h2, h3, tk, h5, ⟨h6.fn, h6.sig, fun c ci e => let ⟨D, k⟩ := h6.cls c ci e; ⟨D, ⟨k.mg, k.cls, k.flds, k.init, k.meths⟩⟩⟩⟩,
    (fun i z => by rw [hh] at z; cases z), fun i z => by rw [hh] at z; cases z⟩
def Full (C : Cfg) (X : Cx) : Prop := C.full = true → C.hot = none ∧ PassesOwn (model X.prog X.w) X.A X.env X.xe ∧ X.stack = X.env :: X.outer ∧ X.env.frame = some X.env.locals
theorem raise_ok (G : Good C X hot W call x n) {c : Nat} {es : MEs} {y : Str} {xs : List Expr} {p pos pos' : Pos} (hc : C.calm = true) (ho : C.own.contains c = true) (hg : C.gl y = true) (hf : (match C.P.excs[c]? with | some ec => ec.name == y | none => false) = true) (ha : AllP X C hot W call x es xs) :
    PS X (.Raise (some (.Call (.Name y p) xs [] pos)) none pos') (tMs (gm X C.P hot) W (ssem call C.P (.raise c es) x)) := by
  obtain ⟨rfl, k2, k3, k4, k5, k6⟩ := G.calm hc
  obtain ⟨g1, g2⟩ := G.gl hg
  split at hf
  · rename_i ec hec
    have e : ec.name = y := by simpa using hf
    subst e
    have ho' : c ∈ C.own := by simpa using ho
    cases ha with
    | nil => exact s_raise0 G.gnd.exc hec ho' k5 k2 g1 g2 k4
    | cons h1 h2 h3 => exact s_raise G.gnd.exc hec ho' k5 k2 g1 g2 k4 (AllP.cons h1 h2 h3).pa (star1 h1) (star_any h3.ok)
  · cases hf
theorem setLc_ok (G : Good C X hot W call x n) {m : ME} {i : Nat} {y : Str} {p spos : Pos} {e : Expr} (hc : C.calm = true) (hs : C.store i y = true) (hsw : swN C e y p = true) (hl : isLc m = true) (h : chkL m C e = true) :
    PS X (.Assign [.Name y p] e spos) (tMs (gm X C.P hot) W (ssem call C.P (.set (.nm i) m) x)) := by
  obtain ⟨rfl, k2, k3, k4, k5, k6⟩ := G.calm hc
  obtain ⟨o1, o2⟩ := G.store hs
  have key : ∀ (f : MC → ME), Mk1 f → ∀ own t it cs mm, chkC (.lc own t it cs mm) C e = true → PS X (.Assign [.Name y p] e spos) (tMs (gm X C.P none) W (ssem call C.P (.set (.nm i) (f (.lc own t it cs mm))) x)) := fun f hf own t it cs mm h => by
    simp only [chkC] at h
    split at h
    · rename_i elt tg iter ifs a scope pos _
      simp only [Bool.and_eq_true, decide_eq_true_eq] at h
      obtain ⟨⟨⟨⟨⟨⟨⟨⟨h1, h2⟩, h3⟩, h4⟩, h5⟩, h6⟩, h7⟩, h8⟩, h9⟩ := h
      subst h2
      obtain ⟨s1, s2⟩ := sw_yes G (l := spos.line) hsw
      have e1 : (C.pairs own).map (·.2) = own := by simp [Cfg.pairs, List.map_map, Function.comp_def]
      have := s_setLc hf (i := i) (pos := pos) (own := C.pairs own) (t := t) (it := it) (cs := cs) (ee := mm) k2 (by rw [G.N]; exact G.nd) o1.at_ s2 s1 (chkI_ok it C X none W G _ tg h6) (by rw [G.N, G.sc]; exact blkOk_by h3) (by rw [e1]; intro i hi; have := List.all_eq_true.mp h4 i hi; simpa using this)
        (fun s H A cl fp => g_ok (G.blk h1) h7) (fun s H A cl fp => chkT_ok cs (C.blk scope) _ none W0 (G.blk h1) _ h8) (fun s H A cl fp => (chkE_ok mm false (C.blk scope) _ none W0 (G.blk h1) _ h9).1 rfl) (fold_set h5)
      rw [e1] at this
      exact this
    · cases h
  unfold isLc at hl
  split at hl
  · exact key .frz .frz _ _ _ _ _ (by simpa only [chkL] using h)
  · exact key .new .new _ _ _ _ _ (by simpa only [chkL] using h)
  · cases hl
end
end Mi
end
section
set_option Elab.async false
set_option linter.all false
set_option maxRecDepth 100000
set_option maxHeartbeats 1000000
namespace Mi
open PySem PySem.Spec PyProof.Rows L2
section
variable {call : Nat → List D → Hh → Res D} {n : Nat}
theorem nodupN {C : Cfg} {X : Cx} {hot : Option Hot} {W : WX} {x : Option Ex} (G : Good C X hot W call x n) : X.N.Nodup := by rw [G.N]; exact G.nd
theorem swaps_sole {e t : Expr} {env : PySem.Env} (h : isName t = false) (l : Nat) : swapsWithSole [t] e l env = pure false := swaps_other h l
theorem oper_or {o : Operator} (h : decide (o = .Add ∨ o = .Sub) = true) : o = .Add ∨ o = .Sub := of_decide_eq_true h
theorem set_ok {C : Cfg} {X : Cx} {hot : Option Hot} {W : WX} {x : Option Ex} (G : Good C X hot W call x n) (t : MT) (m : ME) (st : Stmt) (h : chkS (.set t m) C st = true) : PS X st (tMs (gm X C.P hot) W (ssem call C.P (.set t m) x)) := by
  simp only [chkS] at h
  split at h
  · rename_i tg e pos
    cases t with
    | nm i =>
      simp only at h
      split at h
      · rename_i y p
        rw [Bool.and_eq_true, Bool.and_eq_true] at h
        obtain ⟨⟨h1, h2⟩, h3⟩ := h
        have hk : C.sc.kind = .function := by simpa using h2
        split at h3
        · rename_i hsw
          rw [Bool.and_eq_true, Bool.and_eq_true] at h3
          exact setLc_ok G h3.1.1 h1 hsw h3.1.2 h3.2
        · rename_i hsw
          obtain ⟨o1, o2⟩ := G.store h1
          exact s_set (nodupN G) o1 o2 ((chkE_ok m false C X hot W G _ h3).1 rfl) (sw_name G hk (by simpa using hsw))
      · cases h
    | tp is =>
      simp only at h
      split at h
      · rename_i ts k p
        rw [Bool.and_eq_true, Bool.and_eq_true] at h
        obtain ⟨⟨h1, h2⟩, h3⟩ := h
        have hg : PG X (.Tuple ts k p) (gM (gm X C.P hot) (.tp is)) := g_ok G (t := .tp is) (by simp only [chkG, Bool.and_eq_true]; exact ⟨h1, h2⟩)
        split at h3
        · split at h3
          · rename_i vs k2 p2 m a b
            rw [Bool.and_eq_true] at h3
            obtain ⟨h3, h4⟩ := h3
            have hA := chkA_ok _ C X hot W G _ h4
            unfold parB at h3
            split at h3
            · rename_i y py z pz a' b' 
              have hp : parB C [.Name y py, .Name z pz] [a', b'] = true := h3
              obtain ⟨q1, q2, q3, q4⟩ := par_sw G (kt := k) (k2 := k2) (pt := p) (pt2 := p2) hp
              match is, h2 with
              | [i, j], h2 =>
                simp only [chkN, Bool.and_eq_true] at h2
                obtain ⟨s1, s2, _⟩ := h2
                obtain ⟨o1, o2⟩ := G.store s1
                obtain ⟨o3, o4⟩ := G.store s2
                have hij : i ≠ j := fun z => by
                  subst z
                  have := o1.at_.symm.trans o3.at_
                  cases this
                  exact q4 rfl
                exact s_par (G.calm h1).2.1 (nodupN G) o1.at_ o3.at_ hij o2 o4 q2 q3 hA.pa q1 rfl
              | [], h2 => cases h2
              | [_], h2 => simp [chkN] at h2
              | _ :: _ :: _ :: _, h2 => simp [chkN] at h2
            · cases h3
          · rename_i vs k2 p2 m a b c
            rw [Bool.and_eq_true] at h3
            obtain ⟨h3, h4⟩ := h3
            have hA := chkA_ok _ C X hot W G _ h4
            unfold parB3 at h3
            split at h3
            · rename_i y py z pz t pt a' b' c'
              have hp : parB3 C [.Name y py, .Name z pz, .Name t pt] [a', b', c'] = true := h3
              obtain ⟨q1, q2, q3, q3', q4, q5, q6⟩ := par_sw3 G (kt := k) (k2 := k2) (pt := p) (pt2 := p2) hp
              match is, h2 with
              | [i, j, l], h2 =>
                simp only [chkN, Bool.and_eq_true] at h2
                obtain ⟨s1, s2, s3, _⟩ := h2
                obtain ⟨o1, o2⟩ := G.store s1
                obtain ⟨o3, o4⟩ := G.store s2
                obtain ⟨o5, o6⟩ := G.store s3
                have ne : ∀ {i j : Nat} {y z : Str}, Own X i y → Own X j z → y ≠ z → i ≠ j := fun u v w e => by
                  subst e
                  have := u.at_.symm.trans v.at_
                  cases this
                  exact w rfl
                exact s_par3 (G.calm h1).2.1 (nodupN G) o1.at_ o3.at_ o5.at_ (ne o1 o3 q4) (ne o1 o5 q5) (ne o3 o5 q6) o2 o4 o6 q2 q3 q3' hA.pa q1 rfl
              | [], h2 => cases h2
              | [_], h2 => simp [chkN] at h2
              | [_, _], h2 => simp [chkN] at h2
              | _ :: _ :: _ :: _ :: _, h2 => simp [chkN] at h2
            · cases h3
          · rw [Bool.and_eq_true] at h3
            exact s_asg ((chkE_ok m false C X hot W G _ h3.2).1 rfl) hg (swaps_sole rfl _) (many_sw (of_decide_eq_true h3.1)) (ass1 rfl)
        · rename_i hne
          have hw : swappedStores [.Tuple ts k p] e X.env = pure none := by
            cases e <;> first | rfl | exact absurd rfl (hne _ _ _)
          exact s_asg ((chkE_ok m false C X hot W G _ h3).1 rfl) hg (swaps_sole rfl _) hw (ass1 rfl)
      · cases h
  · cases h
mutual
theorem chkS_ok : ∀ (s : MS) (C : Cfg) (X : Cx) (hot : Option Hot) (W : WX) (x : Option Ex), Good C X hot W call x n → Full C X → ∀ st, chkS s C st = true → PS X st (tMs (gm X C.P hot) W (ssem call C.P s x))
  | .set t m, C, X, hot, W, x, G, F, st, h => set_ok G t m st h
  | .sets a i m, C, X, hot, W, x, G, F, st, h => by
    simp only [chkS] at h
    split at h
    · rw [Bool.and_eq_true, Bool.and_eq_true, Bool.and_eq_true] at h
      obtain ⟨⟨⟨h1, h2⟩, h3⟩, h4⟩ := h
      refine s_sets (by have := G.un; omega) ((chkE_ok m false C X hot W G _ h4).1 rfl) ((chkE_ok a false C X hot W G _ h2).1 rfl) ((chkE_ok i false C X hot W G _ h3).1 rfl) (swaps_sole rfl _) ?_ (ass1 rfl) ?_
      · rename_i e _; cases e <;> rfl
      · rename_i z _ _ _
        intro v
        cases z <;> first | rfl | cases h1
    · cases h
  | .setf a f m, C, X, hot, W, x, G, F, st, h => by
    simp only [chkS] at h
    split at h
    · simp only [Bool.and_eq_true, beq_iff_eq] at h
      obtain ⟨⟨rfl, h2⟩, h3⟩ := h
      exact s_setf G.gnd.ins ((chkE_ok a false C X hot W G _ h2).1 rfl) ((chkE_ok m false C X hot W G _ h3).1 rfl) (swaps_other rfl _)
    · cases h
  | .aug i o m, C, X, hot, W, x, G, F, st, h => by
    simp only [chkS] at h
    split at h
    · rw [Bool.and_eq_true, Bool.and_eq_true, Bool.and_eq_true] at h
      obtain ⟨⟨⟨h1, h2⟩, h3⟩, h4⟩ := h
      have h2 := of_decide_eq_true h2
      subst h2
      obtain ⟨o1, o2⟩ := G.store h1
      exact s_aug (nodupN G) o1 o2 ((chkE_ok m false C X hot W G _ h4).1 rfl) (oper_or h3)
    · cases h
  | .augf a f o m, C, X, hot, W, x, G, F, st, h => by
    simp only [chkS] at h
    split at h
    · rw [Bool.and_eq_true, Bool.and_eq_true, Bool.and_eq_true, Bool.and_eq_true] at h
      obtain ⟨⟨⟨⟨h0, h1⟩, h2⟩, h3⟩, h4⟩ := h
      have h0 := beq_iff_eq.mp h0
      subst h0
      have h1 := of_decide_eq_true h1
      subst h1
      exact s_augf G.gnd.ins ((chkE_ok a false C X hot W G _ h3).1 rfl) ((chkE_ok m false C X hot W G _ h4).1 rfl) (oper_or h2)
    · cases h
  | .ife c a b, C, X, hot, W, x, G, F, st, h => by
    simp only [chkS] at h
    split at h
    · rw [Bool.and_eq_true, Bool.and_eq_true] at h
      obtain ⟨⟨h1, h2⟩, h3⟩ := h
      exact s_ife ((chkE_ok c true C X hot W G _ h1).2 rfl).1 (chkSs_ok a C X hot W x G F _ h2) (chkSs_ok b C X hot W x G F _ h3)
    · cases h
  | .loop t it b, C, X, hot, W, x, G, F, st, h => by
    simp only [chkS] at h
    split at h
    · rw [Bool.and_eq_true, Bool.and_eq_true, Bool.and_eq_true, Bool.and_eq_true, Bool.and_eq_true] at h
      obtain ⟨⟨⟨⟨⟨h1, h2⟩, h3⟩, h4⟩, h5⟩, h6⟩ := h
      exact s_loop (F h1).2.1 (G.calm h2).2.1 (chkI_ok it C X hot W G _ _ h4) (g_ok G h5) (chkSs_ok b C X hot W x G F _ h6) (fold_set h3)
    · cases h
  | .whl c b, C, X, hot, W, x, G, F, st, h => by
    simp only [chkS] at h
    split at h
    · rw [Bool.and_eq_true, Bool.and_eq_true] at h
      obtain ⟨⟨h1, h2⟩, h3⟩ := h
      exact s_whl (F h1).2.1 ((chkE_ok c true C X hot W G _ h2).2 rfl).1 (chkSs_ok b C X hot W x G F _ h3)
    · cases h
  | .ret m, C, X, hot, W, x, G, F, st, h => by
    simp only [chkS] at h
    split at h
    · exact s_ret ((chkE_ok m false C X hot W G _ h).1 rfl)
    · cases h
  | .retN, C, X, hot, W, x, G, F, st, h => by
    simp only [chkS] at h
    split at h
    · exact s_retN
    · cases h
  | .exp m, C, X, hot, W, x, G, F, st, h => by
    simp only [chkS] at h
    split at h
    · rw [Bool.and_eq_true] at h
      exact s_exp ((chkE_ok m false C X hot W G _ h.2).1 rfl) (swaps_none h.1 _ _)
    · cases h
  | .pass, C, X, hot, W, x, G, F, st, h => by
    simp only [chkS] at h
    split at h
    · exact s_pass
    · exact s_doc
    · cases h
  | .brk, C, X, hot, W, x, G, F, st, h => by
    simp only [chkS] at h
    split at h
    · exact s_brk
    · cases h
  | .cont, C, X, hot, W, x, G, F, st, h => by
    simp only [chkS] at h
    split at h
    · exact s_cont
    · cases h
  | .raise c es, C, X, hot, W, x, G, F, st, h => by
    simp only [chkS] at h
    split at h
    · rw [Bool.and_eq_true, Bool.and_eq_true, Bool.and_eq_true, Bool.and_eq_true] at h
      obtain ⟨⟨⟨⟨h1, h2⟩, h3⟩, h4⟩, h5⟩ := h
      exact raise_ok G h1 h2 h3 h4 (chkA_ok es C X hot W G _ h5)
    · cases h
  | .tryx b c i s, C, X, hot, W, x, G, F, st, h => by
    simp only [chkS] at h
    split at h
    · rw [Bool.and_eq_true, Bool.and_eq_true, Bool.and_eq_true, Bool.and_eq_true, Bool.and_eq_true, Bool.and_eq_true, Bool.and_eq_true] at h
      obtain ⟨⟨⟨⟨⟨⟨⟨h1, h2⟩, h3⟩, h4⟩, h5⟩, h6⟩, h7⟩, h8⟩ := h
      obtain ⟨f1, f2, f3, f4⟩ := F h1
      obtain ⟨rfl, k2, k3, k4, k5, k6⟩ := G.calm h2
      split at h4
      · rename_i ec hec
        have e1 := beq_iff_eq.mp h4
        subst e1
        refine s_try G.gnd.exc hec f3 f4 (nodupN G) (by rw [G.N]; exact of_decide_eq_true h5) ?_ (G.gl h3).1 (G.gl h3).2 k4 (fun W' pn xe tk hp => ?_) (fun e a oe cls d pn hz hd => ?_)
        · show X.env.scope.names.lookup _ = _
          rw [G.sc]
          exact beq_some h6
        · exact chkSs_ok b C (X.tr pn xe) none W' x (G.tr h2 f1 tk) (fun _ => ⟨f1, hp, f3, f4⟩) _ h7
        · exact chkSs_ok s (C.suite i) (X.suite a ((a, oe) :: pn)) _ W0 (some e) (G.suite hz hd) (fun z => by cases z) _ h8
      · cases h4
    · cases h
  | .any, C, X, hot, W, x, G, F, st, h => ⟨fun pins s σ H D I ⟨ρ, env, hh, rh, re, p⟩ => by
    rw [ssem] at p
    exact False.elim p⟩
theorem chkSs_ok : ∀ (s : MSs) (C : Cfg) (X : Cx) (hot : Option Hot) (W : WX) (x : Option Ex), Good C X hot W call x n → Full C X → ∀ ss, chkSs s C ss = true → PSs X ss (tMs (gm X C.P hot) W (ssems call C.P s x))
  | .nil, C, X, hot, W, x, G, F, ss, h => by
    simp only [chkSs] at h
    split at h
    · exact ss_nil
    · cases h
  | .cons s r, C, X, hot, W, x, G, F, ss, h => by
    simp only [chkSs] at h
    split at h
    · rw [Bool.and_eq_true] at h
      exact ss_cons (chkS_ok s C X hot W x G F _ h.1) (chkSs_ok r C X hot W x G F _ h.2)
    · cases h
end
end
end Mi
end
section
set_option Elab.async false
set_option linter.all false
set_option maxRecDepth 100000
namespace Mi
open PySem PySem.Spec PyProof.Rows L2

/-! ### what nobody names any more -/
section
variable {K : PySem.W.Frag} {ρ ρ' : Pl} {H H' : Hp}
mutual
theorem rep_lo : ∀ (d : D) {v : V}, Rep K ρ H d v → d.lo ρ.pl.length = true
  | .non, _, _ => rfl
  | .bl _, _, _ => rfl
  | .int _, _, _ => rfl
  | .str _, _, _ => rfl
  | .tup ds, _, r => by
    simp only [Rep] at r
    obtain ⟨_, _, _, _, q⟩ := r
    simpa only [D.lo] using reps_lo ds q
  | .lst ds, _, r => by
    simp only [Rep] at r
    obtain ⟨_, _, _, _, q⟩ := r
    simpa only [D.lo] using reps_lo ds q
  | .ref i, _, r => by
    simp only [Rep] at r
    obtain ⟨_, _, q⟩ := r
    simpa only [D.lo, decide_eq_true_eq] using (List.getElem?_eq_some_iff.mp q).1
  | .scr _, _, _ => rfl
theorem reps_lo : ∀ (ds : List D) {vs : List V}, Reps K ρ H ds vs → los ρ.pl.length ds = true
  | [], _, _ => rfl
  | d :: ds, _, r => by
    obtain ⟨v, q, _, r1, r2⟩ := r.cons_of
    simp only [los, Bool.and_eq_true]
    exact ⟨rep_lo d r1, reps_lo ds r2⟩
end
/-- places forgotten -/
def Less (ρ ρ' : Pl) : Prop := (∀ (i : Nat) (a : Addr), ρ.pl[i]? = some a → ρ'.pl[i]? = some a) ∧ ρ'.ex = ρ.ex
theorem Less.not_mem (l : Less ρ ρ') {a : Addr} (h : a ∉ ρ') : a ∉ ρ := fun z => h (z.elim (fun z => by
  obtain ⟨i, hi, e⟩ := List.mem_iff_getElem.mp z
  exact .inl (List.mem_of_getElem? (l.1 i a (by rw [List.getElem?_eq_getElem hi, e])))) fun z => .inr (by rw [l.2]; exact z))
mutual
theorem rep_less (l : Less ρ ρ') : ∀ (d : D) {v : V}, Rep K ρ' H d v → d.lo ρ.pl.length = true → Rep K ρ H d v
  | .non, _, r, _ => r
  | .bl _, _, r, _ => r
  | .int _, _, r, _ => r
  | .str _, _, r, _ => r
  | .tup ds, _, r, h => by
    simp only [Rep] at r ⊢
    obtain ⟨a, vs, e, t, q⟩ := r
    exact ⟨a, vs, e, t.imp (fun t => ⟨t.1, l.not_mem t.2⟩) id, reps_less l ds q (by simpa only [D.lo] using h)⟩
  | .lst ds, _, r, h => by
    simp only [Rep] at r ⊢
    obtain ⟨a, vs, e, t, q⟩ := r
    exact ⟨a, vs, e, ⟨t.1, l.not_mem t.2⟩, reps_less l ds q (by simpa only [D.lo] using h)⟩
  | .ref i, _, r, h => by
    simp only [Rep] at r ⊢
    obtain ⟨a, e, q⟩ := r
    have hi : i < ρ.pl.length := by simpa only [D.lo, decide_eq_true_eq] using h
    have := l.1 i _ (List.getElem?_eq_getElem hi)
    rw [q] at this
    cases this
    exact ⟨_, e, List.getElem?_eq_getElem hi⟩
  | .scr _, _, r, _ => by
    simp only [Rep] at r ⊢
    obtain ⟨a, e, q⟩ := r
    exact ⟨a, e, q.imp (fun t => ⟨t.1, l.not_mem t.2⟩) id⟩
theorem reps_less (l : Less ρ ρ') : ∀ (ds : List D) {vs : List V}, Reps K ρ' H ds vs → los ρ.pl.length ds = true → Reps K ρ H ds vs
  | [], _, r, _ => by
    rw [r.nil_of]
    exact Reps.nil
  | d :: ds, _, r, h => by
    obtain ⟨v, q, rfl, r1, r2⟩ := r.cons_of
    simp only [los, Bool.and_eq_true] at h
    exact .cons (rep_less l d r1 h.1) (reps_less l ds r2 h.2)
end
theorem rkv_lo {κ : Type} {kvs : List (κ × D)} {vs : List (κ × V)} (r : RKV K ρ H kvs vs) : los ρ.pl.length (kvs.map (·.2)) = true := by
  induction r with
  | nil => rfl
  | cons h t ih =>
    simp only [List.map_cons, los, Bool.and_eq_true]
    exact ⟨rep_lo _ h.2, ih⟩
theorem rkv_less (l : Less ρ ρ') {κ : Type} {kvs : List (κ × D)} {vs : List (κ × V)} (r : RKV K ρ' H kvs vs) (h : los ρ.pl.length (kvs.map (·.2)) = true) : RKV K ρ H kvs vs := by
  induction r with
  | nil => exact .nil
  | cons q t ih =>
    simp only [List.map_cons, los, Bool.and_eq_true] at h
    exact .cons ⟨q.1, rep_less l _ q.2 h.1⟩ (ih h.2)
end
def O.lo (n : Nat) : O → Bool
  | .lst xs => los n xs
  | .dct kvs => los n (kvs.map (·.2))
  | .dtt kvs => los n (kvs.map (·.2))
  | .ins _ fs => los n (fs.map (·.2))
section
variable {Γ : Gam} {ρ ρ' : Pl} {H H' : Hp} {h h' : Hh}
theorem repo_lo {a : Addr} {o : O} (r : RepO Γ ρ H a o) : o.lo ρ.pl.length = true := by
  cases o with
  | lst ds => obtain ⟨vs, _, q⟩ := r; exact reps_lo ds q
  | dct ds => obtain ⟨vs, _, q⟩ := r; exact rkv_lo q
  | dtt ds => obtain ⟨vs, _, q⟩ := r; exact rkv_lo q
  | ins c ds => obtain ⟨_, _, _, _, _, _, _, q, _⟩ := r; exact rkv_lo q
theorem repo_less (l : Less ρ ρ') {a : Addr} {o : O} (r : RepO Γ ρ' H a o) (h : o.lo ρ.pl.length = true) : RepO Γ ρ H a o := by
  cases o with
  | lst ds => obtain ⟨vs, e, q⟩ := r; exact ⟨vs, e, reps_less l ds q h⟩
  | dct ds => obtain ⟨vs, e, q⟩ := r; exact ⟨vs, e, rkv_less l q h⟩
  | dtt ds => obtain ⟨vs, e, q⟩ := r; exact ⟨vs, e, rkv_less l q h⟩
  | ins c ds => obtain ⟨a1, a2, a3, a4, a5, a6, a7, q, a8⟩ := r; exact ⟨a1, a2, a3, a4, a5, a6, a7, rkv_less l q h, a8⟩
theorem ext_less (x : Ext ρ H ρ' H') : Less ρ ρ' ∧ Ext ρ H ρ H' := by
  have l : Less ρ ρ' := ⟨x.1.1, x.2.1⟩
  exact ⟨l, ⟨fun _ _ e => e, fun b o e n => ⟨(x.1.2 b o e n).1, n⟩⟩, rfl, x.2.2⟩
theorem rh_gone (r : RH Γ ρ H h) (x : Ext ρ H ρ' H') (r' : RH Γ ρ' H' h') (ht : h'.take h.length = h) : RH Γ ρ H' h := by
  obtain ⟨l, _⟩ := ext_less x
  refine ⟨r.nd, r.len, fun i a o e1 e2 => ?_, r.sep, fun a ha => r'.exs a (by rw [l.2]; exact ha)⟩
  have e3 : h'[i]? = some o := by
    have hi := (List.getElem?_eq_some_iff.mp e2).1
    have := List.getElem?_take_of_lt (l := h') hi
    rw [ht, e2] at this
    exact this.symm
  exact repo_less l (r'.ob i a o (l.1 i a e1) e3) (repo_lo (r.ob i a o e1 e2))
/-- the promise behind a call's end -/
theorem gcD_ok {d : D} {Q : VK} {E : XK} (r : RH Γ ρ H h) (p : match gcD h d h' with
    | .ok d h'' => ∀ v ρ' H', Ext ρ H ρ' H' → RH Γ ρ' H' h'' → Rep Γ.K ρ' H' d v → Q v H'
    | .exc e h'' => ∀ cls dd ρ' H', Ext ρ H ρ' H' → RH Γ ρ' H' h'' → RExc Γ ρ' H' e cls dd → E cls dd H'
    | .stuck => False) : ∀ v ρ' H', Ext ρ H ρ' H' → RH Γ ρ' H' h' → Rep Γ.K ρ' H' d v → Q v H' := by
  intro v ρ' H' x r' rv
  unfold gcD at p
  by_cases hc : d.lo h.length = true ∧ h'.take h.length = h
  · rw [if_pos hc] at p
    obtain ⟨l, y⟩ := ext_less x
    exact p v ρ H' y (rh_gone r x r' hc.2) (rep_less l d rv (by rw [r.len]; exact hc.1))
  · rw [if_neg hc] at p
    exact p v ρ' H' x r' rv
theorem rexc_less (l : Less ρ ρ') {e : Ex} {cls : Value} {dd : Option Addr} (r : RExc Γ ρ' H e cls dd) (h : los ρ.pl.length (e.2.map (·.2)) = true) : RExc Γ ρ H e cls dd := by
  obtain ⟨C, ei, h1, h2, h3, h4⟩ := r
  refine ⟨C, ei, h1, h2, h3, h4.imp id ?_⟩
  rintro ⟨b, fs, e1, e2, e3, k⟩
  refine ⟨b, fs, e1, e2, l.not_mem e3, fun f d q => ?_⟩
  obtain ⟨v, e4, e5⟩ := k f d q
  refine ⟨v, e4, rep_less l d e5 ?_⟩
  have key : ∀ {fs : List (Str × D)}, los ρ.pl.length (fs.map (·.2)) = true → fs.lookup f = some d → d.lo ρ.pl.length = true := by
    intro fs
    induction fs with
    | nil => intro _ z; cases z
    | cons p fs ih =>
      intro hl q
      simp only [List.map_cons, los, Bool.and_eq_true] at hl
      rw [List.lookup_cons] at q
      split at q
      · cases q; exact hl.1
      · exact ih hl.2 q
  exact key h q
theorem gcX_ok {e : Ex} {Q : VK} {E : XK} (r : RH Γ ρ H h) (p : match gcX h e h' with
    | .ok d h'' => ∀ v ρ' H', Ext ρ H ρ' H' → RH Γ ρ' H' h'' → Rep Γ.K ρ' H' d v → Q v H'
    | .exc e h'' => ∀ cls dd ρ' H', Ext ρ H ρ' H' → RH Γ ρ' H' h'' → RExc Γ ρ' H' e cls dd → E cls dd H'
    | .stuck => False) : ∀ cls dd ρ' H', Ext ρ H ρ' H' → RH Γ ρ' H' h' → RExc Γ ρ' H' e cls dd → E cls dd H' := by
  intro cls dd ρ' H' x r' rx
  unfold gcX at p
  by_cases hc : los h.length (e.2.map (·.2)) = true ∧ h'.take h.length = h
  · rw [if_pos hc] at p
    obtain ⟨l, y⟩ := ext_less x
    exact p cls dd ρ H' y (rh_gone r x r' hc.2) (rexc_less l rx (by rw [r.len]; exact hc.1))
  · rw [if_neg hc] at p
    exact p cls dd ρ' H' x r' rx
end

/-! ### the defs -/
def cfgOf (P : Prog) (own : List Nat) (fi : FInfo) (scope : Scope) : Cfg := ⟨fi.slots, scope, fun _ => true, none, true, true, P, own⟩
/-- a def as it stands in the written part, its text checked -/
structure DefAt (K : PySem.W.Frag) (P : Prog) (own : List Nat) (fi : FInfo) (fa : Addr) (fd : FuncData) (ps : List Str) : Prop where
  at_ : ∃ (oc : Value) (od : Option Addr) (name qual : Str) (params : Arguments) (body : List Stmt) (scope : Scope) (dV kV doc pm cdv ct : Value) (an : Option Addr) (osl : Array (Option Value)),
    K.lookup fa = some ⟨oc, od, .func (PySem.W.fnOf name qual params body scope dV kV doc pm an cdv ct), osl⟩ ∧ fd = PySem.W.fnOf name qual params body scope dV kV doc pm an cdv ct ∧ PySem.W.codeIn K cdv qual = true ∧ FnScope fi.slots ps scope ∧ chkSs fi.body (cfgOf P own fi scope) body = true
  binds : fi.plain = true → L2.Binds K fd ps []
  len : ps.length = fi.params
theorem spM_len {Γ : Gam} {P : Prog} {n f : Nat} {fi : FInfo} (hf : P.fns[f]? = some fi) {vs : List V} {H : Hp} {Q : VK} {E : XK} (h : spM Γ (den P n) f vs H Q E) : vs.length = fi.params := by
  obtain ⟨ρ, h, ds, _, r, p⟩ := h
  rw [r.length]
  cases n with
  | zero => exact False.elim p
  | succ n =>
    simp only [den, hf, runF] at p
    by_cases hl : ds.length = fi.params
    · exact hl
    · rw [if_neg hl] at p
      exact False.elim p
theorem start_env {K : PySem.W.Frag} {mg : Str → Option Value} {P : Prog} {ρ : Pl} {H : Hp} {N : List Str} {ds : List D} {vs : List V} (r : Reps K ρ H ds vs) : RE ⟨K, mg, P, none⟩ ρ H (ds.map some ++ List.replicate (N.length - ds.length) none) (L2.start N vs) := by
  have hl := r.length
  refine ⟨by simp [L2.start, hl], fun i d e => ?_, fun t z => by cases z⟩
  by_cases hi : i < ds.length
  · rw [List.getElem?_append_left (by simpa using hi), List.getElem?_map, Option.map_eq_some_iff] at e
    obtain ⟨d', e1, e2⟩ := e
    cases e2
    obtain ⟨v, e3, rv⟩ := r.get e1
    refine ⟨v, ?_, rv⟩
    unfold L2.start
    rw [List.getElem?_append_left (by simp [hl]; exact hi), List.getElem?_map, e3]
    rfl
  · rw [List.getElem?_append_right (by simpa using hi)] at e
    have := List.mem_of_getElem? e
    simp at this
/-- all that the written part is to say of the program -/
structure Stat (prog : Program) (w : World) (K : PySem.W.Frag) (mg : Str → Option Value) (P : Prog) (own : List Nat) where
  adr : Nat → Addr
  fds : Nat → FuncData
  pss : Nat → List Str
  defs : ∀ (f : Nat) (fi : FInfo), P.fns[f]? = some fi → DefAt K P own fi (adr f) (fds f) (pss f)
  top : ∀ (f : Nat) (fi : FInfo), P.fns[f]? = some fi → fi.top = true → mg fi.name = some (.ref (adr f)) ∧ PySem.W.keepIn K (.ref (adr f)) = true
  cls : ∀ (c : Nat) (ci : CInfo), P.inss[c]? = some ci → ∃ D, mg ci.name = some (.ref D) ∧ Cls K D ∧ (∀ f ∈ ci.flds, NoAttr K D f) ∧ Mk K D (adr ci.init) ∧ (∃ fi, P.fns[ci.init]? = some fi ∧ fi.plain = true) ∧ ∀ m ∈ ci.meths, Meth K D m.1 (adr m.2) ∧ ∃ fi, P.fns[m.2]? = some fi ∧ fi.plain = true
  sig : ∀ (g : Nat) (sg : Sig), P.sigs[g]? = some sg → ∃ fi dus, P.fns[sg.f]? = some fi ∧ fi.top = true ∧ SigB K (fds sg.f) (pss sg.f) sg dus
  gnd : ∀ X : Cx, X.prog = prog → X.K = K → X.mg = mg → Gnd X P own
theorem Stat.can {prog : Program} {w : World} {K : PySem.W.Frag} {mg : Str → Option Value} {P : Prog} {own : List Nat} (S : Stat prog w K mg P own) {base : Heap} {k : Nat} {call : Nat → List D → Hh → Res D}
    (F : ∀ f fi, P.fns[f]? = some fi → FnG prog w K mg base k (S.adr f) (S.fds f) (S.pss f) (spM ⟨K, mg, P, none⟩ call f)) {X : Cx} (h1 : X.prog = prog) (h2 : X.w = w) (h3 : X.K = K) (h4 : X.mg = mg) (h5 : X.base = base) : Can X P k call := by
  subst h1 h2 h3 h4 h5
  refine ⟨fun f fi hf ht => ?_, fun g sg hs => ?_, fun c ci hc => ?_⟩
  · obtain ⟨t1, t2⟩ := S.top f fi hf ht
    exact ⟨_, _, _, t1, t2, F f fi hf, (S.defs f fi hf).binds⟩
  · obtain ⟨fi, dus, g1, g2, g3⟩ := S.sig g sg hs
    obtain ⟨t1, t2⟩ := S.top sg.f fi g1 g2
    exact ⟨fi, _, _, _, dus, g1, t1, t2, F sg.f fi g1, g3⟩
  · obtain ⟨D, c1, c2, c3, c4, ⟨fi, c5, c7⟩, c6⟩ := S.cls c ci hc
    exact ⟨D, c1, c2, c3, ⟨_, _, _, c4, F _ fi c5, (S.defs _ fi c5).binds c7⟩, fun m hm => let ⟨m1, fi, m2, m3⟩ := c6 m hm; ⟨_, _, _, m1, F _ fi m2, (S.defs _ fi m2).binds m3⟩⟩
theorem fn_all {prog : Program} {w : World} {K : PySem.W.Frag} {mg : Str → Option Value} {P : Prog} {own : List Nat} (S : Stat prog w K mg P own) (base : Heap) : ∀ (n f : Nat) (fi : FInfo), P.fns[f]? = some fi →
    FnG prog w K mg base (2 * n) (S.adr f) (S.fds f) (S.pss f) (spM ⟨K, mg, P, none⟩ (den P n) f)
  | 0, f, fi, hf => ⟨fun vs H Q E ⟨_, _, _, _, _, p⟩ => False.elim p, fun A outer s H args us vs Q E hr hgu e0 hb r ⟨_, _, _, _, _, p⟩ => False.elim p⟩
  | n + 1, f, fi, hf => by
    have ih := fn_all S base n
    have D := S.defs f fi hf
    obtain ⟨oc, od, name, qual, params, body, scope, dV, kV, doc, pm, cdv, ct, an, osl, lk, efd, hcd, Sc, hch⟩ := D.at_
    rw [efd]
    refine fn_ofG (k := 2 * n + 1) lk hcd Sc (fun vs H Q E h => (spM_len hf h).trans D.len.symm) fun A outer s H vs Q E hr hgu h => ?_
    obtain ⟨ρ, h, ds, rh, rs, p⟩ := h
    refine ⟨tMs ⟨K, mg, P, none⟩ (fun cls d _ H => E cls d H) (ssems (den P n) P fi.body none), ?_, ?_⟩
    · have hu := hr.un
      exact chkSs_ok fi.body (cfgOf P own fi scope) (cxOf (L2.CX prog w) prog w K mg base fi.slots qual scope (S.adr f) cdv A outer s H E) none (fun cls d _ H => E cls d H) none (n := 2 * n)
        ⟨rfl, rfl, Sc.nd, fun _ _ => .inl rfl, (fun t z => by cases z), by show (A.deeper _).units + 66 < cLine; omega, S.gnd _ rfl rfl rfl, fun _ => ⟨rfl, rfl, guards_deeper hgu, takes_of rfl rfl rfl rfl, hr, S.can ih rfl rfl rfl rfl rfl⟩, (fun i z => by cases z), fun i z => by cases z⟩
        (fun _ => ⟨rfl, passes_of rfl, rfl, rfl⟩) body hch
    · have hlen : ds.length = fi.params := by
        simp only [den, hf, runF] at p
        by_cases hl : ds.length = fi.params
        · exact hl
        · rw [if_neg hl] at p
          exact False.elim p
      refine ⟨ρ, ds.map some ++ List.replicate (fi.slots.length - ds.length) none, h, rh, start_env rs, ?_⟩
      simp only [den, hf, runF, hlen, if_true] at p
      rw [hlen]
      cases er : ssems (den P n) P fi.body none (ds.map some ++ List.replicate (fi.slots.length - fi.params) none) h with
      | nx env1 h1 =>
        rw [er] at p
        exact fun σ' ρ' H' x' rh' re' => gcD_ok rh p .non ρ' H' x' rh' rep_non
      | ret d h1 =>
        rw [er] at p
        exact gcD_ok rh p
      | exc e env1 h1 =>
        rw [er] at p
        exact fun σ' cls dd ρ' H' x' rh' re' rx => gcX_ok rh p cls dd ρ' H' x' rh' rx
      | brk env1 h1 => rw [er] at p; exact False.elim p
      | ct env1 h1 => rw [er] at p; exact False.elim p
      | stuck => rw [er] at p; exact False.elim p
end Mi
end
section
set_option Elab.async false
set_option linter.all false
set_option maxRecDepth 100000
namespace Mi
open PySem PySem.Spec PyProof.Rows L2

/-- of the script alone is anything told, and it stands frozen -/
structure Lone (K : PySem.W.Frag) (H : Hp) (a : Addr) : Prop where
  frz : Only H
  at_ : ∀ b, H b ≠ none → b = a
  out : H a ≠ none → K.lookup a = none
theorem Lone.free {K : PySem.W.Frag} {H : Hp} {a b : Addr} (l : Lone K H a) (h : b ≠ a) : H b = none := by
  cases q : H b with
  | none => rfl
  | some u => exact absurd (l.at_ b (by simp [q])) h
/-- the ground under the law's call -/
theorem Lone.env {prog : Program} {w : World} {K : PySem.W.Frag} {mg mb : Str → Option Value} {s : Shared} {H : Hp} {a : Addr} {vs : List Value} (l : Lone K H a) (kin : K.In s.heap) (nsg : s.heap.Ns mainGlobals mg) (nsb : s.heap.Ns builtinsNs mb) (boot : ∀ y : Str, y ≠ "__name__" → mb y = bootBuiltins y)
    (lim : s.heap.NoLimit) (gens : s.gens = #[]) (oa : s.heap.get? a = some { cls := .type "list", data := .seq vs.toArray }) (ok : HOk prog w H s.heap) :
    K.In (hidT s.heap H) ∧ (hidT s.heap H).Ns mainGlobals mg ∧ Env0 prog w K mg (hidT s.heap H) callerA [] s H := by
  have dict : ∀ {b : Addr} {m : Str → Option Value}, s.heap.Ns b m → (hidT s.heap H).Ns b m := by
    rintro b m ⟨o, es, ep, e, d, r⟩
    refine ⟨o, es, ep, hidT_get e (l.free ?_), d, r⟩
    rintro rfl
    have := oa.symm.trans e
    cases this
    exact Data.noConfusion d
  have kin' : K.In (hidT s.heap H) := by
    intro b o e
    refine hidT_get (kin b o e) ?_
    cases q : H b with
    | none => rfl
    | some u =>
      have hb := l.at_ b (by simp [q])
      subst hb
      have := l.out (by simp [q])
      rw [this] at e
      cases e
  obtain ⟨mc, c1, c2⟩ := lim
  exact ⟨kin', dict nsg, rfl, ⟨kin', dict nsg, ⟨mb, dict nsb, boot⟩, ⟨mc, dict c1, c2⟩⟩, fun _ _ e => of_hidT e, Nat.le_of_eq (hidT_size _ _), trivial, (fun b hb => by cases hb), ok, .of_eq gens⟩
/-- the law's call answers true -/
theorem call_true {prog : Program} {w : World} {K : PySem.W.Frag} {mg mb : Str → Option Value} {k : Nat} {fa a : Addr} {fd : FuncData} {y : Str} {sp : Sp} {s : Shared} {vs : List Value} {ns : List Int}
    (kin : K.In s.heap) (nsg : s.heap.Ns mainGlobals mg) (nsb : s.heap.Ns builtinsNs mb) (boot : ∀ y : Str, y ≠ "__name__" → mb y = bootBuiltins y) (lim : s.heap.NoLimit) (gens : s.gens = #[])
    (oa : s.heap.get? a = some { cls := .type "list", data := .seq vs.toArray }) (hi : IntsAre vs ns) (hz : ns.length ≤ sizeLine) (hr : Room k callerA)
    (F : ∀ base : Heap, K.In base → base.Ns mainGlobals mg → FnG prog w K mg base k fa fd [y] sp) (hb : ∀ u : Value, BindsTo s fd ⟨[u], []⟩ [(y, u)])
    (hsp : ∀ H : Hp, SqL K H a (ns.map V.int) → sp [.ref a] H (fun v _ => v = .bl true) fun _ _ _ => False) :
    codeAny (model prog w) callerA (.call (.ref fa) ⟨[.ref a], []⟩) (fun r s' => r = .ok (.ret (.bool true)) ∧ OldK s.heap s'.heap ∧ s'.os = s.os ∧ AllBare s'.gens) s := by
  have rv : Vals (ns.map V.int) vs := vals_ints hi
  have go : ∀ H : Hp, Lone K H a → SqL K H a (ns.map V.int) → HOk prog w H s.heap →
      codeAny (model prog w) callerA (.call (.ref fa) ⟨[.ref a], []⟩) (fun r s' => r = .ok (.ret (.bool true)) ∧ OldK s.heap s'.heap ∧ s'.os = s.os ∧ AllBare s'.gens) s := by
    intro H l sq ok
    obtain ⟨kin', nsg', e0⟩ := l.env kin nsg nsb boot lim gens oa ok
    have run := (F _ kin' nsg').run callerA [] s H ⟨[.ref a], []⟩ [.ref a] [.ref a] _ _ hr rfl e0 (hb (.ref a)) (.cons rfl .nil) (hsp H sq)
    refine codeAny_mono run ?_
    intro r s' h
    match r, h with
    | .ok (.ret u), ⟨v, H', os, bare, un, ok', ru, (q : v = .bl true)⟩ =>
      subst q
      obtain rfl : u = Value.bool true := ru
      refine ⟨rfl, OldK.of_keep ?_, os, bare⟩
      intro b o e
      rcases l.frz b with z | ⟨o2, xs, z⟩
      · exact un.keep b o e z (by intro m; cases m) (by simp)
      · have z2 := un.frzs b o2 _ z
        have e1 := (ok b _ z).1
        have e2 := (ok' b _ z2).1
        rw [e1] at e
        cases e
        exact e2
    | .error e, h =>
      obtain ⟨_, _, _, _, _, _, _, _, _, _, _, _, _, q⟩ := h
  by_cases hk : K.lookup a = none
  · let H : Hp := fun b => if b = a then some (.frz { cls := .type "list", data := .seq vs.toArray } (.lst (ns.map V.int))) else none
    have at_a : H a = some (.frz { cls := .type "list", data := .seq vs.toArray } (.lst (ns.map V.int))) := if_pos rfl
    have off : ∀ {b}, b ≠ a → H b = none := fun h => if_neg h
    have here : ∀ b, H b ≠ none → b = a := fun b z => by
      by_cases h : b = a
      · exact h
      · exact absurd (off h) z
    refine go H ⟨fun b => ?_, here, fun _ => hk⟩ (.inl (.inr ⟨_, at_a⟩)) fun b u z => ?_
    · by_cases h : b = a
      · subst h; exact .inr ⟨_, _, at_a⟩
      · exact .inl (off h)
    · have h := here b (by rw [z]; simp)
      subst h
      rw [at_a] at z
      cases z
      exact ⟨oa, by rw [List.length_map]; exact hz, vs, _, rv, oa⟩
  · obtain ⟨o, ho⟩ := Option.ne_none_iff_exists'.mp hk
    have := oa.symm.trans (kin a o ho)
    cases this
    refine go (fun _ => none) ⟨fun _ => .inl rfl, fun b z => absurd rfl z, fun z => absurd rfl z⟩ (.inr ⟨_, vs.toArray, _, ho, rfl, rfl, rfl, ?_, by simpa using rv⟩) fun b u z => by cases z
    rw [List.size_toArray, hi.length]
    exact hz
/-- what the head leaves, from what the defs say -/
theorem walk_true {l : PySem.W.OpenLaw} {n k : Nat} {q : Program} {loose : List Str} {XP : (Str → Option Value) → Heap → Prop} {YP : World → Heap → Prop} {d : DefRec} {K : Params → PySem.W.Frag} {P : Prog} {f : Nat} {y : Str}
    (hn : l.most = some n) (hz : n ≤ sizeLine) (hdf : d.params.defaults = []) (hr : Room (2 * k) callerA) (hY : ∀ (w : World) (h : Heap), YP w h → (K w.params).In h)
    (S : ∀ (w : World) (mg : Str → Option Value) (fa : Addr) (h : Heap), (K w.params).In h → h.Ns mainGlobals mg → mg d.name = some (.ref fa) → ∃ (own : List Nat) (S : Stat l.prog w (K w.params) mg P own) (fi : FInfo), P.fns[f]? = some fi ∧ S.adr f = fa ∧ S.pss f = [y] ∧ fi.plain = true)
    (main : ∀ ns : List Int, ns.length ≤ n → ∃ h, den P k f [.scr ns] [] = .ok (.bl true) h) : PySem.W.WalkO q loose XP YP l.row.toRowW d [] (fun f vs => PySem.call f vs) := by
  refine Att.attach_call hn hdf fun w s₀ s mg mb fa o pm cd doc a vs ns G Y ho hd hcd hmg hobj hints hlen hg => ?_
  have kin := hY w _ Y
  obtain ⟨own, S, fi, hf, rfl, hy, hpl⟩ := S w mg fa _ kin G.T.g hmg
  have D := S.defs f fi hf
  refine call_true (mb := mb) (y := y) (sp := spM ⟨K w.params, mg, P, none⟩ (den P k) f) (fd := S.fds f) kin G.T.g G.T.b G.T.builtins G.T.nolimit hg hobj hints (Nat.le_trans hlen hz) hr (fun base b1 b2 => ?_) (fun u => ?_) fun H sq => ?_
  · have := fn_all S base k f fi hf
    rw [hy] at this
    exact this
  · have := D.binds hpl s [u] kin (by rw [hy]; rfl)
    rw [hy] at this
    exact this
  · obtain ⟨h, e⟩ := main ns hlen
    refine ⟨⟨[], []⟩, [], [.scr ns], ⟨(fun i j a e => by simp at e), rfl, (fun i a o e => by simp at e), (fun a h => by cases h), (fun a h => by cases h)⟩, .cons ?_ Reps.nil, ?_⟩
    · simp only [Rep]
      exact ⟨a, rfl, sq.imp (fun z => ⟨z, by rw [Pl.not_mem]; exact ⟨by simp, by simp⟩⟩) id⟩
    · rw [e]
      intro v ρ' H' _ _ rv
      simpa only [Rep] using rv
end Mi
end
section
set_option Elab.async false
set_option linter.all false
set_option maxRecDepth 100000
namespace Mi
open PySem PySem.Spec PySem.W PyProof.Rows L2

/-! ### arguments, one for each parameter -/
theorem zip_has {names : List Str} {us : List Value} (hl : us.length = names.length) {y : Str} (h : y ∈ names) : ((names.zip us).lookup y).isNone = false := by
  induction names generalizing us with
  | nil => cases h
  | cons x r ih =>
    cases us with
    | nil => cases hl
    | cons u us =>
      rw [List.zip_cons_cons, List.lookup_cons]
      by_cases e : y = x
      · subst e; simp
      · have e' : (y == x) = false := by simpa using e
        rw [e']
        exact ih (by simpa using hl) ((List.mem_cons.mp h).resolve_left e)
theorem zip_all {names : List Str} {us : List Value} (hl : us.length = names.length) (nd : names.Nodup) : (names.filterMap fun n => ((names.zip us).lookup n).map (n, ·)) = names.zip us := by
  induction names generalizing us with
  | nil => rfl
  | cons x r ih =>
    cases us with
    | nil => cases hl
    | cons u us =>
      rw [List.nodup_cons] at nd
      have e1 : r.filterMap (fun n => (((x :: r).zip (u :: us)).lookup n).map (n, ·)) = r.filterMap (fun n => ((r.zip us).lookup n).map (n, ·)) := by
        have key : ∀ l : List Str, (∀ y ∈ l, y ≠ x) → l.filterMap (fun n => (((x :: r).zip (u :: us)).lookup n).map (n, ·)) = l.filterMap (fun n => ((r.zip us).lookup n).map (n, ·)) := by
          intro l
          induction l with
          | nil => intro _; rfl
          | cons y l ih =>
            intro h
            have e' : (y == x) = false := by simpa using h y List.mem_cons_self
            rw [List.filterMap_cons, List.filterMap_cons, ih fun z hz => h z (List.mem_cons_of_mem _ hz)]
            have e2 : ((x :: r).zip (u :: us)).lookup y = (r.zip us).lookup y := by
              rw [List.zip_cons_cons, List.lookup_cons, e']
            rw [e2]
        exact key r fun y hy z => nd.1 (z ▸ hy)
      rw [List.filterMap_cons, e1, ih (by simpa using hl) nd.2]
      simp
theorem binds_plain {fd : FuncData} {names : List Str} (h0 : fd.params.args.map (·.arg) = names) (h1 : fd.params.posonlyargs = []) (h2 : fd.params.kwonlyargs = []) (h3 : fd.params.vararg = none) (h4 : fd.params.kwarg = none) (hd : fd.defaults = .none) (nd : names.Nodup) (us : List Value) (hl : us.length = names.length) :
    bindArgs fd ⟨us, []⟩ = pure (names.zip us) := by
  have hs : seqItems? .none = pure none := rfl
  have hm : names.filter (fun n => ((names.zip us).lookup n).isNone) = [] := by
    rw [List.filter_eq_nil_iff]
    intro y hy
    rw [zip_has hl hy]
    decide
  unfold bindArgs
  simp only [h1, h2, h3, h4, hd, hs, h0, List.map_nil, List.nil_append, List.append_nil]
  simp [hl]
  split
  · rename_i h
    simp [hm] at h
  · rw [zip_all hl nd]
/-! ### what the written part says, asked by one Bool -/
def refO : Option (Option Value) → Option Addr
  | some (some (.ref a)) => some a
  | _ => none
def globO (K : Frag) (y : Str) : Option Addr := refO (nsIn K mainGlobals y)
def adrOf (K : Frag) (P : Prog) (f : Nat) : Addr := match P.fns[f]? with
  | some fi => if fi.top = true then (globO K fi.name).getD 0 else (P.inss.findSome? fun ci => match globO K ci.name with
      | some D => if ci.init = f then refO (findIn K (.ref D) "__init__") else (ci.meths.find? fun m => decide (m.2 = f)).bind fun m => refO (findIn K (.ref D) m.1)
      | none => none).getD 0
  | none => 0
def fdOf (K : Frag) (a : Addr) : FuncData := match K.lookup a with
  | some ⟨_, _, .func fd, _⟩ => fd
  | _ => default
def namesOf (fd : FuncData) : List Str := fd.params.args.map (·.arg)
/-- all parameters, the keyword-only ones last -/
def psOf (fd : FuncData) : List Str := fd.params.args.map (·.arg) ++ fd.params.kwonlyargs.map (·.arg)
def isNoneV : Value → Bool
  | .none => true
  | _ => false
def scopeB (N ps : List Str) (sc : Scope) : Bool := (sc.kind == .function) && !sc.isCoroutine && !sc.isGenerator && decide N.Nodup && decide (N.take ps.length = ps) && (ps.all fun y => sc.names.lookup y == some .local || sc.names.lookup y == some .cell) && (sc.names.all fun y => !(y.2 == .free))
def plainB (fd : FuncData) : Bool := fd.params.posonlyargs.isEmpty && fd.params.kwonlyargs.isEmpty && fd.params.vararg.isNone && fd.params.kwarg.isNone && isNoneV fd.defaults && decide (psOf fd).Nodup
def defB (K : Frag) (P : Prog) (own : List Nat) (f : Nat) (fi : FInfo) : Bool := match K.lookup (adrOf K P f) with
  | some ⟨_, _, .func fd, _⟩ => decide (fd.globals = mainGlobals) && fd.closure.isEmpty && decide (fd.builtins = builtinsNs) && (!fi.plain || plainB fd) &&
      codeIn K fd.code fd.qualname && scopeB fi.slots (psOf fd) fd.scope && decide ((psOf fd).length = fi.params) && (match fd.body with | .stmts b => chkSs fi.body (cfgOf P own fi fd.scope) b | _ => false)
  | _ => false
theorem scope_of {N ps : List Str} {sc : Scope} (h : scopeB N ps sc = true) : FnScope N ps sc := by
  unfold scopeB at h
  simp only [Bool.and_eq_true, decide_eq_true_eq, List.all_eq_true, Bool.or_eq_true] at h
  obtain ⟨⟨⟨⟨⟨⟨h1, h2⟩, h3⟩, h4⟩, h5⟩, h6⟩, h7⟩ := h
  refine ⟨by simpa using h1, by simpa using h2, by simpa using h3, h4, h5, fun y hy => (h6 y hy).imp beq_some beq_some, fun y hy z => ?_⟩
  have := h7 y hy
  rw [z] at this
  cases this
theorem def_of {K : Frag} {P : Prog} {own : List Nat} {f : Nat} {fi : FInfo} (h : defB K P own f fi = true) : DefAt K P own fi (adrOf K P f) (fdOf K (adrOf K P f)) (psOf (fdOf K (adrOf K P f))) := by
  unfold defB at h
  split at h
  · rename_i oc od fd osl hl
    have e1 : fdOf K (adrOf K P f) = fd := by unfold fdOf; rw [hl]
    rw [e1]
    simp only [Bool.and_eq_true, decide_eq_true_eq] at h
    obtain ⟨⟨⟨⟨⟨⟨⟨a1, a2⟩, a3⟩, a4⟩, a5⟩, a6⟩, a7⟩, a8⟩ := h
    refine ⟨?_, fun hp => ?_, a7⟩
    · split at a8
      · rename_i b hb
        obtain ⟨name, qual, params, fb, scope, globals, closure, dV, kV, doc, pm, an, code, ct, bl⟩ := fd
        simp only at a1 a2 a3 hb a5 a6 a8
        subst a1 a3 hb
        have a2' : closure = [] := List.isEmpty_iff.mp a2
        subst a2'
        exact ⟨oc, od, name, qual, params, b, scope, dV, kV, doc, pm, code, ct, an, osl, hl, rfl, a5, scope_of a6, a8⟩
      · cases a8
    · rw [hp] at a4
      have a4 : plainB fd = true := by simpa using a4
      unfold plainB at a4
      simp only [Bool.and_eq_true, decide_eq_true_eq] at a4
      obtain ⟨⟨⟨⟨⟨b1, b2⟩, b3⟩, b4⟩, b5⟩, b6⟩ := a4
      have hd : fd.defaults = .none := by
        cases hh : fd.defaults <;> first | rfl | (rw [hh] at b5; cases b5)
      have p1 : fd.params.posonlyargs = [] := List.isEmpty_iff.mp b1
      have p2 : fd.params.kwonlyargs = [] := List.isEmpty_iff.mp b2
      have p3 : fd.params.vararg = none := Option.isNone_iff_eq_none.mp b3
      have p4 : fd.params.kwarg = none := Option.isNone_iff_eq_none.mp b4
      exact Binds.all fun us hu => binds_plain (by unfold psOf; rw [p2]; simp) p1 p2 p3 p4 hd b6 us hu
  · cases h
/-! constants -/
mutual
def repB (K : Frag) : D → Value → Bool
  | .non, u => isNoneV u
  | .bl b, u => (match u with | .bool c => b == c | _ => false)
  | .int i, u => (match u with | .int j _ => decide (i = j) | _ => false)
  | .str s, u => (match u with | .str t _ => s == t | _ => false)
  | .tup ds, u => (match u with
    | .ref a => (match K.lookup a with
      | some ⟨c, _, .seq its _, _⟩ => (match c with | .type n => n == "tuple" | _ => false) && decide (its.size ≤ sizeLine) && repsB K ds its.toList
      | _ => false)
    | _ => false)
  | .lst _, _ => false
  | .ref _, _ => false
  | .scr _, _ => false
def repsB (K : Frag) : List D → List Value → Bool
  | [], us => us.isEmpty
  | d :: ds, us => (match us with
    | u :: us => repB K d u && repsB K ds us
    | [] => false)
end
mutual
theorem rep_of {K : Frag} : ∀ (d : D) (u : Value), repB K d u = true → ∃ v, RelV v u ∧ ∀ ρ H, Rep K ρ H d v
  | .non, u, h => by
    cases u <;> first | exact ⟨.non, rfl, fun _ _ => rep_non⟩ | cases h
  | .bl b, u, h => by
    simp only [repB] at h
    split at h
    · rename_i c
      have e : b = c := by simpa using h
      subst e
      exact ⟨.bl _, rfl, fun _ _ => rep_bl⟩
    · cases h
  | .int i, u, h => by
    simp only [repB] at h
    split at h
    · have e := of_decide_eq_true h
      subst e
      exact ⟨.int _, ⟨_, rfl⟩, fun _ _ => rep_int⟩
    · cases h
  | .str s, u, h => by
    simp only [repB] at h
    split at h
    · rename_i c _
      have e : s = c := by simpa using h
      subst e
      exact ⟨.str _, ⟨_, rfl⟩, fun _ _ => rep_str⟩
    · cases h
  | .tup ds, u, h => by
    simp only [repB] at h
    split at h
    · rename_i a
      split at h
      · rename_i c od its n sl hl
        simp only [Bool.and_eq_true, decide_eq_true_eq] at h
        obtain ⟨⟨h1, h2⟩, h3⟩ := h
        split at h1
        · rename_i nm
          have e : nm = "tuple" := by simpa using h1
          subst e
          obtain ⟨vs, r1, r2⟩ := reps_of ds its.toList h3
          refine ⟨.ref a, rfl, fun ρ H => ?_⟩
          simp only [Rep]
          exact ⟨a, vs, rfl, .inr ⟨_, its, n, hl, rfl, rfl, h2, r1⟩, r2 ρ H⟩
        · cases h1
      · cases h
    · cases h
  | .lst _, _, h => by simp only [repB] at h; cases h
  | .ref _, _, h => by simp only [repB] at h; cases h
  | .scr _, _, h => by simp only [repB] at h; cases h
theorem reps_of {K : Frag} : ∀ (ds : List D) (us : List Value), repsB K ds us = true → ∃ vs, Vals vs us ∧ ∀ ρ H, Reps K ρ H ds vs
  | [], us, h => by
    simp only [repsB, List.isEmpty_iff] at h
    subst h
    exact ⟨[], .nil, fun _ _ => Reps.nil⟩
  | d :: ds, us, h => by
    simp only [repsB] at h
    split at h
    · rename_i u us
      rw [Bool.and_eq_true] at h
      obtain ⟨v, r1, r2⟩ := rep_of d u h.1
      obtain ⟨vs, r3, r4⟩ := reps_of ds us h.2
      exact ⟨v :: vs, .cons r1 r3, fun ρ H => .cons (r2 ρ H) (r4 ρ H)⟩
    · cases h
end
def conB (K : Frag) (c : Str × D) : Bool := match nsIn K mainGlobals c.1 with
  | some (some u) => repB K c.2 u
  | _ => false
def bltB (K : Frag) (y : Str) : Bool := match nsIn K mainGlobals y with
  | some none => true
  | _ => false
end Mi
end
section
set_option Elab.async false
set_option linter.all false
set_option maxRecDepth 100000
namespace Mi
open PySem PySem.Spec PySem.W PySem.Calls PyProof.Rows PySem.HandSPX L2

/-! error classes -/
def keepsB : List Str → List Stmt → Bool
  | [], b => b.isEmpty
  | f :: fs, b => match b with
    | .Assign [.Attribute (.Name s _) g _] (.Name h _) _ :: r => (s == ("self" : Str)) && (g == f) && (h == f) && keepsB fs r
    | _ => false
theorem keeps_of : ∀ {fs : List Str} {b : List Stmt}, keepsB fs b = true → Keeps fs b
  | [], b, h => by
    simp only [keepsB, List.isEmpty_iff] at h
    subst h
    exact .nil
  | f :: fs, b, h => by
    simp only [keepsB] at h
    split at h
    · simp only [Bool.and_eq_true, beq_iff_eq] at h
      obtain ⟨⟨⟨rfl, rfl⟩, rfl⟩, h4⟩ := h
      exact .cons (keeps_of h4)
    · cases h
def veMro : List Value := [.type "ValueError", .type "Exception", .type "BaseException", .type "object"]
def bodyB (fs : List Str) : FuncBody → Bool
  | .stmts (.Expr (.Call (.Attribute (.Call (.Name s _) [] [] _) i p2) [.Constant (.str _) _ _] [] p4) _ :: body) => (s == ("super" : Str)) && (i == ("__init__" : Str)) && (p2.endLine == p4.line) && keepsB fs body
  | _ => false
theorem body_of {fs : List Str} {b : FuncBody} (h : bodyB fs b = true) : ∃ (p0 p1 p2 p3 p4 p5 : Pos) (m : Str) (j : Nat) (body : List Stmt),
    b = .stmts (.Expr (.Call (.Attribute (.Call (.Name "super" p0) [] [] p1) "__init__" p2) [.Constant (.str m) j p3] [] p4) p5 :: body) ∧ (p2.endLine == p4.line) = true ∧ Keeps fs body := by
  unfold bodyB at h
  split at h
  · rw [Bool.and_eq_true, Bool.and_eq_true, Bool.and_eq_true] at h
    obtain ⟨⟨⟨h1, h2⟩, h3⟩, h4⟩ := h
    have e1 := beq_iff_eq.mp h1
    have e2 := beq_iff_eq.mp h2
    subst e1 e2
    exact ⟨_, _, _, _, _, _, _, _, _, rfl, h3, keeps_of h4⟩
  · cases h
def codeB (K : Frag) (prog : Program) (qual : Str) : Value → Bool
  | .ref cda => codeIn K (.ref cda) qual && (match K.lookup cda with
    | some ⟨_, _, .fields vs, _⟩ => (match (vs[2]? : Option Value) with
      | some (Value.str file _) => (prog.main.file : Str) == file
      | _ => false)
    | _ => false)
  | _ => false
theorem code_of {K : Frag} {prog : Program} {qual : Str} {v : Value} (h : codeB K prog qual v = true) : ∃ (cda : Addr) (ccl : Value) (cdd : Option Addr) (vs : Array Value) (ccs : Array (Option Value)) (file : Str) (tf : Tok),
    v = .ref cda ∧ codeIn K (.ref cda) qual = true ∧ K.lookup cda = some ⟨ccl, cdd, .fields vs, ccs⟩ ∧ vs[2]? = some (.str file tf) ∧ ((prog.main.file : Str) == file) = true := by
  unfold codeB at h
  split at h
  · rw [Bool.and_eq_true] at h
    obtain ⟨h1, h2⟩ := h
    split at h2
    · rename_i hl
      split at h2
      · rename_i hv
        exact ⟨_, _, _, _, _, _, _, rfl, h1, hl, hv, h2⟩
      · cases h2
    · cases h2
  · cases h
def cellB (K : Frag) (C : Addr) : List (Str × Addr) → Bool
  | [(nm, cc)] => (nm == ("__class__" : Str)) && (match K.lookup cc with
    | some ⟨_, _, .cell (some (.ref D)), _⟩ => (clsIn K D).isSome && decide (mroIn K C (.ref D) = some true) && decide (ks_superIn K C D "__init__" = some (some (.builtin "ValueError.__init__")))
    | _ => false)
  | _ => false
theorem cell_of {K : Frag} {C : Addr} {l : List (Str × Addr)} (h : cellB K C l = true) : ∃ (cc D : Addr) (cl : Value) (cld : Option Addr) (csl : Array (Option Value)) (cdD : ClassData),
    l = [(("__class__" : Str), cc)] ∧ K.lookup cc = some ⟨cl, cld, .cell (some (.ref D)), csl⟩ ∧ clsIn K D = some cdD ∧ mroIn K C (.ref D) = some true ∧ ks_superIn K C D "__init__" = some (some (.builtin "ValueError.__init__")) := by
  unfold cellB at h
  split at h
  · rw [Bool.and_eq_true] at h
    obtain ⟨h1, h2⟩ := h
    have e1 := beq_iff_eq.mp h1
    subst e1
    split at h2
    · rename_i hl
      rw [Bool.and_eq_true, Bool.and_eq_true] at h2
      obtain ⟨⟨h3, h4⟩, h5⟩ := h2
      obtain ⟨cdD, h6⟩ := Option.isSome_iff_exists.mp h3
      exact ⟨_, _, _, _, _, cdD, rfl, hl, h6, of_decide_eq_true h4, of_decide_eq_true h5⟩
    · cases h2
  · cases h
def superScopeB (fs : List Str) (sc : Scope) : Bool := (sc.names.lookup ("super" : Str) == some .globalImplicit) && (sc.names.lookup ("__class__" : Str) == some .free) && ((("self" : Str) :: fs).all fun y => (sc.names.lookup y == some .local) && !(y == ("__debug__" : Str))) && (sc.names.all fun y => !(y.2 == .cell)) &&
  (sc.kind == .function) && !sc.isCoroutine && !sc.isGenerator
def initB (K : Frag) (prog : Program) (C fI : Addr) (fs : List Str) : Bool := decide (typeIn K (.ref fI) = some (.type "function")) && (match K.lookup fI with
  | some ⟨_, _, .func fd, _⟩ => (fd.name == ("__init__" : Str)) && decide (fd.globals = mainGlobals) && decide (fd.builtins = builtinsNs) && fd.params.posonlyargs.isEmpty && fd.params.kwonlyargs.isEmpty && fd.params.vararg.isNone && fd.params.kwarg.isNone && isNoneV fd.defaults &&
    decide (namesOf fd = ("self" : Str) :: fs) && cellB K C fd.closure && codeB K prog fd.qualname fd.code && bodyB fs fd.body && superScopeB fs fd.scope
  | _ => false)
def supB (K : Frag) (prog : Program) (C : Addr) (fs : List Str) : Bool := (match K.lookup C with
    | some ⟨.type t, _, .cls cd, sl⟩ => (t == "type") && (match cd.mro with | .ref C' :: bm => decide (C' = C) && refsVE bm | _ => false) && cd.hasDict && !cd.hasDel && (match sl.toList with | [_, _, _, _, some (.builtin n), _] => n == "ValueError.__new__" | _ => false)
    | _ => false) && decide (findIn K (.ref C) "__setattr__" = some (some (.builtin "object.__setattr__"))) && (fs.all fun f => decide (findIn K (.ref C) f = some none)) && (match findIn K (.ref C) "__init__" with | some (some (.ref fI)) => initB K prog C fI fs | _ => false) &&
  !(prog.main.scope.names.lookup ("super" : Str)).isSome && decide (nsIn K cStatics "thirdparty.any" = some none) && decide (subIn K (.ref C) (.type "ValueError") = some true) && excInitIn K C veMro "ValueError.__new__" && decide ((("self" : Str) :: fs).Nodup) && bltB K "super"
theorem cls_of {K : Frag} {C : Addr} (h : (match K.lookup C with
    | some ⟨.type t, _, .cls cd, sl⟩ => (t == "type") && (match cd.mro with | .ref C' :: bm => decide (C' = C) && refsVE bm | _ => false) && cd.hasDict && !cd.hasDel && (match sl.toList with | [_, _, _, _, some (.builtin n), _] => n == "ValueError.__new__" | _ => false)
    | _ => false) = true) : ∃ nm q N bs bm sn sub ab col dd k0 k1 k2 k3 k5, K.lookup C = some (excClassObj nm q C N bs bm true sn sub ab col dd k0 k1 k2 k3 k5 "ValueError.__new__") ∧ refsVE bm = true := by
  split at h
  · rename_i t dd cd sl hl
    obtain ⟨nm, bs, mro, N, q, hd, sn, sub, ab, col, del⟩ := cd
    rw [Bool.and_eq_true, Bool.and_eq_true, Bool.and_eq_true, Bool.and_eq_true] at h
    obtain ⟨⟨⟨⟨h1, h2⟩, h3⟩, h4⟩, h5⟩ := h
    simp only at h2 h3 h4
    split at h2
    · rename_i C' bm
      rw [Bool.and_eq_true] at h2
      have e1 := beq_iff_eq.mp h1
      have e2 := of_decide_eq_true h2.1
      have e3 : del = false := by simpa using h4
      subst e1 e2 e3 h3
      split at h5
      · rename_i k0 k1 k2 k3 n k5 hs
        have e4 := beq_iff_eq.mp h5
        subst e4
        have e5 : sl = #[k0, k1, k2, k3, some (.builtin "ValueError.__new__"), k5] := by
          cases sl
          simpa using hs
        subst e5
        exact ⟨_, _, _, _, _, _, _, _, _, _, _, _, _, _, _, hl, h2.2⟩
      · cases h5
    · cases h2
  · cases h
theorem sup_of {K : Frag} {prog : Program} {mg : Str → Option Value} {h : Heap} {C : Addr} {fs : List Str} (X : K.In h) (G : h.Ns mainGlobals mg) (hh : supB K prog C fs = true) : SupC K mg prog C fs := by
  unfold supB at hh
  rw [Bool.and_eq_true, Bool.and_eq_true, Bool.and_eq_true, Bool.and_eq_true, Bool.and_eq_true, Bool.and_eq_true, Bool.and_eq_true, Bool.and_eq_true, Bool.and_eq_true] at hh
  obtain ⟨⟨⟨⟨⟨⟨⟨⟨⟨h1, h2⟩, h3⟩, h4⟩, h5⟩, h6⟩, h7⟩, h8⟩, h9⟩, h10⟩ := hh
  have hs : nsIn K mainGlobals "super" = some none := by
    unfold bltB at h10
    split at h10
    · assumption
    · cases h10
  refine ⟨cls_of h1, of_decide_eq_true h2, fun f hf => of_decide_eq_true (List.all_eq_true.mp h3 f hf), ?_, mg_none_of X G hs, by simpa using h5, of_decide_eq_true h6, of_decide_eq_true h7, h8, of_decide_eq_true h9⟩
  split at h4
  · rename_i fI hfI
    unfold initB at h4
    rw [Bool.and_eq_true] at h4
    obtain ⟨ht, h4⟩ := h4
    split at h4
    · rename_i oc od fd osl hl
      simp only [Bool.and_eq_true, decide_eq_true_eq] at h4
      obtain ⟨⟨⟨⟨⟨⟨⟨⟨⟨⟨⟨⟨a1, a2⟩, a3⟩, a4⟩, a5⟩, a6⟩, a7⟩, a8⟩, a9⟩, a10⟩, a11⟩, a12⟩, a13⟩ := h4
      have hd : fd.defaults = .none := by
        cases hh : fd.defaults <;> first | rfl | (rw [hh] at a8; cases a8)
      have p1 : fd.params.posonlyargs = [] := List.isEmpty_iff.mp a4
      have p2 : fd.params.kwonlyargs = [] := List.isEmpty_iff.mp a5
      have p3 : fd.params.vararg = none := Option.isNone_iff_eq_none.mp a6
      have p4 : fd.params.kwarg = none := Option.isNone_iff_eq_none.mp a7
      have bnd : ∀ us : List Value, us.length = (("self" : Str) :: fs).length → bindArgs fd ⟨us, []⟩ = pure ((("self" : Str) :: fs).zip us) := fun us hu => binds_plain a9 p1 p2 p3 p4 hd (of_decide_eq_true h9) us hu
      obtain ⟨cc, D, cl, cld, csl, cdD, c1, c2, c3, c4, c5⟩ := cell_of a10
      obtain ⟨cda, ccl, cdd, vs, ccs, file, tf, d1, d2, d3, d4, d5⟩ := code_of a11
      obtain ⟨q0, q1, q2, q3, q4, q5, m, j, body, b1, b2, b3⟩ := body_of a12
      unfold superScopeB at a13
      simp only [Bool.and_eq_true, List.all_eq_true] at a13
      obtain ⟨⟨⟨⟨⟨⟨s1, s2⟩, s3⟩, s4⟩, s5⟩, s6⟩, s7⟩ := a13
      obtain ⟨name, qual, params, fb, scope, globals, closure, dV, kV, doc, pm, an, code, ct, bl⟩ := fd
      simp only at a2 a3 b1 c1 d1 a9 s1 s2 s3 s4 s5 s6 s7 p1
      have e1 := beq_iff_eq.mp a1
      simp only at e1
      subst a2 a3 b1 c1 d1 e1
      have hp : params.posonlyargs ++ params.args = params.args := by rw [p1]; rfl
      obtain ⟨ar, ars, e2⟩ : ∃ ar ars, params.args = ar :: ars := by
        cases hpa : params.args with
        | nil => rw [show namesOf _ = params.args.map (·.arg) from rfl, hpa] at a9; cases a9
        | cons a l => exact ⟨a, l, rfl⟩
      have e3 : ar.arg = "self" := by
        rw [show namesOf _ = params.args.map (·.arg) from rfl, e2] at a9
        simpa using (List.cons.inj a9).1
      refine ⟨fI, D, cc, cda, m, qual, params, scope, dV, kV, doc, pm, ct, oc, cl, ccl, an, od, cld, cdd, osl, csl, ccs, vs, file, tf, cdD, j, q0, q1, q2, q3, q4, q5, body, ar, b2, b3, hfI, of_decide_eq_true ht, hl, d2, Binds.all bnd, by rw [hp, e2]; rfl, e3, d3, d4, d5, c2, c3, c4, c5, beq_some s1, beq_some s2, fun y hy => ?_, fun y hy z => ?_, by simpa using s5, by simpa using s6, by simpa using s7⟩
      · have := s3 y hy
        exact ⟨beq_some this.1, by simpa using this.2⟩
      · have := s4 y hy
        rw [z] at this
        cases this
    · cases h4
  · cases h4
/-! all at once -/
def xfE (K : Frag) (D : Addr) : Bool := xfB K D && decide (findIn K (.ref D) "__class__" = some (some (.builtin "object.__class__"))) && decide (specialIn K (.builtin "object.__class__") "__get__" = some (some (.builtin "getset_descriptor.__get__"))) && decide (takesIn K (.builtin "object.__class__") = some true) && decide (mroIn K D (.type "object") = some true) &&
  decide (kitOne K (.ref D) (.type "ValueError") = some true)
def excB (K : Frag) (P : Prog) (ei : EInfo) : Bool := match globO K ei.name with
  | some D => xfE K D && (P.excs.all fun ed => ed.fields.all fun f => decide (findIn K (.ref D) f = some none)) && ((List.range P.excs.length).all fun d => match P.excs[d]? with
      | some ed => (match globO K ed.name with
        | some D' => decide (exmOne K (.ref D) (.ref D') = some (ei.anc.contains d)) && decide (kitOne K (.ref D) (.ref D') = some (ei.anc.contains d))
        | none => false)
      | none => false)
  | none => false
def ownB (K : Frag) (prog : Program) (P : Prog) (c : Nat) : Bool := match P.excs[c]? with
  | some ei => (match globO K ei.name with
    | some D => supB K prog D ei.fields && keepIn K (.ref D) && decide (subIn K (.ref D) (.type "BaseException") = some true) && decide (typeIn K (.ref D) = some (.type "type")) && decide (ei.fields.length ≤ 900)
    | none => false)
  | none => false
def insB (K : Frag) (P : Prog) (ci : CInfo) : Bool := match globO K ci.name with
  | some D => plainGet K D Str.empty && hasDictIn K D && plainOver K D && decide (findIn K (.ref D) "__setattr__" = some (some (.builtin "object.__setattr__"))) && (ci.flds.all fun f => decide (findIn K (.ref D) f = some none)) &&
      makesIn K D && decide (findIn K (.ref D) "__init__" = some (some (.ref (adrOf K P ci.init)))) && isFn K (.ref (adrOf K P ci.init)) && keepIn K (.ref D) && (match P.fns[ci.init]? with | some fi => fi.plain | none => false) &&
      (ci.meths.all fun m => decide (findIn K (.ref D) m.1 = some (some (.ref (adrOf K P m.2)))) && isFn K (.ref (adrOf K P m.2)) && keepIn K (.ref (adrOf K P m.2)) && (match P.fns[m.2]? with | some fi => fi.plain | none => false))
  | none => false
def statB (K : Frag) (prog : Program) (P : Prog) (own : List Nat) : Bool :=
  ((List.range P.fns.length).all fun f => match P.fns[f]? with
    | some fi => defB K P own f fi && (!fi.top || (decide (globO K fi.name = some (adrOf K P f)) && keepIn K (.ref (adrOf K P f))))
    | none => false) && (bltNames.all fun y => bltB K y) && (P.consts.all fun c => conB K c) && (P.excs.all fun ei => excB K P ei) && (own.all fun c => ownB K prog P c) && (P.inss.all fun ci => insB K P ci)
theorem glob_of {K : Frag} {h : Heap} {mg : Str → Option Value} (X : K.In h) (G : h.Ns mainGlobals mg) {y : Str} {a : Addr} (e : globO K y = some a) : mg y = some (.ref a) := by
  unfold globO refO at e
  split at e
  · rename_i b hb
    cases e
    exact mg_of X G hb
  · cases e
theorem blt_of {K : Frag} {h : Heap} {mg : Str → Option Value} (X : K.In h) (G : h.Ns mainGlobals mg) {y : Str} (e : bltB K y = true) : mg y = none := by
  unfold bltB at e
  split at e
  · exact mg_none_of X G (by assumption)
  · cases e
theorem mem_of_at {α : Type} {l : List α} {i : Nat} {a : α} (e : l[i]? = some a) : a ∈ l := List.mem_of_getElem? e
theorem plain_some {o : Option FInfo} (h : (match o with | some fi => fi.plain | none => false) = true) : ∃ fi, o = some fi ∧ fi.plain = true := by
  cases o with
  | none => cases h
  | some fi => exact ⟨fi, rfl, h⟩
theorem stat_of {K : Frag} {prog : Program} {w : World} {P : Prog} {own : List Nat} {h : Heap} {mg : Str → Option Value} (X : K.In h) (G : h.Ns mainGlobals mg) (hs : statB K prog P own = true) (hsig : ∀ (g : Nat) (sg : Sig), P.sigs[g]? = some sg → ∃ fi dus, P.fns[sg.f]? = some fi ∧ fi.top = true ∧ SigB K (fdOf K (adrOf K P sg.f)) (psOf (fdOf K (adrOf K P sg.f))) sg dus) : ∃ S : Stat prog w K mg P own, S.adr = adrOf K P ∧ S.pss = fun f => psOf (fdOf K (adrOf K P f)) := by
  unfold statB at hs
  rw [Bool.and_eq_true, Bool.and_eq_true, Bool.and_eq_true, Bool.and_eq_true, Bool.and_eq_true] at hs
  obtain ⟨⟨⟨⟨⟨h1, h2⟩, h3⟩, h4⟩, h5⟩, h6⟩ := hs
  have fnB : ∀ (f : Nat) (fi : FInfo), P.fns[f]? = some fi → defB K P own f fi = true ∧ (fi.top = true → globO K fi.name = some (adrOf K P f) ∧ keepIn K (.ref (adrOf K P f)) = true) := fun f fi hf => by
    have hl := (List.getElem?_eq_some_iff.mp hf).1
    have := List.all_eq_true.mp h1 f (List.mem_range.mpr hl)
    rw [hf] at this
    simp only [Bool.and_eq_true, Bool.or_eq_true, decide_eq_true_eq] at this
    refine ⟨this.1, fun ht => ?_⟩
    rcases this.2 with z | z
    · rw [ht] at z; cases z
    · exact z
  have insD : ∀ (c : Nat) (ci : CInfo), P.inss[c]? = some ci → ∃ D, globO K ci.name = some D ∧ Cls K D ∧ (∀ f ∈ ci.flds, NoAttr K D f) ∧ Mk K D (adrOf K P ci.init) ∧ (∃ fi, P.fns[ci.init]? = some fi ∧ fi.plain = true) ∧ ∀ m ∈ ci.meths, Meth K D m.1 (adrOf K P m.2) ∧ ∃ fi, P.fns[m.2]? = some fi ∧ fi.plain = true := fun c ci hc => by
    have := List.all_eq_true.mp h6 ci (mem_of_at hc)
    unfold insB at this
    split at this
    · rename_i D hD
      simp only [Bool.and_eq_true, decide_eq_true_eq, List.all_eq_true] at this
      obtain ⟨⟨⟨⟨⟨⟨⟨⟨⟨⟨a1, a2⟩, a3⟩, a4⟩, a5⟩, a6⟩, a7⟩, a8⟩, a9⟩, a10⟩, a11⟩ := this
      refine ⟨D, hD, ⟨a1, a2, a3, a4⟩, a5, ⟨a6, a7, a8, a9⟩, plain_some a10, fun m hm => ?_⟩
      obtain ⟨⟨⟨b1, b2⟩, b3⟩, b4⟩ := a11 m hm
      exact ⟨⟨b1, b2, b3⟩, plain_some b4⟩
    · cases this
  have excD : ∀ (c : Nat) (ei : EInfo), P.excs[c]? = some ei → ∃ D, globO K ei.name = some D ∧ xfE K D = true ∧ (∀ ed ∈ P.excs, ∀ f ∈ ed.fields, findIn K (.ref D) f = some none) ∧ ∀ (d : Nat) (ed : EInfo) (D' : Addr), P.excs[d]? = some ed → globO K ed.name = some D' → exmOne K (.ref D) (.ref D') = some (ei.anc.contains d) ∧ kitOne K (.ref D) (.ref D') = some (ei.anc.contains d) := fun c ei hc => by
    have := List.all_eq_true.mp h4 ei (mem_of_at hc)
    unfold excB at this
    split at this
    · rename_i D hD
      simp only [Bool.and_eq_true, List.all_eq_true, decide_eq_true_eq] at this
      obtain ⟨⟨a1, a2⟩, a3⟩ := this
      refine ⟨D, hD, a1, a2, fun d ed D' hd hD' => ?_⟩
      have := a3 d (List.mem_range.mpr (List.getElem?_eq_some_iff.mp hd).1)
      rw [hd] at this
      simp only [hD', Bool.and_eq_true, decide_eq_true_eq] at this
      exact this
    · cases this
  have mgEq : ∀ {y : Str} {D C : Addr}, globO K y = some D → mg y = some (.ref C) → D = C := fun {y D C} e e' => by
    have := glob_of X G e
    rw [this] at e'
    cases e'
    rfl
  refine ⟨⟨adrOf K P, fun f => fdOf K (adrOf K P f), fun f => psOf (fdOf K (adrOf K P f)), fun f fi hf => def_of (fnB f fi hf).1, fun f fi hf ht => ⟨glob_of X G ((fnB f fi hf).2 ht).1, ((fnB f fi hf).2 ht).2⟩, fun c ci hc => ?_, hsig, fun Y y1 y2 y3 => ?_⟩, rfl, rfl⟩
  · obtain ⟨D, k1, k2⟩ := insD c ci hc
    exact ⟨D, glob_of X G k1, k2⟩
  · subst y1 y2 y3
    refine ⟨fun y hy => blt_of X G (List.all_eq_true.mp h2 y hy), fun g c hc => ?_, ⟨fun c ei hc => ?_, fun c hc ei he D hD => ?_, fun c ei hc D hD d ed hd f hf => ?_, fun c d ei ed C D hc hd hC hD => ?_, fun c ei D hc hD => ?_⟩, fun c ci hc D hD => ?_⟩
    · have := List.all_eq_true.mp h3 c (mem_of_at hc)
      unfold conB at this
      split at this
      · rename_i u hu
        obtain ⟨v, r1, r2⟩ := rep_of c.2 u this
        exact ⟨v, u, mg_of X G hu, r1, r2⟩
      · cases this
    · obtain ⟨D, k1, k2, _⟩ := excD c ei hc
      unfold xfE at k2
      simp only [Bool.and_eq_true, decide_eq_true_eq] at k2
      obtain ⟨⟨⟨⟨⟨a1, a2⟩, a3⟩, a4⟩, a5⟩, a6⟩ := k2
      have T := xfB_ok a1
      exact ⟨D, glob_of X G k1, T, ⟨T.ga, T.gg, T.exC, T.hdC, a2, a3, a4, a5⟩⟩
    · have := List.all_eq_true.mp h5 c hc
      unfold ownB at this
      rw [he] at this
      simp only at this
      split at this
      · rename_i D' hD'
        cases mgEq hD' hD
        simp only [Bool.and_eq_true, decide_eq_true_eq] at this
        obtain ⟨⟨⟨⟨a1, a2⟩, a3⟩, a4⟩, a5⟩ := this
        exact ⟨sup_of X G a1, a2, raises_own a3 a4, a5⟩
      · cases this
    · obtain ⟨D', k1, k2, k3, _⟩ := excD c ei hc
      cases mgEq k1 hD
      exact k3 ed (mem_of_at hd) f hf
    · obtain ⟨C', k1, _, _, k4⟩ := excD c ei hc
      cases mgEq k1 hC
      obtain ⟨D', l1, _⟩ := excD d ed hd
      cases mgEq l1 hD
      exact k4 d ed _ hd l1
    · obtain ⟨D', k1, k2, _⟩ := excD c ei hc
      cases mgEq k1 hD
      unfold xfE at k2
      simp only [Bool.and_eq_true, decide_eq_true_eq] at k2
      exact k2.2
    · obtain ⟨D', k1, k2, k3, _⟩ := insD c ci hc
      cases mgEq k1 hD
      exact ⟨k2, k3⟩
/-! defaults -/
/-- the value of the i-th parameter's default -/
def dflU (K : Frag) (fd : FuncData) (i : Nat) : Value :=
  if i < fd.params.args.length then (match fd.defaults with
    | .ref T => (match K.lookup T with
      | some ⟨_, _, .seq its _, _⟩ => its.toList.getD (i - (fd.params.args.length - its.size)) .none
      | _ => .none)
    | _ => .none)
  else (match fd.kwdefaults with
    | .ref D => (nsIn K D ((psOf fd).getD i "")).join.getD .none
    | _ => .none)
def dusOf (K : Frag) (P : Prog) (sg : Sig) : List Value := (List.range sg.srcs.length).map fun i => dflU K (fdOf K (adrOf K P sg.f)) i
def sigB (K : Frag) (P : Prog) (sg : Sig) : Bool := (match P.fns[sg.f]? with | some fi => fi.top | none => false) && (sg.srcs.zip (dusOf K P sg)).all fun p => match p.1 with
  | .dfl d => repB K d p.2
  | _ => true
/-- one form of call, asked by one Bool, but for how it binds -/
theorem sig_of {K : Frag} {P : Prog} {sg : Sig} (h : sigB K P sg = true)
    (to : ∀ (s : Shared) (us ws : List Value), K.In s.heap → us.length = sg.n → ws.length = sg.ks.length → BindsTo s (fdOf K (adrOf K P sg.f)) ⟨us, sg.ks.zip ws⟩ ((psOf (fdOf K (adrOf K P sg.f))).zip (arrU us ws (sg.srcs.zip (dusOf K P sg))))) :
    ∃ fi dus, P.fns[sg.f]? = some fi ∧ fi.top = true ∧ SigB K (fdOf K (adrOf K P sg.f)) (psOf (fdOf K (adrOf K P sg.f))) sg dus := by
  unfold sigB at h
  rw [Bool.and_eq_true] at h
  obtain ⟨h1, h2⟩ := h
  split at h1
  · rename_i fi hfi
    refine ⟨fi, dusOf K P sg, hfi, h1, ⟨by simp [dusOf], to, fun p hp d e => ?_⟩⟩
    have := List.all_eq_true.mp h2 p hp
    rw [e] at this
    exact rep_of d p.2 this
  · cases h1
end Mi
end
section
set_option maxRecDepth 100000
set_option linter.all false
/-! What the proofs of a law's own sum need of the small language. -/
namespace Mi
open PySem
theorem gcD_same (h : Hh) (d : D) : gcD h d h = .ok d h := by unfold gcD; split <;> rfl
theorem gcX_same (h : Hh) (e : Ex) : gcX h e h = .exc e h := by unfold gcX; split <;> rfl
theorem gcD_len (h h' : Hh) (d : D) (e : h'.length = h.length) : gcD h d h' = .ok d h' := by
  unfold gcD
  split
  · next c => rw [← e, List.take_length] at c; rw [c.2]
  · rfl
theorem gcX_len (h h' : Hh) (x : Ex) (e : h'.length = h.length) : gcX h x h' = .exc x h' := by
  unfold gcX
  split
  · next c => rw [← e, List.take_length] at c; rw [c.2]
  · rfl
theorem gcD_up (h h' : Hh) (d : D) (c : ¬(d.lo h.length = true)) : gcD h d h' = .ok d h' := by
  unfold gcD
  rw [if_neg fun k => c k.1]
theorem gcD_down (h g : Hh) (d : D) (c : d.lo h.length = true) : gcD h d (h ++ g) = .ok d h := by
  unfold gcD
  rw [if_pos ⟨c, by simp⟩]
theorem gcX_down (h g : Hh) (e : Ex) (c : los h.length (e.2.map (·.2)) = true) : gcX h e (h ++ g) = .exc e h := by
  unfold gcX
  rw [if_pos ⟨c, by simp⟩]
theorem atI_in {α : Type} (xs : List α) (i : Int) (h0 : 0 ≤ i) (h1 : i < xs.length) : ∃ x, L2.atI xs i = some x ∧ x ∈ xs := by
  refine ⟨xs[i.toNat]'(by omega), ?_, List.getElem_mem _⟩
  unfold L2.atI L2.ixN
  rw [if_pos h0, if_pos (by omega)]
  exact List.getElem?_eq_getElem _
theorem atI_some {α : Type} {xs : List α} {i : Int} {x : α} (h : L2.atI xs i = some x) : x ∈ xs := by
  unfold L2.atI at h
  cases e : L2.ixN xs.length i with
  | none => rw [e] at h; exact nomatch h
  | some j => rw [e] at h; exact List.mem_of_getElem? h
theorem cutD_sub {α : Type} (xs : List α) (lo hi : Option Int) : ∀ x ∈ cutD xs lo hi, x ∈ xs := fun _ h => List.mem_of_mem_drop (List.mem_of_mem_take h)
theorem cutD_len {α : Type} (xs : List α) (lo hi : Option Int) : (cutD xs lo hi).length ≤ xs.length := by
  unfold cutD
  simp
  omega
/-! readings, one per shape -/
section
variable (h : Hh) (i j : Int) (s u : Str) (b c : Bool) (xs ys : List D) (p : Nat)
@[simp] theorem rd_int : rd h (.int i) = .int i := Eq.trans rfl rfl
@[simp] theorem rd_str : rd h (.str s) = .str s := Eq.trans rfl rfl
@[simp] theorem rd_bl : rd h (.bl b) = .bl b := Eq.trans rfl rfl
@[simp] theorem rd_non : rd h .non = .non := Eq.trans rfl rfl
@[simp] theorem rd_tup : rd h (.tup xs) = .tup xs := Eq.trans rfl rfl
@[simp] theorem rd_lst : rd h (.lst xs) = .lst xs := Eq.trans rfl rfl
@[simp] theorem truthD_bl : truthD h (.bl b) = some b := Eq.trans rfl rfl
@[simp] theorem truthD_int : truthD h (.int i) = some (i != 0) := Eq.trans rfl rfl
@[simp] theorem truthD_non : truthD h .non = some false := Eq.trans rfl rfl
@[simp] theorem truthD_tup : truthD h (.tup xs) = some (!xs.isEmpty) := Eq.trans rfl rfl
@[simp] theorem truthD_lst : truthD h (.lst xs) = some (!xs.isEmpty) := Eq.trans rfl rfl
@[simp] theorem truthD_str : truthD h (.str s) = if s.length ≤ sizeLine then some (s.length != 0) else none := Eq.trans rfl rfl
@[simp] theorem cmpD_Lt : cmpD h .Lt (.int i) (.int j) = some (decide (i < j)) := Eq.trans rfl rfl
@[simp] theorem cmpD_LtE : cmpD h .LtE (.int i) (.int j) = some (decide (i ≤ j)) := Eq.trans rfl rfl
@[simp] theorem cmpD_Gt : cmpD h .Gt (.int i) (.int j) = some (decide (j < i)) := Eq.trans rfl rfl
@[simp] theorem cmpD_GtE : cmpD h .GtE (.int i) (.int j) = some (decide (j ≤ i)) := Eq.trans rfl rfl
@[simp] theorem cmpD_Eq (x y : D) : cmpD h .Eq x y = eqD h x y := Eq.trans rfl rfl
@[simp] theorem cmpD_NotEq (x y : D) : cmpD h .NotEq x y = (eqD h x y).map not := Eq.trans rfl rfl
@[simp] theorem cmpD_In (x y : D) : cmpD h .In x y = inD h x y := Eq.trans rfl rfl
@[simp] theorem cmpD_NotIn (x y : D) : cmpD h .NotIn x y = (inD h x y).map not := Eq.trans rfl rfl
@[simp] theorem cmpD_Is (x : D) : cmpD h .Is x .non = some (isNone x) := Eq.trans rfl rfl
@[simp] theorem cmpD_IsNot (x : D) : cmpD h .IsNot x .non = some (!isNone x) := Eq.trans rfl rfl
@[simp] theorem eqD_int : eqD h (.int i) (.int j) = some (i == j) := Eq.trans rfl rfl
@[simp] theorem binD_add : binD h .Add (.int i) (.int j) = some (.int (i + j)) := Eq.trans rfl rfl
@[simp] theorem binD_sub : binD h .Sub (.int i) (.int j) = some (.int (i - j)) := Eq.trans rfl rfl
@[simp] theorem binD_mod : binD h .Mod (.int i) (.int j) = if j ≠ 0 then some (.int (i.fmod j)) else none := Eq.trans rfl rfl
@[simp] theorem binD_div : binD h .FloorDiv (.int i) (.int j) = if j ≠ 0 ∧ j.natAbs < 1073741824 then some (.int (i.fdiv j)) else none := Eq.trans rfl rfl
@[simp] theorem binD_mul : binD h .Mult (.int i) (.int j) = if small64 i = true ∨ small64 j = true then some (.int (i * j)) else none := Eq.trans rfl rfl
@[simp] theorem ixD_tup : ixD h (.tup xs) (.int i) = L2.atI xs i := Eq.trans rfl rfl
@[simp] theorem ixD_lst : ixD h (.lst xs) (.int i) = L2.atI xs i := Eq.trans rfl rfl
theorem ixD_ref {h : Hh} {p : Nat} {xs : List D} (e : h[p]? = some (.lst xs)) (i : Int) : ixD h (.ref p) (.int i) = L2.atI xs i := by
  show (match h[p]?, D.int i with
    | some (.lst xs), .int k => L2.atI xs k
    | some o, k => match dget o k with
      | some (some d) => some d
      | _ => none
    | _, _ => none) = _
  rw [e]
@[simp] theorem ixD_ref0 (t : Hh) : ixD (.lst xs :: t) (.ref 0) (.int i) = L2.atI xs i := Eq.trans rfl rfl
@[simp] theorem lenD_tup : lenD h (.tup xs) = some xs.length := Eq.trans rfl rfl
@[simp] theorem lenD_lst : lenD h (.lst xs) = some xs.length := Eq.trans rfl rfl
@[simp] theorem biD_len (x : D) : biD h .len [x] = (lenD h x).map fun (n : Nat) => D.int (n : Int) := Eq.trans rfl rfl
@[simp] theorem biD_abs : biD h .abs [.int i] = some (.int (if i < 0 then -i else i)) := Eq.trans rfl rfl
@[simp] theorem biD_int : biD h .int [.int i] = some (.int i) := Eq.trans rfl rfl
theorem atI_nat {α : Type} (xs : List α) (k : Nat) : L2.atI xs (k : Int) = xs[k]? := by
  unfold L2.atI L2.ixN
  rw [if_pos (by omega)]
  by_cases hk : k < xs.length
  · rw [if_pos (by omega)]
    rfl
  · rw [if_neg (by omega), List.getElem?_eq_none (by omega)]
    rfl
@[simp] theorem atI_0 {α : Type} (x : α) (r : List α) : L2.atI (x :: r) 0 = some x := atI_nat _ 0
@[simp] theorem atI_1 {α : Type} (x y : α) (r : List α) : L2.atI (x :: y :: r) 1 = some y := atI_nat _ 1
@[simp] theorem atI_2 {α : Type} (x y z : α) (r : List α) : L2.atI (x :: y :: z :: r) 2 = some z := atI_nat _ 2
@[simp] theorem atI_3 {α : Type} (x y z w : α) (r : List α) : L2.atI (x :: y :: z :: w :: r) 3 = some w := atI_nat _ 3
@[simp] theorem setT_nm (d : D) (env : Env) (i : Nat) : setT (.nm i) d env = some (env.set i (some d)) := Eq.trans rfl rfl
end
/-! loops -/
def Turn (I : Env → Hh → Prop) (K : SR → Prop) : SR → Prop
  | .nx e h => I e h
  | .ct e h => I e h
  | .brk e h => K (.nx e h)
  | r => K r
theorem loopM_rule {g : Gd} {t : MT} {body : Env → Hh → SR} (I : List D → Env → Hh → Prop) (K : SR → Prop) (hg : ∀ ds env h, I ds env h → gok g h)
    (h0 : ∀ env h, I [] env h → K (.nx env h)) (hs : ∀ d ds env h, I (d :: ds) env h → ∃ env1, setT t d env = some env1 ∧ Turn (I ds) K (body env1 h)) :
    ∀ ds env h, I ds env h → K (loopM g t body ds env h)
  | [], env, h, i => by
    rw [loopM, if_pos (hg _ _ _ i)]
    exact h0 env h i
  | d :: ds, env, h, i => by
    rw [loopM, if_pos (hg _ _ _ i)]
    obtain ⟨env1, e1, k⟩ := hs d ds env h i
    rw [e1]
    revert k
    show Turn (I ds) K (body env1 h) → K (match body env1 h with
        | .nx env2 h2 => loopM g t body ds env2 h2
        | .ct env2 h2 => loopM g t body ds env2 h2
        | .brk env2 h2 => .nx env2 h2
        | r => r)
    cases body env1 h with
    | nx e2 h2 => exact fun k => loopM_rule I K hg h0 hs ds e2 h2 k
    | ct e2 h2 => exact fun k => loopM_rule I K hg h0 hs ds e2 h2 k
    | brk e2 h2 => exact fun k => k
    | ret d h2 => exact fun k => k
    | exc x e2 h2 => exact fun k => k
    | stuck => exact fun k => k
theorem lcM_rule {g : Gd} {own : List Nat} {t : MT} {c : Env → Hh → Res Bool} {e : Env → Hh → Res D} {env : Env} (I : Hh → Prop) (P : D → Prop) (hg : ∀ h, I h → gok g h) :
    ∀ ds, (∀ d ∈ ds, ∀ h, I h → ∃ env1 b h1, setT t d (wipe env own) = some env1 ∧ c env1 h = .ok b h1 ∧ I h1 ∧ (b = true → ∃ y h2, e env1 h1 = .ok y h2 ∧ I h2 ∧ P y)) →
    ∀ h, I h → ∃ ys h', lcM g own t c e env ds h = .ok ys h' ∧ I h' ∧ (∀ y ∈ ys, P y) ∧ ys.length ≤ ds.length
  | [], _, h, i => ⟨[], h, by rw [lcM, if_pos (hg h i)], i, fun _ m => (nomatch m), Nat.le_refl _⟩
  | d :: ds, hs, h, i => by
    obtain ⟨env1, b, h1, e1, e2, i1, k⟩ := hs d List.mem_cons_self h i
    rw [lcM, if_pos (hg h i), e1]
    simp only [e2, bind_ok]
    cases b with
    | true =>
      obtain ⟨y, h2, e3, i2, p⟩ := k rfl
      obtain ⟨ys, h', e4, i3, q, l⟩ := lcM_rule I P hg ds (fun d m => hs d (List.mem_cons_of_mem _ m)) h2 i2
      refine ⟨y :: ys, h', ?_, i3, ?_, by simp only [List.length_cons]; omega⟩
      · simp [e3, e4]
      · intro z m
        rcases List.mem_cons.mp m with m | m
        · rw [m]; exact p
        · exact q z m
    | false =>
      obtain ⟨ys, h', e4, i3, q, l⟩ := lcM_rule I P hg ds (fun d m => hs d (List.mem_cons_of_mem _ m)) h1 i1
      exact ⟨ys, h', by simp [e4], i3, q, by simp only [List.length_cons]; omega⟩
theorem lcM_le {g : Gd} {own : List Nat} {t : MT} {c : Env → Hh → Res Bool} {e : Env → Hh → Res D} {env : Env} {ds : List D} {h : Hh} (I : Hh → Prop) (P : D → Prop) (m : Nat) (hm : ds.length ≤ m) (hg : ∀ h, I h → gok g h) (i : I h)
    (hs : ∀ d ∈ ds, ∀ h, I h → ∃ env1 b h1, setT t d (wipe env own) = some env1 ∧ c env1 h = .ok b h1 ∧ I h1 ∧ (b = true → ∃ y h2, e env1 h1 = .ok y h2 ∧ I h2 ∧ P y)) :
    ∃ ys h', lcM g own t c e env ds h = .ok ys h' ∧ I h' ∧ (∀ y ∈ ys, P y) ∧ ys.length ≤ m := by
  obtain ⟨ys, h', a, b, c, d⟩ := lcM_rule I P hg ds hs h i
  exact ⟨ys, h', a, b, c, Nat.le_trans d hm⟩
/-- where nothing changes -/
theorem lcM_map {g : Gd} {own : List Nat} {t : MT} {c : Env → Hh → Res Bool} {e : Env → Hh → Res D} {env : Env} {h : Hh} (p : D → Bool) (f : D → D) (hg : gok g h) :
    ∀ ds, (∀ d ∈ ds, ∃ env1, setT t d (wipe env own) = some env1 ∧ c env1 h = .ok (p d) h ∧ (p d = true → e env1 h = .ok (f d) h)) → lcM g own t c e env ds h = .ok ((ds.filter p).map f) h
  | [], _ => by rw [lcM, if_pos hg]; rfl
  | d :: ds, hs => by
    obtain ⟨env1, e1, e2, k⟩ := hs d List.mem_cons_self
    rw [lcM, if_pos hg, e1]
    have r := lcM_map p f hg ds (fun d m => hs d (List.mem_cons_of_mem _ m))
    cases b : p d with
    | true =>
      rw [b] at e2
      simp [e2, k b, r, b]
    | false =>
      rw [b] at e2
      simp [e2, r, b]
/-! dicts and objects at a place -/
theorem ixD_dct {h : Hh} {p : Nat} {kvs : List (L2.Key × D)} (e : h[p]? = some (.dct kvs)) (k : D) {d : D} (g : dget (.dct kvs) k = some (some d)) : ixD h (.ref p) k = some d := by
  show (match h[p]?, k with
    | some (.lst xs), .int k => L2.atI xs k
    | some o, k => match dget o k with
      | some (some d) => some d
      | _ => none
    | _, _ => none) = _
  rw [e]
  show (match dget (.dct kvs) k with
      | some (some d) => some d
      | _ => none) = _
  rw [g]
theorem inD_dct {h : Hh} {p : Nat} {kvs : List (L2.Key × D)} (e : h[p]? = some (.dct kvs)) (i : Int) : inD h (.int i) (.ref p) = some (getK kvs (.inl i)).isSome := by
  show (match h[p]? with
    | some (.lst ys) => inL ys (rd h (.int i))
    | some o => (dget o (.int i)).map Option.isSome
    | none => none) = _
  rw [e]
  rfl
theorem setD_dct {h : Hh} {p : Nat} {kvs : List (L2.Key × D)} (e : h[p]? = some (.dct kvs)) (k d : D) {o : O} (g : dput (.dct kvs) k d = some o) : setD h (.ref p) k d = some (h.set p o) := by
  show (match h[p]?, k with
    | some (.lst xs), .int k => (L2.ixN xs.length k).map fun j => h.set p (.lst (xs.set j d))
    | some o, k => (dput o k d).map fun o' => h.set p o'
    | none, _ => none) = _
  rw [e]
  show (dput (.dct kvs) k d).map (fun o' => h.set p o') = _
  rw [g]
  rfl
@[simp] theorem slcD_tup (h : Hh) (xs : List D) (lo hi : Option Int) : slcD h (.tup xs) lo hi = some (.tup (cutD xs lo hi)) := Eq.trans rfl rfl
@[simp] theorem seqD_tup (h : Hh) (xs : List D) : seqD h (.tup xs) = some xs := Eq.trans rfl rfl
@[simp] theorem guardD_tup (h : Hh) (xs : List D) : guardD h (.tup xs) = [] := Eq.trans rfl rfl
end Mi
end
section
set_option maxRecDepth 100000
set_option linter.all false
/-! More of what the proofs of a law's own sum need. -/
namespace Mi
open PySem
theorem sizeLine_ge {n : Nat} (h : n ≤ 100000) : n ≤ sizeLine := Nat.le_trans h (by decide)
theorem rng_ok (n : Nat) (h : n ≤ 100000) : rngD 0 (n : Int) 1 = some ((List.range n).map fun (k : Nat) => D.int k) := by
  unfold rngD
  have e : ((n : Int) - 0).toNat = n := by omega
  rw [if_pos (by omega), if_pos rfl, e, if_pos (sizeLine_ge h)]
  simp only [Int.zero_add]
/-- a range from an int that may be negative -/
theorem rng_int (i : Int) (h : i ≤ 100000) (h1 : -100000 ≤ i) : rngD 0 i 1 = some ((List.range i.toNat).map fun (k : Nat) => D.int k) := by
  unfold rngD
  have e : (i - 0).toNat = i.toNat := by omega
  rw [if_pos (by omega), if_pos rfl, e, if_pos (sizeLine_ge (by omega))]
  simp only [Int.zero_add]
theorem loopM_at {g : Gd} {t : MT} {body : Env → Hh → SR} (xs : List D) (I : Nat → Env → Hh → Prop) (K : SR → Prop) (hg : ∀ k env h, I k env h → gok g h)
    (h0 : ∀ env h, I xs.length env h → K (.nx env h)) (hs : ∀ k (hk : k < xs.length) env h, I k env h → ∃ env1, setT t xs[k] env = some env1 ∧ Turn (I (k + 1)) K (body env1 h))
    (env : Env) (h : Hh) (i : I 0 env h) : K (loopM g t body xs env h) := by
  refine loopM_rule (fun ds env h => ∃ k, k ≤ xs.length ∧ ds = xs.drop k ∧ I k env h) K ?_ ?_ ?_ xs env h ⟨0, Nat.zero_le _, rfl, i⟩
  · rintro ds env h ⟨k, _, _, q⟩
    exact hg k env h q
  · rintro env h ⟨k, hk, e, q⟩
    have : k = xs.length := by
      have := congrArg List.length e
      simp at this
      omega
    subst this
    exact h0 env h q
  · rintro d ds env h ⟨k, hk, e, q⟩
    have hk1 : k < xs.length := by
      have := congrArg List.length e
      simp at this
      omega
    rw [List.drop_eq_getElem_cons hk1] at e
    obtain ⟨rfl, rfl⟩ := List.cons.inj e
    obtain ⟨env1, e1, z⟩ := hs k hk1 env h q
    refine ⟨env1, e1, ?_⟩
    revert z
    cases body env1 h with
    | nx e2 h2 => exact fun z => ⟨k + 1, hk1, rfl, z⟩
    | ct e2 h2 => exact fun z => ⟨k + 1, hk1, rfl, z⟩
    | brk e2 h2 => exact fun z => z
    | ret d h2 => exact fun z => z
    | exc x e2 h2 => exact fun z => z
    | stuck => exact fun z => z
/-- for k in range(n) -/
theorem loopM_n {g : Gd} {t : MT} {body : Env → Hh → SR} (n : Nat) (I : Nat → Env → Hh → Prop) (K : SR → Prop) (hg : ∀ k env h, I k env h → gok g h)
    (h0 : ∀ env h, I n env h → K (.nx env h)) (hs : ∀ k, k < n → ∀ env h, I k env h → ∃ env1, setT t (.int (k : Int)) env = some env1 ∧ Turn (I (k + 1)) K (body env1 h))
    (env : Env) (h : Hh) (i : I 0 env h) : K (loopM g t body ((List.range n).map fun (k : Nat) => D.int k) env h) := by
  refine loopM_at _ I K hg ?_ ?_ env h i
  · intro env h q
    simp at q
    exact h0 env h q
  · intro k hk env h q
    simp at hk
    obtain ⟨env1, e1, z⟩ := hs k hk env h q
    refine ⟨env1, ?_, z⟩
    simpa using e1
theorem heap2 {h h' : Hh} {a b : O} (hl : h'.length = h.length + 2) (ha : h'[h.length]? = some a) (hb : h'[h.length + 1]? = some b) (hr : ∀ j, j < h.length → h'[j]? = h[j]?) : h' = h ++ [a, b] := by
  apply List.ext_getElem?
  intro j
  rcases Nat.lt_trichotomy j h.length with k | k | k
  · rw [hr j k, List.getElem?_append_left k]
  · subst k
    rw [ha]
    simp
  · rcases Nat.lt_or_ge j (h.length + 2) with l | l
    · have : j = h.length + 1 := by omega
      subst this
      rw [hb]
      simp [List.getElem?_append_right]
    · rw [List.getElem?_eq_none (by omega), List.getElem?_eq_none (by simp; omega)]
/-! what a loop runs over, one equation a form (the kernel must not look into rngD) -/
noncomputable def rng1R : D → Hh → Res (List D × Gd)
  | .int i, h => Res.of ((rngD 0 i 1).map fun xs => (xs, [])) h
  | _, _ => .stuck
noncomputable def rng2R : D → D → Hh → Res (List D × Gd)
  | .int i, .int j, h => Res.of ((rngD i j 1).map fun xs => (xs, [])) h
  | _, _, _ => .stuck
noncomputable def rng3R : D → D → D → Hh → Res (List D × Gd)
  | .int i, .int j, .int k, h => Res.of ((rngD i j k).map fun xs => (xs, [])) h
  | _, _, _, _ => .stuck
@[simp] theorem rng1R_int (i : Int) (h : Hh) : rng1R (.int i) h = Res.of ((rngD 0 i 1).map fun xs => (xs, [])) h := Eq.trans rfl rfl
@[simp] theorem rng2R_int (i j : Int) (h : Hh) : rng2R (.int i) (.int j) h = Res.of ((rngD i j 1).map fun xs => (xs, [])) h := Eq.trans rfl rfl
@[simp] theorem rng3R_int (i j k : Int) (h : Hh) : rng3R (.int i) (.int j) (.int k) h = Res.of ((rngD i j k).map fun xs => (xs, [])) h := Eq.trans rfl rfl
section
variable (call : Nat → List D → Hh → Res D) (P : Prog) (x : Option Ex) (env : Mi.Env) (h : Hh) (a b c : ME)
@[simp] theorem semI_rng1 : semI call P x (.rng1 a) env h = (sem call P x a env h).bind rng1R := by
  rw [semI]
  congr 1
  funext u h1
  cases u <;> rfl
@[simp] theorem semI_rng2 : semI call P x (.rng2 a b) env h = (sem call P x a env h).bind fun u h1 => (sem call P x b env h1).bind fun v h2 => rng2R u v h2 := by
  rw [semI]
  congr 1
  funext u h1
  congr 1
  funext v h2
  cases u <;> cases v <;> rfl
@[simp] theorem semI_rng3 : semI call P x (.rng3 a b c) env h = (sem call P x a env h).bind fun u h1 => (sem call P x b env h1).bind fun v h2 => (sem call P x c env h2).bind fun w h3 => rng3R u v w h3 := by
  rw [semI]
  congr 1
  funext u h1
  congr 1
  funext v h2
  congr 1
  funext w h3
  cases u <;> cases v <;> cases w <;> rfl
@[simp] theorem semI_val : semI call P x (.val a) env h = (sem call P x a env h).bind fun u h1 => .of ((seqD h1 u).map fun xs => (xs, guardD h1 u)) h1 := by rw [semI]
@[simp] theorem semI_enum : semI call P x (.enum a) env h = (sem call P x a env h).bind fun u h1 => .of ((seqD h1 u).map fun xs => (enumD xs, guardD h1 u)) h1 := by rw [semI]
end
@[simp] theorem biD_max2 (h : Hh) (i j : Int) : biD h .max [.int i, .int j] = some (.int (if j > i then j else i)) := Eq.trans rfl rfl
@[simp] theorem biD_min2 (h : Hh) (i j : Int) : biD h .min [.int i, .int j] = some (.int (if j < i then j else i)) := Eq.trans rfl rfl
@[simp] theorem binD_pow (h : Hh) (i j : Int) : binD h .Pow (.int i) (.int j) = if powOk i j = true then some (.int (i ^ j.toNat)) else none := Eq.trans rfl rfl
theorem addD_lst (h : Hh) (xs ys : List D) (hl : xs.length + ys.length ≤ sizeLine) : binD h .Add (.lst xs) (.lst ys) = some (.lst (xs ++ ys)) := by
  show (catO h (.lst xs) (.lst ys)).map D.lst = _
  show (if xs.length + ys.length ≤ sizeLine then some (xs ++ ys) else none).map D.lst = _
  rw [if_pos hl]
  rfl
theorem addD_tup (h : Hh) (xs ys : List D) (hl : xs.length + ys.length ≤ sizeLine) : binD h .Add (.tup xs) (.tup ys) = some (.tup (xs ++ ys)) := by
  show (if xs.length + ys.length ≤ sizeLine then some (D.tup (xs ++ ys)) else none) = _
  rw [if_pos hl]
/-- an item of a made list -/
theorem at_made {α : Type} (xs : List α) (f : α → D) (r : Int) (h0 : 0 ≤ r) (h1 : r < xs.length) : ∃ a ∈ xs, L2.atI (xs.map f) r = some (f a) := by
  obtain ⟨x, e, hx⟩ := atI_in (xs.map f) r h0 (by simpa using h1)
  obtain ⟨a, ha, rfl⟩ := List.mem_map.mp hx
  exact ⟨a, ha, e⟩
theorem isNone_iff {d : D} : isNone d = true ↔ d = .non := by cases d <;> simp [isNone]
theorem enumD_at (xs : List D) (k : Nat) (hk : k < (enumD xs).length) : (enumD xs)[k] = .tup [.int k, xs[k]'(by simpa [enumD] using hk)] := by
  simp [enumD]
end Mi
end
section
set_option maxRecDepth 100000
set_option linter.all false
/-! The walk: the meaning's equations so laid that simp goes through a text in order, and looks at nothing behind a step that stands. -/
namespace Mi
open PySem
/-- (what stands behind is named in a type, so that no rewriting enters it) -/
inductive Dm {α : Sort _} (a : α) : Type where
  | mk
section
variable {α β : Type}
def bindL (r : Res α) (f : α → Hh → Res β) (_ : Dm f) : Res β := r.bind f
def thenL (r : Res α) (env : Mi.Env) (f : α → Hh → SR) (_ : Dm f) : SR := r.then env f
def sbindL (r : SR) (f : Mi.Env → Hh → SR) (_ : Dm f) : SR := r.bind f
@[simp] theorem bindL_ok (a : α) (h : Hh) (f : α → Hh → Res β) (d : Dm f) : bindL (.ok a h) f d = f a h := Eq.trans rfl rfl
@[simp] theorem bindL_exc (e : Ex) (h : Hh) (f : α → Hh → Res β) (d : Dm f) : bindL (.exc e h) f d = .exc e h := Eq.trans rfl rfl
@[simp] theorem bindL_stuck (f : α → Hh → Res β) (d : Dm f) : bindL .stuck f d = .stuck := Eq.trans rfl rfl
@[simp] theorem thenL_ok (a : α) (h : Hh) (env : Mi.Env) (f : α → Hh → SR) (d : Dm f) : thenL (.ok a h) env f d = f a h := Eq.trans rfl rfl
@[simp] theorem thenL_exc (e : Ex) (h : Hh) (env : Mi.Env) (f : α → Hh → SR) (d : Dm f) : thenL (.exc e h) env f d = .exc e env h := Eq.trans rfl rfl
@[simp] theorem thenL_stuck (env : Mi.Env) (f : α → Hh → SR) (d : Dm f) : thenL .stuck env f d = .stuck := Eq.trans rfl rfl
@[simp] theorem sbindL_nx (env : Mi.Env) (h : Hh) (f : Mi.Env → Hh → SR) (d : Dm f) : sbindL (.nx env h) f d = f env h := Eq.trans rfl rfl
@[simp] theorem sbindL_ret (v : D) (h : Hh) (f : Mi.Env → Hh → SR) (d : Dm f) : sbindL (.ret v h) f d = .ret v h := Eq.trans rfl rfl
@[simp] theorem sbindL_brk (env : Mi.Env) (h : Hh) (f : Mi.Env → Hh → SR) (d : Dm f) : sbindL (.brk env h) f d = .brk env h := Eq.trans rfl rfl
@[simp] theorem sbindL_ct (env : Mi.Env) (h : Hh) (f : Mi.Env → Hh → SR) (d : Dm f) : sbindL (.ct env h) f d = .ct env h := Eq.trans rfl rfl
@[simp] theorem sbindL_exc (e : Ex) (env : Mi.Env) (h : Hh) (f : Mi.Env → Hh → SR) (d : Dm f) : sbindL (.exc e env h) f d = .exc e env h := Eq.trans rfl rfl
@[simp] theorem sbindL_stuck (f : Mi.Env → Hh → SR) (d : Dm f) : sbindL .stuck f d = .stuck := Eq.trans rfl rfl
end
@[simp] theorem ite_ok {α : Type} {c : Prop} [Decidable c] (a b : α) (h : Hh) : (if c then Res.ok a h else Res.ok b h) = Res.ok (if c then a else b) h := by split <;> rfl
def nthE : Mi.Env → Nat → Option D
  | [], _ => none
  | a :: _, 0 => a
  | _ :: r, n + 1 => nthE r n
@[simp] theorem nthE_0 (a : Option D) (r : Mi.Env) : nthE (a :: r) 0 = a := Eq.trans rfl rfl
@[simp] theorem nthE_s (a : Option D) (r : Mi.Env) (n : Nat) : nthE (a :: r) (n + 1) = nthE r n := Eq.trans rfl rfl
theorem nthE_eq (env : Mi.Env) (i : Nat) : env[i]? = match nthE env i with
    | some d => some (some d)
    | none => env[i]? := by
  induction env generalizing i with
  | nil => simp [nthE]
  | cons a r ih =>
    cases i with
    | zero => cases a <;> simp [nthE]
    | succ i => simp only [List.getElem?_cons_succ, nthE]; exact ih i
def varL (o : Option D) (h : Hh) : Res D := match o with
  | some d => .ok d h
  | none => .stuck
@[simp] theorem varL_some (d : D) (h : Hh) : varL (some d) h = .ok d h := Eq.trans rfl rfl
theorem env_nth (env : Mi.Env) (i : Nat) : (match env[i]? with
    | some (some d) => some d
    | _ => none) = nthE env i := by
  induction env generalizing i with
  | nil => simp [nthE]
  | cons a r ih =>
    cases i with
    | zero => cases a <;> simp [nthE]
    | succ i => simp only [List.getElem?_cons_succ, nthE]; exact ih i
def negL : D → Hh → Res D
  | .int i, h => .ok (.int (-i)) h
  | _, _ => .stuck
@[simp] theorem negL_int (i : Int) (h : Hh) : negL (.int i) h = .ok (.int (-i)) h := Eq.trans rfl rfl
def fldL (f : Str) (u : D) (h : Hh) : Res D := match u with
  | .ref i => match h[i]? with
    | some (.ins _ fs) => .of (fs.lookup f) h
    | _ => .stuck
  | _ => .stuck
theorem fldL_ins {h : Hh} {i c : Nat} {fs : List (Str × D)} (e : h[i]? = some (.ins c fs)) (f : Str) : fldL f (.ref i) h = .of (fs.lookup f) h := by
  simp only [fldL, e]
def intL : D → Hh → Res (Option Int)
  | .int i, h => .ok (some i) h
  | _, _ => .stuck
@[simp] theorem intL_int (i : Int) (h : Hh) : intL (.int i) h = .ok (some i) h := Eq.trans rfl rfl
section
variable (call : Nat → List D → Hh → Res D) (P : Prog) (x : Option Ex) (env : Mi.Env) (h : Hh) (a b c : ME) (es : MEs) (m : MC)
@[simp] theorem w_var (i : Nat) : sem call P x (.var i) env h = varL (nthE env i) h := by
  rw [sem, ← env_nth]
  cases e : env[i]? with
  | none => rfl
  | some o => cases o <;> rfl
@[simp] theorem w_lit (d : D) : sem call P x (.lit d) env h = .ok d h := by rw [sem]
def glbL (o : Option (Str × D)) (h : Hh) : Res D := match o with
  | some c => .ok c.2 h
  | none => .stuck
@[simp] theorem glbL_some (k : Str) (d : D) (h : Hh) : glbL (some (k, d)) h = .ok d h := Eq.trans rfl rfl
@[simp] theorem w_glb (g : Nat) : sem call P x (.glb g) env h = glbL P.consts[g]? h := by rw [sem]; rfl
@[simp] theorem w_bin (o : Operator) : sem call P x (.bin o a b) env h = bindL (sem call P x a env h) (fun u h1 => bindL (sem call P x b env h1) (fun v h2 => .of (binD h2 o u v) h2) .mk) .mk := by rw [sem]; rfl
@[simp] theorem w_neg : sem call P x (.neg a) env h = bindL (sem call P x a env h) negL .mk := by
  rw [sem]
  show _ = (sem call P x a env h).bind negL
  congr 1
  funext u h1
  cases u <;> rfl
@[simp] theorem w_cmp (o : CmpOp) : sem call P x (.cmp o a b) env h = bindL (sem call P x a env h) (fun u h1 => bindL (sem call P x b env h1) (fun v h2 => .of ((cmpD h2 o u v).map .bl) h2) .mk) .mk := by rw [sem]; rfl
@[simp] theorem w_cmp2 (o o' : CmpOp) : sem call P x (.cmp2 o o' a b c) env h = bindL (sem call P x a env h) (fun u h1 => bindL (sem call P x b env h1) (fun v h2 => bindL (Res.of (cmpD h2 o u v) h2) (fun k h3 =>
      if k = true then bindL (sem call P x c env h3) (fun w h4 => .of ((cmpD h4 o' v w).map .bl) h4) .mk else .ok (.bl false) h3) .mk) .mk) .mk := by rw [sem]; rfl
@[simp] theorem w_and : sem call P x (.and a b) env h = bindL (sem call P x a env h) (fun u h1 => bindL (Res.of (truthD h1 u) h1) (fun k h2 => if k = true then sem call P x b env h2 else .ok u h2) .mk) .mk := by rw [sem]; rfl
@[simp] theorem w_or : sem call P x (.or a b) env h = bindL (sem call P x a env h) (fun u h1 => bindL (Res.of (truthD h1 u) h1) (fun k h2 => if k = true then .ok u h2 else sem call P x b env h2) .mk) .mk := by rw [sem]; rfl
@[simp] theorem w_not : sem call P x (.not a) env h = bindL (sem call P x a env h) (fun u h1 => .of ((truthD h1 u).map fun k => .bl (!k)) h1) .mk := by rw [sem]; rfl
@[simp] theorem w_ifx : sem call P x (.ifx c a b) env h = bindL (sem call P x c env h) (fun u h1 => bindL (Res.of (truthD h1 u) h1) (fun k h2 => if k = true then sem call P x a env h2 else sem call P x b env h2) .mk) .mk := by rw [sem]; rfl
@[simp] theorem w_tup : sem call P x (.tup es) env h = bindL (semA call P x es env h) (fun ds h1 => .ok (.tup ds) h1) .mk := by rw [sem]; rfl
@[simp] theorem w_frz : sem call P x (.frz m) env h = bindL (semC call P x m env h) (fun ds h1 => .ok (.lst ds) h1) .mk := by rw [sem]; rfl
@[simp] theorem w_new : sem call P x (.new m) env h = bindL (semC call P x m env h) (fun ds h1 => .ok (.ref h1.length) (h1 ++ [.lst ds])) .mk := by rw [sem]; rfl
@[simp] theorem w_call (f : Nat) : sem call P x (.call f es) env h = bindL (semA call P x es env h) (fun ds h1 => call f ds h1) .mk := by rw [sem]; rfl
@[simp] theorem w_bi (f : Bi) : sem call P x (.bi f es) env h = bindL (semA call P x es env h) (fun ds h1 => .of (biD h1 f ds) h1) .mk := by rw [sem]; rfl
@[simp] theorem w_isi (ts : List Ty) : sem call P x (.isi a ts) env h = bindL (sem call P x a env h) (fun u h1 => .of ((isAnyD h1 ts u).map .bl) h1) .mk := by rw [sem]; rfl
@[simp] theorem w_fld (f : Str) : sem call P x (.fld a f) env h = bindL (sem call P x a env h) (fldL f) .mk := by
  rw [sem]
  show _ = (sem call P x a env h).bind (fldL f)
  congr 1
/-- the method, found -/
def mthL (P : Prog) (c m : Nat) (u : D) (h : Hh) : Option (Nat × Nat) := match u with
  | .ref i => match h[i]?, P.inss[c]? with
    | some (.ins c' fs), some ci => match ci.meths[m]? with
      | some mf => if c' = c ∧ fs.lookup mf.1 = none then some (i, mf.2) else none
      | none => none
    | _, _ => none
  | _ => none
theorem mthL_ins {P : Prog} {c m i f : Nat} {h : Hh} {fs : List (Str × D)} {ci : CInfo} {g : Str} (e : h[i]? = some (.ins c fs)) (e1 : P.inss[c]? = some ci) (e2 : ci.meths[m]? = some (g, f)) (e3 : fs.lookup g = none) : mthL P c m (.ref i) h = some (i, f) := by
  simp [mthL, e, e1, e2, e3]
def mthR (o : Option (Nat × Nat)) (k : Nat → Nat → Res D) (_ : Dm k) : Res D := match o with
  | some p => k p.1 p.2
  | none => .stuck
@[simp] theorem mthR_some (i f : Nat) (k : Nat → Nat → Res D) (d : Dm k) : mthR (some (i, f)) k d = k i f := Eq.trans rfl rfl
@[simp] theorem w_mth (c m : Nat) : sem call P x (.mth a c m es) env h = bindL (sem call P x a env h) (fun u h1 => mthR (mthL P c m u h1) (fun i f => bindL (semA call P x es env h1) (fun ds h2 => call f (.ref i :: ds) h2) .mk) .mk) .mk := by
  rw [sem]
  show _ = (sem call P x a env h).bind _
  congr 1
  funext u h1
  cases u with
  | ref i =>
    simp only [mthL]
    cases q1 : h1[i]? with
    | none => rfl
    | some o =>
      cases q2 : P.inss[c]? with
      | none => cases o <;> rfl
      | some ci =>
        cases o with
        | ins c' fs =>
          cases q3 : ci.meths[m]? with
          | none => simp only [q3]; rfl
          | some mf =>
            simp only [q3]
            split <;> rfl
        | _ => rfl
  | _ => rfl
def bmL (o : Option (D × Hh)) : Res D := match o with
  | some p => .ok p.1 p.2
  | none => .stuck
@[simp] theorem bmL_some (d : D) (h : Hh) : bmL (some (d, h)) = .ok d h := Eq.trans rfl rfl
@[simp] theorem w_bm (m : BM) : sem call P x (.bm a m es) env h = bindL (sem call P x a env h) (fun u h1 => if bmT h1 m u = true then bindL (semA call P x es env h1) (fun ds h2 => bmL (bmD h2 m u ds)) .mk else .stuck) .mk := by
  rw [sem]
  show _ = (sem call P x a env h).bind _
  congr 1
  funext u h1
  split
  · show _ = (semA call P x es env h1).bind _
    congr 1
    funext ds h2
    cases bmD h2 m u ds <;> rfl
  · rfl
@[simp] theorem w_ix : sem call P x (.ix a b) env h = bindL (sem call P x a env h) (fun u h1 => bindL (sem call P x b env h1) (fun v h2 => .of (ixD h2 u v) h2) .mk) .mk := by rw [sem]; rfl
@[simp] theorem w_slc (lo hi : MO) : sem call P x (.slc a lo hi) env h = bindL (sem call P x a env h) (fun u h1 => bindL (semO call P x lo env h1) (fun l h2 => bindL (semO call P x hi env h2) (fun k h3 => .of (slcD h3 u l k) h3) .mk) .mk) .mk := by rw [sem]; rfl
@[simp] theorem w_dnew (t : Bool) : sem call P x (.dnew t) env h = .ok (.ref h.length) (h ++ [if t = true then .dtt [] else .dct []]) := by rw [sem]
@[simp] theorem w_dsp (kvs : MKs) : sem call P x (.dsp kvs) env h = bindL (semK call P x kvs env h) (fun ps h1 => .ok (.ref h1.length) (h1 ++ [.dct (ps.foldl (fun d p => putK d (.inr p.1) p.2) [])])) .mk := by rw [sem]; rfl
/-- the object made, `__init__` gone through -/
def insL (i : Nat) (u : D) (h : Hh) : Res D := match u with
  | .non => .ok (.ref i) h
  | _ => .stuck
@[simp] theorem insL_non (i : Nat) (h : Hh) : insL i .non h = .ok (.ref i) h := Eq.trans rfl rfl
def iniL (o : Option CInfo) (k : Nat → Res D) (_ : Dm k) : Res D := match o with
  | some ci => k ci.init
  | none => .stuck
@[simp] theorem iniL_some (ci : CInfo) (k : Nat → Res D) (d : Dm k) : iniL (some ci) k d = k ci.init := Eq.trans rfl rfl
@[simp] theorem w_ins (c : Nat) : sem call P x (.ins c es) env h = bindL (semA call P x es env h) (fun ds h1 => iniL P.inss[c]? (fun f => bindL (call f (.ref h1.length :: ds) (h1 ++ [.ins c []])) (insL h1.length) .mk) .mk) .mk := by
  rw [sem]
  show _ = (semA call P x es env h).bind _
  congr 1
@[simp] theorem w_xf (f : Str) (e : Ex) : sem call P (some e) (.xf f) env h = .of (e.2.lookup f) h := by rw [sem]
def xisL (o : Option EInfo) (ts : List (Option Nat)) (h : Hh) : Res D := match o with
  | some ei => .ok (.bl (ts.any fun t => match t with | none => true | some c => ei.anc.contains c)) h
  | none => .stuck
@[simp] theorem xisL_some (ei : EInfo) (ts : List (Option Nat)) (h : Hh) : xisL (some ei) ts h = .ok (.bl (ts.any fun t => match t with | none => true | some c => ei.anc.contains c)) h := Eq.trans rfl rfl
@[simp] theorem w_xis (ts : List (Option Nat)) (e : Ex) : sem call P (some e) (.xis ts) env h = xisL P.excs[e.1]? ts h := by rw [sem]; rfl
/-- a call by keywords, with defaults -/
def sigL (o : Option Sig) (ds zs : List D) (h : Hh) (k : Nat → List D → Hh → Res D) (_ : Dm k) : Res D := match o with
  | some sg => if ds.length = sg.n ∧ zs.length = sg.ks.length then (match arrange ds zs sg.srcs with
    | some vs => k sg.f vs h
    | none => .stuck) else .stuck
  | none => .stuck
@[simp] theorem w_callK (g : Nat) (ws : MEs) : sem call P x (.callK g es ws) env h = bindL (semA call P x es env h) (fun ds h1 => bindL (semA call P x ws env h1) (fun zs h2 => sigL P.sigs[g]? ds zs h2 call .mk) .mk) .mk := by rw [sem]; rfl
@[simp] theorem w_a0 : semA call P x .nil env h = .ok [] h := by rw [semA]
@[simp] theorem w_a1 : semA call P x (.cons a es) env h = bindL (sem call P x a env h) (fun u h1 => bindL (semA call P x es env h1) (fun us h2 => .ok (u :: us) h2) .mk) .mk := by rw [semA]; rfl
@[simp] theorem w_k0 : semK call P x .nil env h = .ok [] h := by rw [semK]
@[simp] theorem w_k1 (k : Str) (ks : MKs) : semK call P x (.cons k a ks) env h = bindL (sem call P x a env h) (fun u h1 => bindL (semK call P x ks env h1) (fun us h2 => .ok ((k, u) :: us) h2) .mk) .mk := by rw [semK]; rfl
@[simp] theorem w_o0 : semO call P x .none env h = .ok none h := by rw [semO]
@[simp] theorem w_o1 : semO call P x (.some a) env h = bindL (sem call P x a env h) intL .mk := by
  rw [semO]
  show _ = (sem call P x a env h).bind _
  congr 1
  funext u h1
  cases u <;> rfl
@[simp] theorem w_c_dsp : semC call P x (.dsp es) env h = semA call P x es env h := by rw [semC]
@[simp] theorem w_c_lc (own : List Nat) (t : MT) (it : MI) (cs : MEs) : semC call P x (.lc own t it cs a) env h = bindL (semI call P x it env h) (fun dg h1 => (lcM dg.2 own t (semT call P x cs) (sem call P x a) env dg.1 h1).calm) .mk := by rw [semC]; rfl
@[simp] theorem w_c_bi (f : Bi) : semC call P x (.bi f a) env h = bindL (sem call P x a env h) (fun u h1 => .of (MC.bis f h1 u) h1) .mk := by rw [semC]; rfl
@[simp] theorem w_c_cat : semC call P x (.cat a b) env h = bindL (sem call P x a env h) (fun u h1 => bindL (sem call P x b env h1) (fun v h2 => .of (catD h2 u v) h2) .mk) .mk := by rw [semC]; rfl
@[simp] theorem w_c_rep : semC call P x (.rep a b) env h = bindL (sem call P x a env h) (fun u h1 => bindL (sem call P x b env h1) (fun v h2 => .of (mrepD h2 u v) h2) .mk) .mk := by rw [semC]; rfl
@[simp] theorem w_t0 : semT call P x .nil env h = .ok true h := by rw [semT]
@[simp] theorem w_t1 : semT call P x (.cons a es) env h = bindL (semB call P x a env h) (fun k h2 => if k = true then semT call P x es env h2 else .ok false h2) .mk := by
  rw [semT]
  simp only [semB, bindL, bind_assoc]
end
/-- zip's items -/
def zipL (u v : D) (h : Hh) : Res (List D × Gd) := .of (match seqD h u, seqD h v with
  | some xs, some ys => if alikeD u v = true then some (zipD xs ys, guardD h u ++ guardD h v) else none
  | _, _ => none) h
section
variable (call : Nat → List D → Hh → Res D) (P : Prog) (x : Option Ex) (env : Mi.Env) (h : Hh) (a b c : ME) (es : MEs)
@[simp] theorem w_i_val : semI call P x (.val a) env h = bindL (sem call P x a env h) (fun u h1 => .of ((seqD h1 u).map fun xs => (xs, guardD h1 u)) h1) .mk := by rw [semI]; rfl
@[simp] theorem w_i_rng1 : semI call P x (.rng1 a) env h = bindL (sem call P x a env h) rng1R .mk := semI_rng1 ..
@[simp] theorem w_i_rng2 : semI call P x (.rng2 a b) env h = bindL (sem call P x a env h) (fun u h1 => bindL (sem call P x b env h1) (fun v h2 => rng2R u v h2) .mk) .mk := semI_rng2 ..
@[simp] theorem w_i_rng3 : semI call P x (.rng3 a b c) env h = bindL (sem call P x a env h) (fun u h1 => bindL (sem call P x b env h1) (fun v h2 => bindL (sem call P x c env h2) (fun w h3 => rng3R u v w h3) .mk) .mk) .mk := semI_rng3 ..
@[simp] theorem w_i_enum : semI call P x (.enum a) env h = bindL (sem call P x a env h) (fun u h1 => .of ((seqD h1 u).map fun xs => (enumD xs, guardD h1 u)) h1) .mk := by rw [semI]; rfl
@[simp] theorem w_i_zip : semI call P x (.zip a b) env h = bindL (sem call P x a env h) (fun u h1 => bindL (sem call P x b env h1) (fun v h2 => zipL u v h2) .mk) .mk := by rw [semI]; rfl
end
/-! statements -/
def setL (t : MT) (env : Mi.Env) (d : D) (h : Hh) : SR := match setT t d env with
  | some env1 => .nx env1 h
  | none => .stuck
@[simp] theorem setL_nm (i : Nat) (env : Mi.Env) (d : D) (h : Hh) : setL (.nm i) env d h = .nx (env.set i (some d)) h := Eq.trans rfl rfl
theorem setL_tp {is : List Nat} {env env1 : Mi.Env} {ds : List D} (e : setT (.tp is) (.tup ds) env = some env1) (h : Hh) : setL (.tp is) env (.tup ds) h = .nx env1 h := by
  unfold setL
  rw [e]
@[simp] theorem setL_2 (i j : Nat) (env : Mi.Env) (a b : D) (h : Hh) : setL (.tp [i, j]) env (.tup [a, b]) h = .nx ((env.set i (some a)).set j (some b)) h := Eq.trans rfl rfl
@[simp] theorem setL_3 (i j k : Nat) (env : Mi.Env) (a b c : D) (h : Hh) : setL (.tp [i, j, k]) env (.tup [a, b, c]) h = .nx (((env.set i (some a)).set j (some b)).set k (some c)) h := Eq.trans rfl rfl
def setsL (o : Option Hh) (env : Mi.Env) : SR := match o with
  | some h => .nx env h
  | none => .stuck
@[simp] theorem setsL_some (h : Hh) (env : Mi.Env) : setsL (some h) env = .nx env h := Eq.trans rfl rfl
def setfL (P : Prog) (f : Str) (env : Mi.Env) (d : D) (u : D) (h2 : Hh) : SR := match u with
  | .ref p => match h2[p]? with
    | some (.ins c fs) => match P.inss[c]? with
      | some ci => if fs.length < 1000 ∧ f ∈ ci.flds then .nx env (h2.set p (.ins c (putF f d fs))) else .stuck
      | none => .stuck
    | _ => .stuck
  | _ => .stuck
theorem setfL_ins {P : Prog} {h : Hh} {p c : Nat} {fs : List (Str × D)} {ci : CInfo} (e : h[p]? = some (.ins c fs)) (e1 : P.inss[c]? = some ci) (f : Str) (hl : fs.length < 1000) (hf : f ∈ ci.flds) (env : Mi.Env) (d : D) :
    setfL P f env d (.ref p) h = .nx env (h.set p (.ins c (putF f d fs))) := by
  simp only [setfL, e, e1]
  rw [if_pos ⟨hl, hf⟩]
def augL (i : Nat) (o : Operator) (env : Mi.Env) (u : Option D) (v : D) (h : Hh) : SR := match u, v, o with
  | some (.int u), .int k, .Add => .nx (env.set i (some (.int (u + k)))) h
  | some (.int u), .int k, .Sub => .nx (env.set i (some (.int (u - k)))) h
  | _, _, _ => .stuck
@[simp] theorem augL_add (i : Nat) (env : Mi.Env) (u k : Int) (h : Hh) : augL i .Add env (some (.int u)) (.int k) h = .nx (env.set i (some (.int (u + k)))) h := Eq.trans rfl rfl
@[simp] theorem augL_sub (i : Nat) (env : Mi.Env) (u k : Int) (h : Hh) : augL i .Sub env (some (.int u)) (.int k) h = .nx (env.set i (some (.int (u - k)))) h := Eq.trans rfl rfl
def isIntO : Option D → Bool
  | some (.int _) => true
  | _ => false
@[simp] theorem isIntO_int (i : Int) : isIntO (some (.int i)) = true := Eq.trans rfl rfl
/-- o.f += e: the int that stands there -/
def afO (f : Str) (u : D) (h1 : Hh) : Option (Nat × Nat × Int) := match u with
  | .ref p => match h1[p]? with
    | some (.ins c fs) => match fs.lookup f with
      | some (.int k) => some (p, c, k)
      | _ => none
    | _ => none
  | _ => none
theorem afO_ins {h : Hh} {p c : Nat} {fs : List (Str × D)} {f : Str} {k : Int} (e : h[p]? = some (.ins c fs)) (e1 : fs.lookup f = some (.int k)) : afO f (.ref p) h = some (p, c, k) := by
  simp only [afO, e, e1]
def afR (o : Option (Nat × Nat × Int)) (k : Nat → Nat → Int → SR) (_ : Dm k) : SR := match o with
  | some q => k q.1 q.2.1 q.2.2
  | none => .stuck
@[simp] theorem afR_some (p c : Nat) (i : Int) (k : Nat → Nat → Int → SR) (d : Dm k) : afR (some (p, c, i)) k d = k p c i := Eq.trans rfl rfl
def afL (p c : Nat) (u : Int) (f : Str) (o : Operator) (env : Mi.Env) (v : D) (h2 : Hh) : SR := match h2[p]?, v, o with
  | some (.ins c' fs'), .int k, .Add => if fs'.length < 1000 ∧ c' = c then .nx env (h2.set p (.ins c' (putF f (.int (u + k)) fs'))) else .stuck
  | some (.ins c' fs'), .int k, .Sub => if fs'.length < 1000 ∧ c' = c then .nx env (h2.set p (.ins c' (putF f (.int (u - k)) fs'))) else .stuck
  | _, _, _ => .stuck
theorem afL_add {h : Hh} {p c : Nat} {fs : List (Str × D)} (e : h[p]? = some (.ins c fs)) (hl : fs.length < 1000) (u : Int) (f : Str) (env : Mi.Env) (k : Int) :
    afL p c u f .Add env (.int k) h = .nx env (h.set p (.ins c (putF f (.int (u + k)) fs))) := by
  simp only [afL, e]
  rw [if_pos ⟨hl, trivial⟩]
theorem afL_sub {h : Hh} {p c : Nat} {fs : List (Str × D)} (e : h[p]? = some (.ins c fs)) (hl : fs.length < 1000) (u : Int) (f : Str) (env : Mi.Env) (k : Int) :
    afL p c u f .Sub env (.int k) h = .nx env (h.set p (.ins c (putF f (.int (u - k)) fs))) := by
  simp only [afL, e]
  rw [if_pos ⟨hl, trivial⟩]
section
variable (call : Nat → List D → Hh → Res D) (P : Prog) (x : Option Ex) (env : Mi.Env) (h : Hh) (a b e : ME) (es : MEs) (s : MS) (ss su : MSs)
@[simp] theorem w_b : semB call P x e env h = bindL (sem call P x e env h) (fun u h1 => Res.of (truthD h1 u) h1) .mk := by rw [semB]; rfl
@[simp high] theorem w_b_and : semB call P x (.and a b) env h = bindL (semB call P x a env h) (fun k h2 => if k = true then semB call P x b env h2 else .ok false h2) .mk := by
  simp only [semB, sem, bindL, bind_assoc]
  congr 1
  funext u h1
  cases q : truthD h1 u with
  | none => rfl
  | some k =>
    cases k
    · simp [q]
    · simp
@[simp high] theorem w_b_or : semB call P x (.or a b) env h = bindL (semB call P x a env h) (fun k h2 => if k = true then .ok true h2 else semB call P x b env h2) .mk := by
  simp only [semB, sem, bindL, bind_assoc]
  congr 1
  funext u h1
  cases q : truthD h1 u with
  | none => rfl
  | some k =>
    cases k
    · simp
    · simp [q]
@[simp high] theorem w_b_not : semB call P x (.not a) env h = bindL (semB call P x a env h) (fun k h2 => .ok (!k) h2) .mk := by
  simp only [semB, sem, bindL, bind_assoc]
  congr 1
  funext u h1
  cases q : truthD h1 u <;> simp
@[simp] theorem w_s0 : ssems call P .nil x env h = .nx env h := by rw [ssems]
@[simp] theorem w_s1 : ssems call P (.cons s ss) x env h = sbindL (ssem call P s x env h) (fun env1 h1 => ssems call P ss x env1 h1) .mk := by rw [ssems]; rfl
@[simp] theorem w_set (t : MT) : ssem call P (.set t e) x env h = thenL (sem call P x e env h) env (setL t env) .mk := by
  rw [ssem]
  show _ = (sem call P x e env h).then env _
  congr 1
@[simp] theorem w_sets : ssem call P (.sets a b e) x env h = thenL (sem call P x e env h) env (fun d h1 => thenL (sem call P x a env h1) env (fun u h2 => thenL (sem call P x b env h2) env (fun k h3 => setsL (setD h3 u k d) env) .mk) .mk) .mk := by
  rw [ssem]
  show _ = (sem call P x e env h).then env _
  congr 1
@[simp] theorem w_setf (f : Str) : ssem call P (.setf a f e) x env h = thenL (sem call P x e env h) env (fun d h1 => thenL (sem call P x a env h1) env (setfL P f env d) .mk) .mk := by
  rw [ssem]
  show _ = (sem call P x e env h).then env _
  congr 1
def augR (u : Option D) (k : SR) : SR := if isIntO u = true then k else .stuck
@[simp] theorem augR_int (i : Int) (k : SR) : augR (some (.int i)) k = k := Eq.trans rfl rfl
@[simp] theorem w_aug (i : Nat) (o : Operator) : ssem call P (.aug i o e) x env h = augR (nthE env i) (thenL (sem call P x e env h) env (augL i o env (nthE env i)) .mk) := by
  rw [ssem, ← env_nth]
  cases q : env[i]? with
  | none => rfl
  | some w =>
    cases w with
    | none => rfl
    | some d =>
      cases d with
      | int u =>
        simp only [augR_int]
        show _ = (sem call P x e env h).then env _
        congr 1
        funext v h1
        cases v <;> cases o <;> rfl
      | _ => rfl
@[simp] theorem w_augf (f : Str) (o : Operator) : ssem call P (.augf a f o e) x env h = thenL (sem call P x a env h) env (fun u h1 => afR (afO f u h1) (fun p c k => thenL (sem call P x e env h1) env (afL p c k f o env) .mk) .mk) .mk := by
  rw [ssem]
  show _ = (sem call P x a env h).then env _
  congr 1
  funext u h1
  cases u with
  | ref p =>
    simp only [afO]
    cases q1 : h1[p]? with
    | none => rfl
    | some ob =>
      cases ob with
      | ins c fs =>
        simp only
        cases q2 : fs.lookup f with
        | none => rfl
        | some d =>
          cases d with
          | int k =>
            simp only
            show _ = (sem call P x e env h1).then env _
            congr 1
          | _ => rfl
      | _ => rfl
  | _ => rfl
@[simp] theorem w_ife : ssem call P (.ife e ss su) x env h = thenL (semB call P x e env h) env (fun k h1 => if k = true then ssems call P ss x env h1 else ssems call P su x env h1) .mk := by rw [ssem]; rfl
@[simp] theorem w_loop (t : MT) (it : MI) : ssem call P (.loop t it ss) x env h = thenL (semI call P x it env h) env (fun dg h1 => loopM dg.2 t (ssems call P ss x) dg.1 env h1) .mk := by rw [ssem]; rfl
@[simp] theorem w_whl : ssem call P (.whl e ss) x env h = whileM (semB call P x e) (ssems call P ss x) env h := by rw [ssem]
@[simp] theorem w_ret : ssem call P (.ret e) x env h = thenL (sem call P x e env h) env (fun d h1 => .ret d h1) .mk := by rw [ssem]; rfl
@[simp] theorem w_retN : ssem call P .retN x env h = .ret .non h := by rw [ssem]
@[simp] theorem w_exp : ssem call P (.exp e) x env h = thenL (sem call P x e env h) env (fun _ h1 => .nx env h1) .mk := by rw [ssem]; rfl
@[simp] theorem w_pass : ssem call P .pass x env h = .nx env h := by rw [ssem]
@[simp] theorem w_brk : ssem call P .brk x env h = .brk env h := by rw [ssem]
@[simp] theorem w_cont : ssem call P .cont x env h = .ct env h := by rw [ssem]
def raiL (o : Option EInfo) (c : Nat) (env : Mi.Env) (ds : List D) (h : Hh) : SR := match o with
  | some ei => if ds.length = ei.fields.length then .exc (c, ei.fields.zip ds) env h else .stuck
  | none => .stuck
theorem raiL_some {ei : EInfo} {ds : List D} (hl : ds.length = ei.fields.length) (c : Nat) (env : Mi.Env) (h : Hh) : raiL (some ei) c env ds h = .exc (c, ei.fields.zip ds) env h := if_pos hl
@[simp] theorem raiL_0 (n : Str) (an : List Nat) (c : Nat) (env : Mi.Env) (h : Hh) : raiL (some ⟨n, [], an⟩) c env [] h = .exc (c, []) env h := Eq.trans rfl rfl
@[simp] theorem raiL_1 (n f : Str) (d : D) (an : List Nat) (c : Nat) (env : Mi.Env) (h : Hh) : raiL (some ⟨n, [f], an⟩) c env [d] h = .exc (c, [(f, d)]) env h := Eq.trans rfl rfl
@[simp] theorem raiL_2 (n f g : Str) (d e : D) (an : List Nat) (c : Nat) (env : Mi.Env) (h : Hh) : raiL (some ⟨n, [f, g], an⟩) c env [d, e] h = .exc (c, [(f, d), (g, e)]) env h := Eq.trans rfl rfl
@[simp] theorem w_raise (c : Nat) : ssem call P (.raise c es) x env h = thenL (semA call P x es env h) env (raiL P.excs[c]? c env) .mk := by
  rw [ssem]
  show _ = (semA call P x es env h).then env _
  congr 1
/-- behind a suite: its name is gone -/
def sufL (i : Nat) : SR → SR
  | .nx env2 h2 => .nx (env2.set i none) h2
  | .brk env2 h2 => .brk (env2.set i none) h2
  | .ct env2 h2 => .ct (env2.set i none) h2
  | .ret d h2 => .ret d h2
  | _ => .stuck
@[simp] theorem sufL_nx (i : Nat) (env2 : Mi.Env) (h2 : Hh) : sufL i (.nx env2 h2) = .nx (env2.set i none) h2 := Eq.trans rfl rfl
@[simp] theorem sufL_brk (i : Nat) (env2 : Mi.Env) (h2 : Hh) : sufL i (.brk env2 h2) = .brk (env2.set i none) h2 := Eq.trans rfl rfl
@[simp] theorem sufL_ct (i : Nat) (env2 : Mi.Env) (h2 : Hh) : sufL i (.ct env2 h2) = .ct (env2.set i none) h2 := Eq.trans rfl rfl
@[simp] theorem sufL_ret (i : Nat) (d : D) (h2 : Hh) : sufL i (.ret d h2) = .ret d h2 := Eq.trans rfl rfl
/-- try .. except: what is raised is held against the class -/
def tryL (P : Prog) (c i : Nat) (r : SR) (s : Ex → Mi.Env → Hh → SR) (_ : Dm s) : SR := match r with
  | .exc e env1 h1 => if ancOf P e c = true then (if i < env1.length then sufL i (s e (env1.set i none) h1) else .stuck) else .exc e env1 h1
  | r => r
@[simp] theorem tryL_nx (c i : Nat) (s : Ex → Mi.Env → Hh → SR) (d : Dm s) (env : Mi.Env) (h : Hh) : tryL P c i (.nx env h) s d = .nx env h := Eq.trans rfl rfl
@[simp] theorem tryL_ret (c i : Nat) (s : Ex → Mi.Env → Hh → SR) (d : Dm s) (v : D) (h : Hh) : tryL P c i (.ret v h) s d = .ret v h := Eq.trans rfl rfl
@[simp] theorem tryL_exc (c i : Nat) (s : Ex → Mi.Env → Hh → SR) (d : Dm s) (e : Ex) (env : Mi.Env) (h : Hh) :
    tryL P c i (.exc e env h) s d = if ancOf P e c = true then (if i < env.length then sufL i (s e (env.set i none) h) else .stuck) else .exc e env h := Eq.trans rfl rfl
@[simp] theorem w_try (c i : Nat) : ssem call P (.tryx ss c i su) x env h = tryL P c i (ssems call P ss x env h) (fun e env1 h1 => ssems call P su (some e) env1 h1) .mk := by
  rw [ssem]
  unfold tryL
  cases ssems call P ss x env h with
  | exc e env1 h1 =>
    simp only
    split
    · split
      · cases ssems call P su (some e) (env1.set i none) h1 <;> rfl
      · rfl
    · rfl
  | _ => rfl
end
@[simp] theorem bmT_lstv (h : Hh) (m : BM) (xs : List D) : bmT h m (.lst xs) = (m == .index) := Eq.trans rfl rfl
theorem bm_index {h : Hh} {x y : D} {j : Nat} (e : indexD h x y = some j) : bmD h .index x [y] = some (.int j, h) := by
  have : bmD h .index x [y] = (indexD h x y).map fun (j : Nat) => (D.int (j : Int), h) := by cases x <;> rfl
  rw [this, e]
  rfl
theorem bmT_lst {h : Hh} {i : Nat} {xs : List D} (e : h[i]? = some (.lst xs)) (m : BM) : bmT h m (.ref i) = (m == .append || m == .pop || m == .popAt || m == .extend || m == .index) := by
  simp only [bmT, e]
theorem bm_append {h : Hh} {i : Nat} {xs : List D} (e : h[i]? = some (.lst xs)) (hl : xs.length < sizeLine) (y : D) : bmD h .append (.ref i) [y] = some (.non, h.set i (.lst (xs ++ [y]))) := by
  simp only [bmD, e, if_pos hl]
theorem lenD_ref {h : Hh} {i : Nat} {xs : List D} (e : h[i]? = some (.lst xs)) : lenD h (.ref i) = some xs.length := by
  simp only [lenD, e]
theorem slcD_ref {h : Hh} {i : Nat} {xs : List D} (e : h[i]? = some (.lst xs)) (lo hi : Option Int) : slcD h (.ref i) lo hi = some (.lst (cutD xs lo hi)) := by
  simp only [slcD, e]
@[simp] theorem slcD_lst (h : Hh) (xs : List D) (lo hi : Option Int) : slcD h (.lst xs) lo hi = some (.lst (cutD xs lo hi)) := Eq.trans rfl rfl
theorem iterD_ref {h : Hh} {i : Nat} {xs : List D} (e : h[i]? = some (.lst xs)) : iterD h (.ref i) = some xs := by
  simp only [iterD, e]
@[simp] theorem iterD_lst (h : Hh) (xs : List D) : iterD h (.lst xs) = some xs := Eq.trans rfl rfl
@[simp] theorem iterD_tup (h : Hh) (xs : List D) : iterD h (.tup xs) = some xs := Eq.trans rfl rfl
@[simp] theorem biD_tuple (h : Hh) (x : D) : biD h .tuple [x] = (iterD h x).map .tup := Eq.trans rfl rfl
@[simp] theorem biD_list (h : Hh) (x : D) : biD h .list [x] = (iterD h x).map .lst := Eq.trans rfl rfl
theorem gcD_or (h : Hh) (d : D) (h' : Hh) : gcD h d h' = .ok d h ∨ gcD h d h' = .ok d h' := by
  unfold gcD
  split
  · exact .inl rfl
  · exact .inr rfl
/-- a def's end -/
noncomputable def endL (h : Hh) : SR → Res D
  | .nx _ h' => gcD h .non h'
  | .ret d h' => gcD h d h'
  | .exc e _ h' => gcX h e h'
  | _ => .stuck
@[simp] theorem endL_nx (h h' : Hh) (env : Mi.Env) : endL h (.nx env h') = gcD h .non h' := Eq.trans rfl rfl
@[simp] theorem endL_ret (h h' : Hh) (d : D) : endL h (.ret d h') = gcD h d h' := Eq.trans rfl rfl
@[simp] theorem endL_exc (h h' : Hh) (e : Ex) (env : Mi.Env) : endL h (.exc e env h') = gcX h e h' := Eq.trans rfl rfl
/-- a def, begun -/
theorem w_run {P : Prog} {f : Nat} {fd : FInfo} (e : P.fns[f]? = some fd) (n : Nat) (ds : List D) (h : Hh) (hl : ds.length = fd.params) :
    den P (n + 1) f ds h = endL h (ssems (den P n) P fd.body none (ds.map some ++ List.replicate (fd.slots.length - ds.length) none) h) := by
  rw [den, e]
  simp only [runF, if_pos hl]
  cases ssems (den P n) P fd.body none (ds.map some ++ List.replicate (fd.slots.length - ds.length) none) h <;> rfl
end Mi
end
section
set_option maxRecDepth 100000
set_option linter.all false
/-! Values of plain data: they are equal to themselves, and repr shows them. -/
namespace Mi
open PySem PyProof.Rows
theorem map_inj {α β : Type} {f : α → β} (hf : ∀ x y, f x = f y → x = y) : ∀ {xs ys : List α}, xs.map f = ys.map f → xs = ys
  | [], [], _ => rfl
  | [], _ :: _, h => nomatch h
  | _ :: _, [], h => nomatch h
  | x :: xs, y :: ys, h => by
    simp only [List.map_cons, List.cons.injEq] at h
    rw [hf _ _ h.1, map_inj hf h.2]
theorem ofStr_inj {a b : String} : (Str.ofString a = Str.ofString b) ↔ a = b := by
  refine ⟨fun h => ?_, fun h => by rw [h]⟩
  rw [Str.ofString_eq_toList, Str.ofString_eq_toList] at h
  have h2 : a.toList.map Char.toNat = b.toList.map Char.toNat := by
    have := congrArg (fun s => s.cps.toList) h
    simpa using this
  exact String.toList_injective (map_inj (fun x y e => Char.toNat_inj.mp e) h2)
theorem eqD_str (h : Hh) (x y : Str) : eqD h (.str x) (.str y) = some (decide (x = y)) := Eq.trans rfl rfl
@[simp] theorem eqD_bl (h : Hh) (a b : Bool) : eqD h (.bl a) (.bl b) = some (a == b) := by cases a <;> cases b <;> rfl
mutual
/-- plain data: small ints, real texts -/
def leafD : D → Bool
  | .non => true
  | .bl _ => true
  | .int i => decide (i.natAbs < 10 ^ 12)
  | .str s => PyData.strOk s
  | .tup xs => leafDs xs
  | .lst xs => leafDs xs
  | .ref _ => false
  | .scr _ => false
def leafDs : List D → Bool
  | [] => true
  | x :: xs => leafD x && leafDs xs
end
mutual
def szD : D → Nat
  | .int _ => 41
  | .str s => s.cps.size
  | .tup xs => szDs xs
  | .lst xs => szDs xs
  | _ => 0
def szDs : List D → Nat
  | [] => 0
  | x :: xs => szD x + 1 + szDs xs
end
mutual
def dpD : D → Nat
  | .tup xs => dpDs xs + 1
  | .lst xs => dpDs xs + 1
  | _ => 0
def dpDs : List D → Nat
  | [] => 0
  | x :: xs => max (dpD x) (dpDs xs)
end
theorem leafDs_iff {xs : List D} : leafDs xs = true ↔ ∀ x ∈ xs, leafD x = true := by
  induction xs with
  | nil => simp [leafDs]
  | cons x xs ih => simp [leafDs, ih]
theorem szDs_le {xs : List D} {k : Nat} (h : ∀ x ∈ xs, szD x ≤ k) : szDs xs ≤ xs.length * (k + 1) := by
  induction xs with
  | nil => simp [szDs]
  | cons x xs ih =>
    have h1 := h x List.mem_cons_self
    have h2 := ih fun y m => h y (List.mem_cons_of_mem _ m)
    simp only [szDs, List.length_cons, Nat.succ_mul]
    omega
theorem dpDs_le {xs : List D} {k : Nat} (h : ∀ x ∈ xs, dpD x ≤ k) : dpDs xs ≤ k := by
  induction xs with
  | nil => simp [dpDs]
  | cons x xs ih =>
    have h1 := h x List.mem_cons_self
    have h2 := ih fun y m => h y (List.mem_cons_of_mem _ m)
    simp only [dpDs]
    omega
theorem log_small {n : Nat} (h : n < 10 ^ 12) (h0 : n ≠ 0) : n.log2 < 40 := (Nat.log2_lt h0).mpr (by omega)
/-- the data that it is -/
structure Lf (p : PyData) (s d : Nat) : Prop where
  lay : p.canLay0 = true
  nums : p.intsShort 13 = true
  vis : p.showable = true
  dep : p.depth ≤ d
  wei : p.weight ≤ s
structure Lfs (p : List PyData) (s d : Nat) : Prop where
  lay : PyData.canLayAll0 p = true
  nums : PyData.intsShortAll 13 p = true
  vis : PyData.showableAll p = true
  dep : PyData.depthAll p ≤ d
  wei : PyData.weightAll p ≤ s
mutual
theorem py_leaf : ∀ d : D, leafD d = true → ∃ p, d.py = some p ∧ Lf p (szD d) (dpD d)
  | .non, _ => ⟨.none, by simp [D.py], ⟨rfl, rfl, rfl, by simp [PyData.depth], by simp [PyData.weight]⟩⟩
  | .bl b, _ => ⟨.bool b, by simp [D.py], ⟨rfl, rfl, rfl, by simp [PyData.depth], by simp [PyData.weight]⟩⟩
  | .int i, h => by
    have h' : i.natAbs < 10 ^ 12 := by simpa [leafD] using h
    refine ⟨.int i, by simp [D.py], ⟨rfl, ?_, ?_, by simp [PyData.depth], ?_⟩⟩
    · have e : (PyData.shown (.int i)).length ≤ 13 := by
        show (Str.ofString (toString i)).length ≤ 13
        rw [PySem.ofString_length]
        exact int_text_length_le10 (k := 12) (by decide) h'
      simpa only [PyData.intsShort, decide_eq_true_eq] using e
    · simp only [PyData.showable, decide_eq_true_eq]
      by_cases h0 : i.natAbs = 0
      · rw [h0]; decide
      · exact Nat.lt_of_lt_of_le (log_small h' h0) (by decide)
    · simp only [PyData.weight, szD]
      split
      · omega
      · next c =>
        have : i.natAbs ≠ 0 := fun z => c (by simp; omega)
        have := log_small h' this
        omega
  | .str s, h => ⟨.str s, by simp [D.py], ⟨by simpa [leafD, PyData.canLay0] using h, rfl, rfl, by simp [PyData.depth], by simp [PyData.weight, szD]⟩⟩
  | .tup xs, h => by
    obtain ⟨p, e, q⟩ := py_leafs xs (by simpa [leafD] using h)
    refine ⟨.tuple p, by simp [D.py, e], ⟨?_, ?_, ?_, ?_, ?_⟩⟩
    · simpa [PyData.canLay0] using q.lay
    · simpa [PyData.intsShort] using q.nums
    · simpa [PyData.showable] using q.vis
    · simpa [PyData.depth, dpD] using q.dep
    · simpa [PyData.weight, szD] using q.wei
  | .lst xs, h => by
    obtain ⟨p, e, q⟩ := py_leafs xs (by simpa [leafD] using h)
    refine ⟨.list p, by simp [D.py, e], ⟨?_, ?_, ?_, ?_, ?_⟩⟩
    · simpa [PyData.canLay0] using q.lay
    · simpa [PyData.intsShort] using q.nums
    · simpa [PyData.showable] using q.vis
    · simpa [PyData.depth, dpD] using q.dep
    · simpa [PyData.weight, szD] using q.wei
  | .ref i, h => by simp [leafD] at h
  | .scr ns, h => by simp [leafD] at h
theorem py_leafs : ∀ xs : List D, leafDs xs = true → ∃ p, pys xs = some p ∧ Lfs p (szDs xs) (dpDs xs)
  | [], _ => ⟨[], by simp [pys], ⟨rfl, rfl, rfl, by simp [PyData.depthAll], by simp [PyData.weightAll]⟩⟩
  | x :: xs, h => by
    simp only [leafDs, Bool.and_eq_true] at h
    obtain ⟨p, e, q⟩ := py_leaf x h.1
    obtain ⟨ps, es, qs⟩ := py_leafs xs h.2
    refine ⟨p :: ps, by simp [pys, e, es], ⟨?_, ?_, ?_, ?_, ?_⟩⟩
    · simp [PyData.canLayAll0, q.lay, qs.lay]
    · simp [PyData.intsShortAll, q.nums, qs.nums]
    · simp [PyData.showableAll, q.vis, qs.vis]
    · have := q.dep; have := qs.dep; simp only [PyData.depthAll, dpDs]; omega
    · have := q.wei; have := qs.wei; simp only [PyData.weightAll, szDs]; omega
end
/-- small enough to be shown -/
structure Plain (d : D) : Prop where
  leaf : leafD d = true
  size : szD d ≤ 1000000
  deep : dpD d ≤ 60
theorem repr_some {h : Hh} {v : D} (p : Plain (rd h v)) : ∃ t, biD h .repr [v] = some (.str t) := by
  obtain ⟨q, e, l⟩ := py_leaf _ p.leaf
  have hd : q.depth ≤ 64 := Nat.le_trans l.dep (Nat.le_trans p.deep (by decide))
  have hl : q.layable0 = true := by
    have hw : q.weight ≤ 2 ^ 20 := Nat.le_trans l.wei (Nat.le_trans p.size (by decide))
    simp only [PyData.layable0, l.lay, Bool.true_and, Bool.and_eq_true, decide_eq_true_eq]
    exact ⟨hd, hw⟩
  have hs : SeqAt.shaped q = true := by simp [SeqAt.shaped, l.lay, hd]
  have hz : q.shown.length ≤ sizeLine := Nat.le_trans (shown_le13 hl l.nums) (by decide)
  refine ⟨q.shown, ?_⟩
  show (match (rd h v).py with
    | some d => if SeqAt.shaped d = true ∧ d.showable = true ∧ d.shown.length ≤ sizeLine then some (D.str d.shown) else none
    | none => none) = _
  rw [e]
  exact if_pos ⟨hs, l.vis, hz⟩
theorem eqD_self {h : Hh} {v : D} (p : Plain (rd h v)) : eqD h v v = some true := by
  obtain ⟨q, e, l⟩ := py_leaf _ p.leaf
  have hd : q.depth ≤ 64 := Nat.le_trans l.dep (Nat.le_trans p.deep (by decide))
  have hs : SeqAt.shaped q = true := by simp [SeqAt.shaped, l.lay, hd]
  have k : eqD0 h v v = some true := by
    unfold eqD0
    rw [e]
    simp only [hs, and_self, if_true]
    rw [SeqAt.eqv_refl q l.lay]
  cases v <;> first | exact k | simp [eqD_str]
/-! texts -/
@[simp] theorem strOk_of (s : String) : PyData.strOk (Str.ofString s) = true := by
  rw [Str.ofString_eq_toList]
  simp only [PyData.strOk, List.all_toArray, List.all_map, List.all_eq_true, Function.comp_apply, decide_eq_true_eq]
  intro c _
  have := c.valid
  rcases this with h | h
  · exact Nat.lt_trans h (by decide)
  · exact h.2
theorem inD_str2 {h : Hh} {s a b : Str} (hs : PyData.strOk s = true) (ha : PyData.strOk a = true) (hb : PyData.strOk b = true) : inD h (.str s) (.tup [.str a, .str b]) = some (decide (a = s) || decide (b = s)) := by
  show inL [.str a, .str b] (.str s) = _
  simp [inL, pys, D.py, SeqAt.shaped, PyData.canLay0, PyData.canLayAll0, PyData.depth, PyData.depthAll, hs, ha, hb, PyData.eqv]
  rw [Bool.eq_iff_iff]
  simp
theorem inD_str3 {h : Hh} {s a b c : Str} (hs : PyData.strOk s = true) (ha : PyData.strOk a = true) (hb : PyData.strOk b = true) (hc : PyData.strOk c = true) :
    inD h (.str s) (.tup [.str a, .str b, .str c]) = some (decide (a = s) || decide (b = s) || decide (c = s)) := by
  show inL [.str a, .str b, .str c] (.str s) = _
  simp [inL, pys, D.py, SeqAt.shaped, PyData.canLay0, PyData.canLayAll0, PyData.depth, PyData.depthAll, hs, ha, hb, hc, PyData.eqv]
  rw [Bool.eq_iff_iff]
  simp [or_assoc]
/-! lists of ints -/
theorem pys_ints (l : List Int) : pys (l.map D.int) = some (l.map PyData.int) := by
  induction l with
  | nil => simp [pys]
  | cons x l ih => simp [pys, D.py, ih]
theorem lay_ints (l : List Int) : PyData.canLayAll0 (l.map PyData.int) = true ∧ PyData.depthAll (l.map PyData.int) = 0 := by
  induction l with
  | nil => simp [PyData.canLayAll0, PyData.depthAll]
  | cons x l ih => simp [PyData.canLayAll0, PyData.depthAll, PyData.canLay0, PyData.depth, ih.1, ih.2]
theorem inL_ints (l : List Int) (i : Int) : inL (l.map D.int) (.int i) = some (decide (i ∈ l)) := by
  obtain ⟨h1, h2⟩ := lay_ints l
  simp only [inL, pys_ints, D.py]
  rw [if_pos (by simp [SeqAt.shaped, PyData.canLay0, PyData.depth, h1, h2])]
  congr 1
  rw [Bool.eq_iff_iff]
  simp only [List.any_eq_true, List.mem_map, decide_eq_true_eq]
  constructor
  · rintro ⟨_, ⟨j, hj, rfl⟩, e⟩
    have : j = i := by simpa [PyData.eqv] using e
    subst this
    exact hj
  · intro hi
    exact ⟨.int i, ⟨i, hi, rfl⟩, by simp [PyData.eqv]⟩
theorem inD_lst {h : Hh} {p : Nat} {xs : List D} (e : h[p]? = some (.lst xs)) (x : D) : inD h x (.ref p) = inL xs (rd h x) := by
  simp only [inD, e]
theorem intsD_ints (l : List Int) : intsD (l.map D.int) = some l := by
  induction l with
  | nil => rfl
  | cons x l ih => simp [intsD, ih]
theorem biD_sum_tup (h : Hh) (l : List Int) : biD h .sum [.tup (l.map D.int)] = some (.int l.sum) := by
  show (intsD (l.map D.int)).map (fun ns => D.int ns.sum) = _
  rw [intsD_ints]
  rfl
theorem cutD_map {α β : Type} (f : α → β) (xs : List α) (lo hi : Option Int) : cutD (xs.map f) lo hi = (cutD xs lo hi).map f := by
  unfold cutD
  simp [List.map_take, List.map_drop]
/-! dicts -/
theorem find_map {κ : Type} [DecidableEq κ] (kvs : List (κ × D)) (k k' : κ) (v : D) : ((kvs.map fun kv => if kv.1 = k then (kv.1, v) else kv).find? fun kv => decide (kv.1 = k')) = (kvs.find? fun kv => decide (kv.1 = k')).map fun kv => if kv.1 = k then (kv.1, v) else kv := by
  induction kvs with
  | nil => rfl
  | cons p r ih =>
    simp only [List.map_cons, List.find?_cons]
    by_cases h : p.1 = k
    · simp only [h, if_true]
      by_cases h2 : k = k'
      · simp [h2, h]
      · simp [h2, ih]
    · simp only [h, if_false]
      by_cases h2 : p.1 = k'
      · have h3 : ¬(k' = k) := by rw [← h2]; exact h
        simp [h2, h3]
      · simp [h2, ih]
theorem getK_put {κ : Type} [DecidableEq κ] (kvs : List (κ × D)) (k k' : κ) (v : D) : getK (putK kvs k v) k' = if k' = k then some v else getK kvs k' := by
  unfold getK putK
  split
  · next h =>
    rw [find_map]
    by_cases e : k' = k
    · subst e
      rw [if_pos rfl]
      obtain ⟨p, hp, hk⟩ := List.any_eq_true.mp h
      cases f : kvs.find? fun kv => decide (kv.1 = k') with
      | none =>
        have := List.find?_eq_none.mp f p hp
        exact absurd hk this
      | some q =>
        have : q.1 = k' := by simpa using List.find?_some f
        simp [this]
    · rw [if_neg e]
      cases f : kvs.find? fun kv => decide (kv.1 = k') with
      | none => rfl
      | some q =>
        have : q.1 = k' := by simpa using List.find?_some f
        have : q.1 ≠ k := fun z => e (this.symm.trans z)
        simp [this]
  · next h =>
    rw [List.find?_append]
    by_cases e : k' = k
    · subst e
      rw [if_pos rfl]
      have : (kvs.find? fun kv => decide (kv.1 = k')) = none := by
        rw [List.find?_eq_none]
        intro p hp z
        exact h (List.any_eq_true.mpr ⟨p, hp, z⟩)
      rw [this]
      simp
    · rw [if_neg e]
      have : (List.find? (fun kv => decide (kv.1 = k')) [(k, v)]) = none := by
        simp [Ne.symm e]
      rw [this]
      simp
theorem put_len {κ : Type} [DecidableEq κ] (kvs : List (κ × D)) (k : κ) (v : D) : (putK kvs k v).length ≤ kvs.length + 1 := by
  unfold putK
  split <;> simp
theorem heap_app {h h' l : Hh} (hl : h'.length = h.length + l.length) (ha : ∀ j, j < l.length → h'[h.length + j]? = l[j]?) (hr : ∀ j, j < h.length → h'[j]? = h[j]?) : h' = h ++ l := by
  apply List.ext_getElem?
  intro j
  rcases Nat.lt_or_ge j h.length with k | k
  · rw [hr j k, List.getElem?_append_left k]
  · rw [List.getElem?_append_right k]
    rcases Nat.lt_or_ge (j - h.length) l.length with k2 | k2
    · have := ha (j - h.length) k2
      rw [show h.length + (j - h.length) = j by omega] at this
      exact this
    · rw [List.getElem?_eq_none (by omega), List.getElem?_eq_none (by omega)]
theorem heap3 {h h' : Hh} {a b c : O} (hl : h'.length = h.length + 3) (ha : h'[h.length]? = some a) (hb : h'[h.length + 1]? = some b) (hc : h'[h.length + 2]? = some c) (hr : ∀ j, j < h.length → h'[j]? = h[j]?) : h' = h ++ [a, b, c] := by
  refine heap_app (by simpa using hl) (fun j hj => ?_) hr
  simp at hj
  match j, hj with
  | 0, _ => simpa using ha
  | 1, _ => simpa using hb
  | 2, _ => simpa using hc
/-- a comprehension without a test, whose items may draw -/
theorem lcM_all {g : Gd} {own : List Nat} {t : MT} {c : Mi.Env → Hh → Res Bool} {e : Mi.Env → Hh → Res D} {env : Mi.Env} (I : Hh → Prop) (P : D → Prop) (hc : ∀ env h, c env h = .ok true h) (hg : ∀ h, I h → gok g h) :
    ∀ ds, (∀ d ∈ ds, ∀ h, I h → ∃ env1 y h2, setT t d (wipe env own) = some env1 ∧ e env1 h = .ok y h2 ∧ I h2 ∧ P y) →
    ∀ h, I h → ∃ ys h', lcM g own t c e env ds h = .ok ys h' ∧ I h' ∧ (∀ y ∈ ys, P y) ∧ ys.length = ds.length
  | [], _, h, i => ⟨[], h, by rw [lcM, if_pos (hg h i)], i, fun _ m => (nomatch m), rfl⟩
  | d :: ds, hs, h, i => by
    obtain ⟨env1, y, h2, e1, e3, i2, p⟩ := hs d List.mem_cons_self h i
    obtain ⟨ys, h', e4, i3, q, l⟩ := lcM_all I P hc hg ds (fun d m => hs d (List.mem_cons_of_mem _ m)) h2 i2
    refine ⟨y :: ys, h', ?_, i3, fun z m => ?_, by simp [l]⟩
    · rw [lcM, if_pos (hg h i), e1]
      simp [hc, e3, e4]
    · rcases List.mem_cons.mp m with m | m
      · rw [m]; exact p
      · exact q z m
theorem ints_of {ys : List D} {p : Int → Prop} (h : ∀ y ∈ ys, ∃ v, y = .int v ∧ p v) : ∃ vs : List Int, ys = vs.map .int ∧ ∀ v ∈ vs, p v := by
  induction ys with
  | nil => exact ⟨[], rfl, fun _ m => nomatch m⟩
  | cons y ys ih =>
    obtain ⟨v, rfl, pv⟩ := h y List.mem_cons_self
    obtain ⟨vs, rfl, k⟩ := ih fun z m => h z (List.mem_cons_of_mem _ m)
    refine ⟨v :: vs, rfl, fun w m => ?_⟩
    rcases List.mem_cons.mp m with rfl | m
    · exact pv
    · exact k w m
theorem sum_le {α : Type} (f : α → Int) (B : Int) (xs : List α) (h : ∀ x ∈ xs, 0 ≤ f x ∧ f x ≤ B) : 0 ≤ (xs.map f).sum ∧ (xs.map f).sum ≤ B * xs.length := by
  induction xs with
  | nil => simp
  | cons x xs ih =>
    have h1 := h x List.mem_cons_self
    have h2 := ih fun y m => h y (List.mem_cons_of_mem _ m)
    simp only [List.map_cons, List.sum_cons, List.length_cons, Int.natCast_add, Int.mul_add]
    omega
end Mi
end
section
set_option maxRecDepth 100000
set_option linter.all false
/-! The laws' tape of draws: `_law_start`, `_law_draw`, alike in all laws. -/
namespace Mi
open PySem
def startB : MSs := (.cons (.set (.nm 1) (.bin .Add (.bin .Mod (.bi .int (.cons (.bin .Add (.bin .Mult (.var 1) (.lit (.int 48271))) (.var 2)) .nil)) (.lit (.int 2147483629))) (.lit (.int 1)))) .nil)
def startF : FInfo := ⟨"_law_start", true, true, 1, ["script", "seed", "cell"],
  (.cons (.set (.nm 1) (.lit (.int 7))) (.cons (.loop (.nm 2) (.val (.var 0)) startB) (.cons (.ret (.new (.dsp (.cons (.bi .list (.cons (.var 0) .nil)) (.cons (.lit (.int 0)) (.cons (.lit (.int 0)) (.cons (.var 1) .nil))))))) .nil)))⟩
def drawF : FInfo := ⟨"_law_draw", true, true, 2, ["state", "many", "value"],
  (.cons (.ife (.and (.cmp .Eq (.ix (.var 0) (.lit (.int 1))) (.lit (.int 0))) (.cmp .GtE (.ix (.var 0) (.lit (.int 2))) (.bi .len (.cons (.ix (.var 0) (.lit (.int 0))) .nil)))) (.cons (.sets (.var 0) (.lit (.int 3)) (.bin .Mod (.bi .int (.cons (.bin .Add (.bin .Mult (.ix (.var 0) (.lit (.int 3))) (.lit (.int 48271))) (.lit (.int 69621))) .nil)) (.lit (.int 2147483629)))) (.cons (.ret (.bin .Mod (.bi .int (.cons (.bin .FloorDiv (.ix (.var 0) (.lit (.int 3))) (.lit (.int 13))) .nil)) (.var 1))) .nil)) .nil) (.cons (.ife (.cmp .Eq (.ix (.var 0) (.lit (.int 1))) (.lit (.int 0))) (.cons (.sets (.var 0) (.lit (.int 1)) (.bi .abs (.cons (.ix (.ix (.var 0) (.lit (.int 0))) (.ix (.var 0) (.lit (.int 2)))) .nil))) (.cons (.sets (.var 0) (.lit (.int 2)) (.bin .Add (.ix (.var 0) (.lit (.int 2))) (.lit (.int 1)))) .nil)) .nil) (.cons (.set (.nm 2) (.bin .Mod (.bi .int (.cons (.ix (.var 0) (.lit (.int 1))) .nil)) (.var 1))) (.cons (.sets (.var 0) (.lit (.int 1)) (.bin .FloorDiv (.ix (.var 0) (.lit (.int 1))) (.var 1))) (.cons (.ret (.var 2)) .nil)))))⟩
/-- the tape of draws -/
def Dr (o : O) : Prop := ∃ (cells : List Int) (a b s : Int), o = .lst [.lst (cells.map .int), .int a, .int b, .int s] ∧ 0 ≤ b
theorem draw_ok {P : Prog} {f : Nat} (hf : P.fns[f]? = some drawF) (n : Nat) (o : O) (t : Hh) (m : Int) (ho : Dr o) (h0 : 0 < m) (h1 : m < 1000000000) :
    ∃ r o', den P (n + 1) f [.ref 0, .int m] (o :: t) = .ok (.int r) (o' :: t) ∧ 0 ≤ r ∧ r < m ∧ Dr o' := by
  obtain ⟨cells, a, b, s, rfl, hb⟩ := ho
  rw [w_run hf n _ _ rfl]
  have hm : m ≠ 0 := by omega
  have hq : m.natAbs < 1073741824 := by omega
  have set0 (xs : List D) (k : Nat) (d : D) (hk : k < xs.length) : setD (.lst xs :: t) (.ref 0) (.int k) d = some (.lst (xs.set k d) :: t) := by
    show Option.map _ (L2.ixN xs.length (k : Int)) = _
    unfold L2.ixN
    rw [if_pos (by omega), if_pos (by omega)]
    rfl
  have s1 (w x y z d : D) : setD (.lst [w, x, y, z] :: t) (.ref 0) (.int 1) d = some (.lst [w, d, y, z] :: t) := set0 _ 1 d (by simp)
  have s2 (w x y z d : D) : setD (.lst [w, x, y, z] :: t) (.ref 0) (.int 2) d = some (.lst [w, x, d, z] :: t) := set0 _ 2 d (by simp)
  have s3 (w x y z d : D) : setD (.lst [w, x, y, z] :: t) (.ref 0) (.int 3) d = some (.lst [w, x, y, d] :: t) := set0 _ 3 d (by simp)
  by_cases ha : a = 0
  · subst ha
    by_cases hc : (cells.length : Int) ≤ b
    · refine ⟨Int.fmod (Int.fdiv (Int.fmod (s * 48271 + 69621) 2147483629) 13) m, _, ?_, Int.fmod_nonneg_of_pos _ h0, Int.fmod_lt_of_pos _ h0, cells, 0, b, Int.fmod (s * 48271 + 69621) 2147483629, rfl, hb⟩
      simp [drawF, small64, gcD_len, hc, hm, s1, s2, s3]
    · obtain ⟨x, hx, hm2⟩ := atI_in (cells.map D.int) b hb (by simp; omega)
      obtain ⟨v, _, rfl⟩ := List.mem_map.mp hm2
      refine ⟨Int.fmod (if v < 0 then -v else v) m, _, ?_, Int.fmod_nonneg_of_pos _ h0, Int.fmod_lt_of_pos _ h0, cells, Int.fdiv (if v < 0 then -v else v) m, b + 1, s, rfl, by omega⟩
      simp [drawF, small64, gcD_len, hc, hm, hq, hx, s1, s2, s3]
  · refine ⟨Int.fmod a m, _, ?_, Int.fmod_nonneg_of_pos _ h0, Int.fmod_lt_of_pos _ h0, cells, Int.fdiv a m, b, s, rfl, hb⟩
    simp [drawF, small64, gcD_len, ha, hm, hq, s1, s2, s3]
theorem start_ok {P : Prog} {f : Nat} (hf : P.fns[f]? = some startF) (n : Nat) (ns : List Int) : ∃ o, den P (n + 1) f [.scr ns] [] = .ok (.ref 0) [o] ∧ Dr o := by
  rw [w_run hf n _ _ rfl]
  simp [startF, seqD, guardD, iterD]
  generalize hL : loopM _ _ _ _ _ _ = L
  obtain ⟨s, hs⟩ : ∃ s c, L = .nx [some (.scr ns), some (.int s), c] [] := by
    rw [← hL]
    refine loopM_rule (fun ds env h => (∀ d ∈ ds, ∃ v, d = .int v) ∧ h = [] ∧ ∃ s c, env = [some (.scr ns), some (.int s), c]) (fun r => ∃ s c, r = .nx [some (.scr ns), some (.int s), c] []) (fun _ _ _ _ => by simp) ?_ ?_ _ _ _ ⟨by simp, rfl, 7, none, rfl⟩
    · rintro env h ⟨_, rfl, s, c, rfl⟩
      exact ⟨s, c, rfl⟩
    · rintro d ds env h ⟨hd, rfl, s, c, rfl⟩
      obtain ⟨v, rfl⟩ := hd d List.mem_cons_self
      refine ⟨_, rfl, ?_⟩
      simp [startB, small64]
      exact ⟨fun d m => hd d (List.mem_cons_of_mem _ m), rfl, _, _, rfl⟩
  obtain ⟨c, rfl⟩ := hs
  refine ⟨_, ?_, ns, 0, 0, s, rfl, Int.le_refl _⟩
  simp [iterD]
  rw [gcD_up _ _ _ (by simp [D.lo])]
end Mi
end
section
set_option maxRecDepth 100000
namespace K14
open PySem Mi
/-- is_integer -/
def f0 : FInfo := ⟨"is_integer", true, true, 1, ["value"],
  (.cons (.ret (.and (.isi (.var 0) [.int]) (.not (.isi (.var 0) [.bool])))) .nil)⟩
/-- is_action -/
def f1 : FInfo := ⟨"is_action", true, true, 1, ["action"],
  (.cons (.ife (.or (.not (.isi (.var 0) [.tuple])) (.not (.var 0))) (.cons (.ret (.lit (.bl false))) .nil) .nil) (.cons (.ife (.cmp .Eq (.ix (.var 0) (.lit (.int 0))) (.lit (.str "turn"))) (.cons (.ret (.cmp .Eq (.bi .len (.cons (.var 0) .nil)) (.lit (.int 1)))) .nil) .nil) (.cons (.ife (.or (.cmp .NotEq (.bi .len (.cons (.var 0) .nil)) (.lit (.int 2))) (.not (.call 0 (.cons (.ix (.var 0) (.lit (.int 1))) .nil)))) (.cons (.ret (.lit (.bl false))) .nil) .nil) (.cons (.ife (.cmp .Eq (.ix (.var 0) (.lit (.int 0))) (.lit (.str "advance"))) (.cons (.ret (.cmp .GtE (.ix (.var 0) (.lit (.int 1))) (.lit (.int 1)))) .nil) .nil) (.cons (.ret (.and (.cmp .In (.ix (.var 0) (.lit (.int 0))) (.tup (.cons (.lit (.str "keep")) (.cons (.lit (.str "restore")) .nil)))) (.cmp .GtE (.ix (.var 0) (.lit (.int 1))) (.lit (.int 0))))) .nil)))))⟩
/-- is_cost -/
def f2 : FInfo := ⟨"is_cost", true, true, 1, ["value"],
  (.cons (.ret (.and (.call 0 (.cons (.var 0) .nil)) (.cmp2 .LtE .LtE (.lit (.int 0)) (.var 0) (.glb 2)))) .nil)⟩
/-- demand_costs -/
def f3 : FInfo := ⟨"demand_costs", true, false, 4, ["costs", "slots", "shelf", "most", "cost"],
  (.cons (.ife (.or (.not (.isi (.var 0) [.tuple])) (.or (.cmp .Gt (.bi .len (.cons (.var 0) .nil)) (.var 3)) (.not (.bi .all (.cons (.frz (.lc [4] (.nm 4) (.val (.var 0)) .nil (.call 2 (.cons (.var 4) .nil)))) .nil))))) (.cons (.raise 1 (.cons (.lit (.str "costs")) .nil)) .nil) .nil) (.cons (.ife (.or (.not (.call 0 (.cons (.var 1) .nil))) (.not (.cmp2 .LtE .LtE (.lit (.int 0)) (.var 1) (.glb 0)))) (.cons (.raise 1 (.cons (.lit (.str "slots")) .nil)) .nil) .nil) (.cons (.ife (.cmp .IsNot (.var 2) (.lit .non)) (.cons (.ife (.or (.not (.isi (.var 2) [.tuple])) (.or (.cmp .NotEq (.bi .len (.cons (.var 2) .nil)) (.lit (.int 2))) (.not (.bi .all (.cons (.frz (.lc [4] (.nm 4) (.val (.var 2)) .nil (.call 2 (.cons (.var 4) .nil)))) .nil))))) (.cons (.raise 1 (.cons (.lit (.str "shelf")) .nil)) .nil) .nil) .nil) .nil) .nil)))⟩
/-- is_stored_action -/
def f4 : FInfo := ⟨"is_stored_action", true, true, 1, ["action"],
  (.cons (.ife (.call 1 (.cons (.var 0) .nil)) (.cons (.ret (.lit (.bl true))) .nil) .nil) (.cons (.ife (.or (.not (.isi (.var 0) [.tuple])) (.not (.var 0))) (.cons (.ret (.lit (.bl false))) .nil) .nil) (.cons (.ife (.cmp .Eq (.ix (.var 0) (.lit (.int 0))) (.lit (.str "put"))) (.cons (.ret (.cmp .Eq (.bi .len (.cons (.var 0) .nil)) (.lit (.int 1)))) .nil) .nil) (.cons (.ret (.and (.cmp .Eq (.ix (.var 0) (.lit (.int 0))) (.lit (.str "fetch"))) (.and (.cmp .Eq (.bi .len (.cons (.var 0) .nil)) (.lit (.int 2))) (.and (.call 0 (.cons (.ix (.var 0) (.lit (.int 1))) .nil)) (.cmp .GtE (.ix (.var 0) (.lit (.int 1))) (.lit (.int 0))))))) .nil))))⟩
def b5_1 : MSs := (.cons (.set (.nm 7) (.mth (.var 4) 0 0 (.cons (.var 6) .nil))) (.cons (.ife (.cmp .IsNot (.var 7) (.lit .non)) (.cons (.raise 2 (.cons (.var 5) (.cons (.var 7) .nil))) .nil) .nil) (.cons (.exp (.mth (.var 4) 0 1 (.cons (.var 6) .nil))) .nil)))
/-- judge_costs -/
def f5 : FInfo := ⟨"judge_costs", true, true, 4, ["schedule", "costs", "slots", "shelf", "storing", "number", "action", "reason"],
  (.cons (.exp (.callK 0 (.cons (.var 1) (.cons (.var 2) (.cons (.var 3) .nil))) .nil)) (.cons (.ife (.not (.isi (.var 0) [.tuple])) (.cons (.raise 2 (.cons (.neg (.lit (.int 1))) (.cons (.lit (.str "form")) .nil))) .nil) .nil) (.cons (.set (.nm 4) (.ins 0 (.cons (.var 1) (.cons (.var 2) (.cons (.var 3) .nil))))) (.cons (.loop (.tp [5, 6]) (.enum (.var 0)) b5_1) (.cons (.ife (.cmp .NotEq (.fld (.var 4) "front") (.lit (.int 0))) (.cons (.raise 2 (.cons (.bi .len (.cons (.var 0) .nil)) (.cons (.lit (.str "unfinished")) .nil))) .nil) .nil) (.cons (.ret (.fld (.var 4) "cost")) .nil))))))⟩
def b6_1 : MSs := (.cons (.set (.nm 1) (.bin .Add (.bin .Mod (.bi .int (.cons (.bin .Add (.bin .Mult (.var 1) (.lit (.int 48271))) (.var 2)) .nil)) (.lit (.int 2147483629))) (.lit (.int 1)))) .nil)
/-- _law_start -/
def f6 : FInfo := ⟨"_law_start", true, true, 1, ["script", "seed", "cell"],
  (.cons (.set (.nm 1) (.lit (.int 7))) (.cons (.loop (.nm 2) (.val (.var 0)) b6_1) (.cons (.ret (.new (.dsp (.cons (.bi .list (.cons (.var 0) .nil)) (.cons (.lit (.int 0)) (.cons (.lit (.int 0)) (.cons (.var 1) .nil))))))) .nil)))⟩
/-- _law_draw -/
def f7 : FInfo := ⟨"_law_draw", true, true, 2, ["state", "many", "value"],
  (.cons (.ife (.and (.cmp .Eq (.ix (.var 0) (.lit (.int 1))) (.lit (.int 0))) (.cmp .GtE (.ix (.var 0) (.lit (.int 2))) (.bi .len (.cons (.ix (.var 0) (.lit (.int 0))) .nil)))) (.cons (.sets (.var 0) (.lit (.int 3)) (.bin .Mod (.bi .int (.cons (.bin .Add (.bin .Mult (.ix (.var 0) (.lit (.int 3))) (.lit (.int 48271))) (.lit (.int 69621))) .nil)) (.lit (.int 2147483629)))) (.cons (.ret (.bin .Mod (.bi .int (.cons (.bin .FloorDiv (.ix (.var 0) (.lit (.int 3))) (.lit (.int 13))) .nil)) (.var 1))) .nil)) .nil) (.cons (.ife (.cmp .Eq (.ix (.var 0) (.lit (.int 1))) (.lit (.int 0))) (.cons (.sets (.var 0) (.lit (.int 1)) (.bi .abs (.cons (.ix (.ix (.var 0) (.lit (.int 0))) (.ix (.var 0) (.lit (.int 2)))) .nil))) (.cons (.sets (.var 0) (.lit (.int 2)) (.bin .Add (.ix (.var 0) (.lit (.int 2))) (.lit (.int 1)))) .nil)) .nil) (.cons (.set (.nm 2) (.bin .Mod (.bi .int (.cons (.ix (.var 0) (.lit (.int 1))) .nil)) (.var 1))) (.cons (.sets (.var 0) (.lit (.int 1)) (.bin .FloorDiv (.ix (.var 0) (.lit (.int 1))) (.var 1))) (.cons (.ret (.var 2)) .nil)))))⟩
/-- _law_arguments -/
def f8 : FInfo := ⟨"_law_arguments", true, true, 2, ["state", "most", "many", "greatest", "costs", "slots", "shelf", "k"],
  (.cons (.set (.nm 2) (.call 7 (.cons (.var 0) (.cons (.bin .Add (.var 1) (.lit (.int 1))) .nil)))) (.cons (.set (.nm 3) (.ix (.frz (.dsp (.cons (.lit (.int 2)) (.cons (.lit (.int 10)) (.cons (.lit (.int 1000001)) (.cons (.lit (.int 1)) .nil)))))) (.call 7 (.cons (.var 0) (.cons (.lit (.int 4)) .nil))))) (.cons (.set (.nm 4) (.bi .tuple (.cons (.frz (.lc [7] (.nm 7) (.rng1 (.var 2)) .nil (.call 7 (.cons (.var 0) (.cons (.var 3) .nil))))) .nil))) (.cons (.set (.nm 5) (.ix (.frz (.dsp (.cons (.call 7 (.cons (.var 0) (.cons (.lit (.int 9)) .nil))) (.cons (.call 7 (.cons (.var 0) (.cons (.lit (.int 3)) .nil))) (.cons (.lit (.int 0)) .nil))))) (.call 7 (.cons (.var 0) (.cons (.lit (.int 3)) .nil))))) (.cons (.set (.nm 6) (.lit .non)) (.cons (.ife (.cmp .Gt (.call 7 (.cons (.var 0) (.cons (.lit (.int 3)) .nil))) (.lit (.int 0))) (.cons (.set (.nm 6) (.tup (.cons (.call 7 (.cons (.var 0) (.cons (.var 3) .nil))) (.cons (.call 7 (.cons (.var 0) (.cons (.ix (.frz (.dsp (.cons (.lit (.int 3)) (.cons (.var 3) (.cons (.lit (.int 1)) .nil))))) (.call 7 (.cons (.var 0) (.cons (.lit (.int 3)) .nil)))) .nil))) .nil)))) .nil) .nil) (.cons (.ret (.dsp (.cons "costs" (.var 4) (.cons "slots" (.var 5) (.cons "shelf" (.var 6) (.cons "place" (.lit (.int 0)) (.cons "front" (.var 2) (.cons "full" (.dnew false) (.cons "store" (.new (.dsp .nil)) (.cons "cost" (.lit (.int 0)) .nil)))))))))) .nil)))))))⟩
/-- _law_whole -/
def f9 : FInfo := ⟨"_law_whole", true, true, 2, ["value", "low"],
  (.cons (.ret (.and (.isi (.var 0) [.int]) (.and (.not (.isi (.var 0) [.bool])) (.cmp .GtE (.var 0) (.var 1))))) .nil)⟩
/-- _law_action -/
def f10 : FInfo := ⟨"_law_action", true, true, 1, ["action"],
  (.cons (.ife (.or (.not (.isi (.var 0) [.tuple])) (.or (.not (.var 0)) (.not (.isi (.ix (.var 0) (.lit (.int 0))) [.str])))) (.cons (.ret (.lit (.bl false))) .nil) .nil) (.cons (.ife (.cmp .In (.ix (.var 0) (.lit (.int 0))) (.tup (.cons (.lit (.str "turn")) (.cons (.lit (.str "put")) .nil)))) (.cons (.ret (.cmp .Eq (.bi .len (.cons (.var 0) .nil)) (.lit (.int 1)))) .nil) .nil) (.cons (.ife (.cmp .NotEq (.bi .len (.cons (.var 0) .nil)) (.lit (.int 2))) (.cons (.ret (.lit (.bl false))) .nil) .nil) (.cons (.ife (.cmp .Eq (.ix (.var 0) (.lit (.int 0))) (.lit (.str "advance"))) (.cons (.ret (.call 9 (.cons (.ix (.var 0) (.lit (.int 1))) (.cons (.lit (.int 1)) .nil)))) .nil) .nil) (.cons (.ret (.and (.cmp .In (.ix (.var 0) (.lit (.int 0))) (.tup (.cons (.lit (.str "keep")) (.cons (.lit (.str "restore")) (.cons (.lit (.str "fetch")) .nil))))) (.call 9 (.cons (.ix (.var 0) (.lit (.int 1))) (.cons (.lit (.int 0)) .nil))))) .nil)))))⟩
/-- _law_reason -/
def f11 : FInfo := ⟨"_law_reason", true, true, 2, ["m", "action", "sort"],
  (.cons (.ife (.not (.call 10 (.cons (.var 1) .nil))) (.cons (.ret (.lit (.str "form"))) .nil) .nil) (.cons (.ife (.cmp .Eq (.ix (.var 0) (.lit (.str "front"))) (.lit (.int 0))) (.cons (.ret (.lit (.str "done"))) .nil) .nil) (.cons (.set (.nm 2) (.ix (.var 1) (.lit (.int 0)))) (.cons (.ife (.and (.cmp .In (.var 2) (.tup (.cons (.lit (.str "keep")) (.cons (.lit (.str "restore")) .nil)))) (.cmp .GtE (.ix (.var 1) (.lit (.int 1))) (.ix (.var 0) (.lit (.str "slots"))))) (.cons (.ret (.lit (.str "slot"))) .nil) .nil) (.cons (.ife (.and (.cmp .In (.var 2) (.tup (.cons (.lit (.str "put")) (.cons (.lit (.str "fetch")) .nil)))) (.cmp .Is (.ix (.var 0) (.lit (.str "shelf"))) (.lit .non))) (.cons (.ret (.lit (.str "shelf"))) .nil) .nil) (.cons (.ife (.or (.and (.cmp .Eq (.var 2) (.lit (.str "restore"))) (.cmp .NotIn (.ix (.var 1) (.lit (.int 1))) (.ix (.var 0) (.lit (.str "full"))))) (.and (.cmp .Eq (.var 2) (.lit (.str "fetch"))) (.cmp .NotIn (.ix (.var 1) (.lit (.int 1))) (.ix (.var 0) (.lit (.str "store")))))) (.cons (.ret (.lit (.str "empty"))) .nil) .nil) (.cons (.ife (.and (.cmp .NotIn (.var 2) (.tup (.cons (.lit (.str "restore")) (.cons (.lit (.str "fetch")) .nil)))) (.cmp .Lt (.ix (.var 0) (.lit (.str "place"))) (.lit (.int 0)))) (.cons (.ret (.lit (.str "nowhere"))) .nil) .nil) (.cons (.ife (.and (.cmp .Eq (.var 2) (.lit (.str "advance"))) (.cmp .GtE (.bin .Add (.ix (.var 0) (.lit (.str "place"))) (.ix (.var 1) (.lit (.int 1)))) (.ix (.var 0) (.lit (.str "front"))))) (.cons (.ret (.lit (.str "beyond"))) .nil) .nil) (.cons (.ife (.and (.cmp .Eq (.var 2) (.lit (.str "turn"))) (.cmp .NotEq (.ix (.var 0) (.lit (.str "place"))) (.bin .Sub (.ix (.var 0) (.lit (.str "front"))) (.lit (.int 1))))) (.cons (.ret (.lit (.str "turn"))) .nil) .nil) (.cons (.ret (.lit .non)) .nil))))))))))⟩
/-- _law_perform -/
def f12 : FInfo := ⟨"_law_perform", true, true, 2, ["m", "action", "sort", "full"],
  (.cons (.set (.nm 2) (.ix (.var 1) (.lit (.int 0)))) (.cons (.ife (.cmp .Eq (.var 2) (.lit (.str "keep"))) (.cons (.set (.nm 3) (.ix (.var 0) (.lit (.str "full")))) (.cons (.sets (.var 3) (.ix (.var 1) (.lit (.int 1))) (.ix (.var 0) (.lit (.str "place")))) .nil)) (.cons (.ife (.cmp .Eq (.var 2) (.lit (.str "restore"))) (.cons (.sets (.var 0) (.lit (.str "place")) (.ix (.ix (.var 0) (.lit (.str "full"))) (.ix (.var 1) (.lit (.int 1))))) .nil) (.cons (.ife (.cmp .Eq (.var 2) (.lit (.str "put"))) (.cons (.sets (.var 0) (.lit (.str "cost")) (.bin .Add (.ix (.var 0) (.lit (.str "cost"))) (.ix (.ix (.var 0) (.lit (.str "shelf"))) (.lit (.int 0))))) (.cons (.exp (.bm (.ix (.var 0) (.lit (.str "store"))) .append (.cons (.ix (.var 0) (.lit (.str "place"))) .nil))) .nil)) (.cons (.ife (.cmp .Eq (.var 2) (.lit (.str "fetch"))) (.cons (.sets (.var 0) (.lit (.str "cost")) (.bin .Add (.ix (.var 0) (.lit (.str "cost"))) (.ix (.ix (.var 0) (.lit (.str "shelf"))) (.lit (.int 1))))) (.cons (.sets (.var 0) (.lit (.str "place")) (.ix (.var 1) (.lit (.int 1)))) .nil)) (.cons (.ife (.cmp .Eq (.var 2) (.lit (.str "advance"))) (.cons (.sets (.var 0) (.lit (.str "cost")) (.bin .Add (.ix (.var 0) (.lit (.str "cost"))) (.bi .sum (.cons (.slc (.ix (.var 0) (.lit (.str "costs"))) (.some (.ix (.var 0) (.lit (.str "place")))) (.some (.bin .Add (.ix (.var 0) (.lit (.str "place"))) (.ix (.var 1) (.lit (.int 1)))))) .nil)))) (.cons (.sets (.var 0) (.lit (.str "place")) (.bin .Add (.ix (.var 0) (.lit (.str "place"))) (.ix (.var 1) (.lit (.int 1))))) .nil)) (.cons (.sets (.var 0) (.lit (.str "front")) (.bin .Sub (.ix (.var 0) (.lit (.str "front"))) (.lit (.int 1)))) (.cons (.sets (.var 0) (.lit (.str "place")) (.neg (.lit (.int 1)))) .nil))) .nil)) .nil)) .nil)) .nil)) .nil))⟩
def b13_1 : MSs := (.cons (.set (.nm 3) (.call 11 (.cons (.var 0) (.cons (.ix (.var 1) (.var 2)) .nil)))) (.cons (.ife (.cmp .IsNot (.var 3) (.lit .non)) (.cons (.ret (.tup (.cons (.var 2) (.cons (.var 3) .nil)))) .nil) .nil) (.cons (.exp (.call 12 (.cons (.var 0) (.cons (.ix (.var 1) (.var 2)) .nil)))) .nil)))
/-- _law_judged -/
def f13 : FInfo := ⟨"_law_judged", true, true, 2, ["m", "schedule", "k", "reason"],
  (.cons (.set (.nm 0) (.dsp (.cons "costs" (.ix (.var 0) (.lit (.str "costs"))) (.cons "slots" (.ix (.var 0) (.lit (.str "slots"))) (.cons "shelf" (.ix (.var 0) (.lit (.str "shelf"))) (.cons "place" (.lit (.int 0)) (.cons "front" (.bi .len (.cons (.ix (.var 0) (.lit (.str "costs"))) .nil)) (.cons "full" (.dnew false) (.cons "store" (.new (.dsp .nil)) (.cons "cost" (.lit (.int 0)) .nil)))))))))) (.cons (.ife (.not (.isi (.var 1) [.tuple])) (.cons (.ret (.tup (.cons (.neg (.lit (.int 1))) (.cons (.lit (.str "form")) .nil)))) .nil) .nil) (.cons (.loop (.nm 2) (.rng1 (.bi .len (.cons (.var 1) .nil))) b13_1) (.cons (.ret (.ifx (.cmp .Gt (.ix (.var 0) (.lit (.str "front"))) (.lit (.int 0))) (.tup (.cons (.bi .len (.cons (.var 1) .nil)) (.cons (.lit (.str "unfinished")) .nil))) (.ix (.var 0) (.lit (.str "cost"))))) .nil))))⟩
/-- _law_next -/
def f14 : FInfo := ⟨"_law_next", true, true, 2, ["state", "m", "spots", "pick", "slot", "place"],
  (.cons (.set (.nm 2) (.frz (.lc [4] (.nm 4) (.rng1 (.lit (.int 9))) (.cons (.and (.cmp .In (.var 4) (.ix (.var 1) (.lit (.str "full")))) (.cmp .Lt (.ix (.ix (.var 1) (.lit (.str "full"))) (.var 4)) (.ix (.var 1) (.lit (.str "front"))))) .nil) (.tup (.cons (.lit (.str "restore")) (.cons (.var 4) .nil)))))) (.cons (.set (.nm 2) (.bin .Add (.var 2) (.frz (.lc [5] (.nm 5) (.rng1 (.lit (.int 25))) (.cons (.and (.cmp .In (.var 5) (.ix (.var 1) (.lit (.str "store")))) (.cmp .Lt (.var 5) (.ix (.var 1) (.lit (.str "front"))))) .nil) (.tup (.cons (.lit (.str "fetch")) (.cons (.var 5) .nil))))))) (.cons (.ife (.and (.cmp .Lt (.ix (.var 1) (.lit (.str "place"))) (.lit (.int 0))) (.cmp .Eq (.call 7 (.cons (.var 0) (.cons (.lit (.int 24)) .nil))) (.lit (.int 0)))) (.cons (.ret (.ix (.frz (.dsp (.cons (.tup (.cons (.lit (.str "put")) .nil)) (.cons (.tup (.cons (.lit (.str "keep")) (.cons (.lit (.int 0)) .nil))) (.cons (.tup (.cons (.lit (.str "turn")) .nil)) (.cons (.tup (.cons (.lit (.str "advance")) (.cons (.lit (.int 1)) .nil))) .nil)))))) (.call 7 (.cons (.var 0) (.cons (.lit (.int 4)) .nil))))) .nil) .nil) (.cons (.ife (.cmp .Lt (.ix (.var 1) (.lit (.str "place"))) (.lit (.int 0))) (.cons (.ret (.ifx (.var 2) (.ix (.var 2) (.call 7 (.cons (.var 0) (.cons (.bi .len (.cons (.var 2) .nil)) .nil)))) (.tup (.cons (.lit (.str "restore")) (.cons (.lit (.int 0)) .nil))))) .nil) .nil) (.cons (.set (.nm 3) (.call 7 (.cons (.var 0) (.cons (.lit (.int 9)) .nil)))) (.cons (.ife (.and (.cmp .Eq (.var 3) (.lit (.int 0))) (.var 2)) (.cons (.ret (.ix (.var 2) (.call 7 (.cons (.var 0) (.cons (.bi .len (.cons (.var 2) .nil)) .nil))))) .nil) .nil) (.cons (.ife (.and (.cmp .Lt (.var 3) (.lit (.int 3))) (.cmp .Gt (.ix (.var 1) (.lit (.str "slots"))) (.lit (.int 0)))) (.cons (.ret (.tup (.cons (.lit (.str "keep")) (.cons (.call 7 (.cons (.var 0) (.cons (.ix (.var 1) (.lit (.str "slots"))) .nil))) .nil)))) .nil) .nil) (.cons (.ife (.and (.cmp .Lt (.var 3) (.lit (.int 5))) (.cmp .IsNot (.ix (.var 1) (.lit (.str "shelf"))) (.lit .non))) (.cons (.ret (.tup (.cons (.lit (.str "put")) .nil))) .nil) .nil) (.cons (.ife (.and (.cmp .Eq (.ix (.var 1) (.lit (.str "place"))) (.bin .Sub (.ix (.var 1) (.lit (.str "front"))) (.lit (.int 1)))) (.or (.var 2) (.or (.cmp .Eq (.ix (.var 1) (.lit (.str "front"))) (.lit (.int 1))) (.cmp .Eq (.var 3) (.lit (.int 8)))))) (.cons (.ret (.tup (.cons (.lit (.str "turn")) .nil))) .nil) .nil) (.cons (.ife (.cmp .Lt (.ix (.var 1) (.lit (.str "place"))) (.bin .Sub (.ix (.var 1) (.lit (.str "front"))) (.lit (.int 1)))) (.cons (.ret (.tup (.cons (.lit (.str "advance")) (.cons (.bin .Add (.lit (.int 1)) (.call 7 (.cons (.var 0) (.cons (.bin .Sub (.bin .Sub (.ix (.var 1) (.lit (.str "front"))) (.lit (.int 1))) (.ix (.var 1) (.lit (.str "place")))) .nil)))) .nil)))) .nil) .nil) (.cons (.ret (.ifx (.cmp .IsNot (.ix (.var 1) (.lit (.str "shelf"))) (.lit .non)) (.tup (.cons (.lit (.str "put")) .nil)) (.tup (.cons (.lit (.str "turn")) .nil)))) .nil)))))))))))⟩
/-- _law_odd -/
def f15 : FInfo := ⟨"_law_odd", true, true, 2, ["state", "m", "far", "rows"],
  (.cons (.set (.nm 2) (.bin .Sub (.ix (.var 1) (.lit (.str "front"))) (.ix (.var 1) (.lit (.str "place"))))) (.cons (.set (.nm 3) (.frz (.dsp (.cons (.tup (.cons (.lit (.str "restore")) (.cons (.call 7 (.cons (.var 0) (.cons (.lit (.int 9)) .nil))) .nil))) (.cons (.tup (.cons (.lit (.str "fetch")) (.cons (.call 7 (.cons (.var 0) (.cons (.lit (.int 22)) .nil))) .nil))) (.cons (.tup (.cons (.lit (.str "put")) .nil)) (.cons (.tup (.cons (.lit (.str "keep")) (.cons (.ix (.var 1) (.lit (.str "slots"))) .nil))) (.cons (.tup (.cons (.lit (.str "turn")) .nil)) (.cons (.tup (.cons (.lit (.str "advance")) (.cons (.bi .max (.cons (.lit (.int 1)) (.cons (.var 2) .nil))) .nil))) .nil))))))))) (.cons (.set (.nm 3) (.bin .Add (.var 3) (.frz (.dsp (.cons (.tup (.cons (.lit (.str "advance")) (.cons (.lit (.int 0)) .nil))) (.cons (.tup (.cons (.lit (.str "fetch")) (.cons (.neg (.lit (.int 1))) .nil))) (.cons (.tup (.cons (.lit (.str "put")) (.cons (.lit (.int 1)) .nil))) (.cons (.tup (.cons (.lit (.str "fetch")) .nil)) (.cons (.tup (.cons (.lit (.str "fetch")) (.cons (.lit (.bl true)) .nil))) (.cons (.tup (.cons (.lit (.str "fetch")) (.cons (.lit (.str "0")) .nil))) (.cons (.tup (.cons (.lit (.str "take")) (.cons (.lit (.int 1)) .nil))) (.cons (.lit .non) (.cons (.tup .nil) (.cons (.lit (.str "put")) (.cons (.tup (.cons (.lit (.str "put")) (.cons (.lit (.int 0)) (.cons (.lit (.int 0)) .nil)))) .nil))))))))))))))) (.cons (.set (.nm 3) (.bin .Add (.var 3) (.frz (.dsp (.cons (.tup (.cons (.lit (.str "advance")) (.cons (.bi .max (.cons (.lit (.int 1)) (.cons (.bin .Sub (.var 2) (.lit (.int 1))) .nil))) .nil))) (.cons (.tup (.cons (.lit (.str "keep")) (.cons (.call 7 (.cons (.var 0) (.cons (.lit (.int 9)) .nil))) .nil))) (.cons (.tup (.cons (.lit (.str "turn")) (.cons (.lit (.int 0)) .nil))) (.cons (.tup (.cons (.lit (.str "fetch")) (.cons (.bin .Pow (.lit (.int 10)) (.lit (.int 20))) .nil))) (.cons (.tup (.cons (.lit (.str "fetch")) (.cons (.lit .non) .nil))) (.cons (.bin .Mult (.tup (.cons (.lit (.str "put")) .nil)) (.lit (.int 2))) .nil)))))))))) (.cons (.ret (.ix (.var 3) (.call 7 (.cons (.var 0) (.cons (.bi .len (.cons (.var 3) .nil)) .nil))))) .nil)))))⟩
def b16_1 : MSs := (.cons (.ife (.cmp .Eq (.ix (.var 1) (.lit (.str "front"))) (.lit (.int 0))) (.cons .brk .nil) .nil) (.cons (.set (.nm 5) (.call 14 (.cons (.var 0) (.cons (.var 1) .nil)))) (.cons (.ife (.and (.cmp .Gt (.var 3) (.lit (.int 0))) (.cmp .Eq (.call 7 (.cons (.var 0) (.cons (.var 3) .nil))) (.lit (.int 1)))) (.cons (.set (.nm 5) (.call 15 (.cons (.var 0) (.cons (.var 1) .nil)))) .nil) .nil) (.cons (.exp (.bm (.var 2) .append (.cons (.var 5) .nil))) (.cons (.ife (.cmp .IsNot (.call 11 (.cons (.var 1) (.cons (.var 5) .nil))) (.lit .non)) (.cons .brk .nil) .nil) (.cons (.exp (.call 12 (.cons (.var 1) (.cons (.var 5) .nil)))) .nil))))))
def b16_2 : MSs := (.cons (.set (.nm 6) (.call 7 (.cons (.var 0) (.cons (.bin .Add (.bi .len (.cons (.var 2) .nil)) (.lit (.int 1))) .nil)))) (.cons (.set (.nm 2) (.bin .Add (.bin .Add (.slc (.var 2) .none (.some (.var 6))) (.frz (.dsp (.cons (.call 15 (.cons (.var 0) (.cons (.var 1) .nil))) .nil)))) (.slc (.var 2) (.some (.bin .Add (.var 6) (.call 7 (.cons (.var 0) (.cons (.lit (.int 2)) .nil))))) .none))) .nil))
/-- _law_made -/
def f16 : FInfo := ⟨"_law_made", true, true, 2, ["state", "m", "rows", "odd", "k", "action", "at"],
  (.cons (.set (.nm 2) (.new (.dsp .nil))) (.cons (.set (.nm 3) (.ix (.frz (.dsp (.cons (.lit (.int 0)) (.cons (.lit (.int 0)) (.cons (.lit (.int 30)) (.cons (.lit (.int 12)) .nil)))))) (.call 7 (.cons (.var 0) (.cons (.lit (.int 4)) .nil))))) (.cons (.loop (.nm 4) (.rng1 (.bin .Add (.lit (.int 2)) (.call 7 (.cons (.var 0) (.cons (.ix (.frz (.dsp (.cons (.lit (.int 400)) (.cons (.lit (.int 400)) (.cons (.lit (.int 30)) .nil))))) (.call 7 (.cons (.var 0) (.cons (.lit (.int 3)) .nil)))) .nil))))) b16_1) (.cons (.ife (.and (.cmp .Eq (.ix (.var 1) (.lit (.str "front"))) (.lit (.int 0))) (.cmp .Eq (.call 7 (.cons (.var 0) (.cons (.lit (.int 5)) .nil))) (.lit (.int 0)))) (.cons (.exp (.bm (.var 2) .append (.cons (.ix (.frz (.dsp (.cons (.tup (.cons (.lit (.str "restore")) (.cons (.lit (.int 0)) .nil))) (.cons (.tup (.cons (.lit (.str "put")) .nil)) (.cons (.tup (.cons (.lit (.str "turn")) .nil)) (.cons (.tup (.cons (.lit (.str "fetch")) (.cons (.lit (.int 0)) .nil))) (.cons (.tup (.cons (.lit (.str "keep")) (.cons (.lit (.int 0)) .nil))) (.cons (.tup (.cons (.lit (.str "advance")) (.cons (.lit (.int 1)) .nil))) .nil)))))))) (.call 7 (.cons (.var 0) (.cons (.lit (.int 6)) .nil)))) .nil))) .nil) .nil) (.cons (.loop (.nm 4) (.rng1 (.ix (.frz (.dsp (.cons (.lit (.int 0)) (.cons (.lit (.int 0)) (.cons (.lit (.int 0)) (.cons (.lit (.int 1)) .nil)))))) (.call 7 (.cons (.var 0) (.cons (.lit (.int 4)) .nil))))) b16_2) (.cons (.ret (.bi .tuple (.cons (.var 2) .nil))) .nil))))))⟩
/-- _law_told -/
def f17 : FInfo := ⟨"_law_told", true, true, 4, ["schedule", "costs", "slots", "shelf", "e"],
  (.cons (.tryx (.cons (.ret (.call 5 (.cons (.var 0) (.cons (.var 1) (.cons (.var 2) (.cons (.var 3) .nil)))))) .nil) 0 4 (.cons (.ife (.or (.not (.xis [none])) (.cmp .Eq (.xis [(some 2)]) (.xis [(some 1)]))) (.cons (.ret (.tup (.cons (.lit (.str "other")) .nil))) .nil) .nil) (.cons (.ret (.ifx (.xis [(some 2)]) (.tup (.cons (.xf "number") (.cons (.xf "reason") .nil))) (.tup (.cons (.lit (.str "argument")) (.cons (.xf "reason") .nil))))) .nil))) .nil)⟩
def b18_1 : MSs := (.cons (.set (.nm 8) (.call 7 (.cons (.var 0) (.cons (.lit (.int 3)) .nil)))) (.cons (.ife (.cmp .Eq (.var 8) (.lit (.int 0))) (.cons (.set (.nm 5) (.ifx (.isi (.var 5) [.tuple]) (.ix (.frz (.dsp (.cons (.lit .non) (.cons (.bin .Add (.var 5) (.tup (.cons (.neg (.lit (.int 1))) .nil))) (.cons (.bin .Mult (.tup (.cons (.lit (.int 0)) .nil)) (.lit (.int 21))) (.cons (.bin .Add (.var 5) (.tup (.cons (.lit (.bl true)) .nil))) (.cons (.bin .Add (.var 5) (.tup (.cons (.lit (.int 1000001)) .nil))) (.cons (.lit (.int 5)) (.cons (.bin .Add (.var 5) (.tup (.cons (.lit .non) .nil))) .nil))))))))) (.call 7 (.cons (.var 0) (.cons (.lit (.int 7)) .nil)))) (.lit .non))) .nil) (.cons (.ife (.cmp .Eq (.var 8) (.lit (.int 1))) (.cons (.set (.nm 6) (.ix (.frz (.dsp (.cons (.neg (.lit (.int 1))) (.cons (.lit (.int 9)) (.cons (.lit (.bl true)) (.cons (.lit .non) (.cons (.lit (.str "1")) .nil))))))) (.call 7 (.cons (.var 0) (.cons (.lit (.int 5)) .nil))))) .nil) (.cons (.set (.nm 7) (.ix (.frz (.dsp (.cons (.tup .nil) (.cons (.tup (.cons (.lit (.int 1)) .nil)) (.cons (.tup (.cons (.lit (.int 1)) (.cons (.neg (.lit (.int 1))) .nil))) (.cons (.tup (.cons (.lit (.int 1)) (.cons (.lit (.bl true)) .nil))) (.cons (.lit (.int 7)) (.cons (.tup (.cons (.lit (.int 1)) (.cons (.lit (.int 2)) (.cons (.lit (.int 3)) .nil)))) (.cons (.tup (.cons (.lit (.int 1000001)) (.cons (.lit (.int 0)) .nil))) (.cons (.tup (.cons (.lit (.int 0)) (.cons (.lit .non) .nil))) (.cons (.lit (.bl false)) .nil))))))))))) (.call 7 (.cons (.var 0) (.cons (.lit (.int 9)) .nil))))) .nil)) .nil)) (.cons (.set (.nm 3) (.ix (.frz (.dsp (.cons (.ix (.frz (.dsp (.cons (.lit (.str "shelf")) (.cons (.lit (.str "slots")) (.cons (.lit (.str "costs")) .nil))))) (.bin .Sub (.lit (.int 2)) (.var 8))) (.cons (.var 3) .nil)))) (.bi .int (.cons (.and (.cmp .NotEq (.var 3) (.lit (.str ""))) (.cmp .Lt (.bm (.frz (.dsp (.cons (.lit (.str "costs")) (.cons (.lit (.str "slots")) (.cons (.lit (.str "shelf")) .nil))))) .index (.cons (.var 3) .nil)) (.var 8))) .nil)))) .nil)))
/-- _law_refused -/
def f18 : FInfo := ⟨"_law_refused", true, true, 3, ["state", "schedule", "m", "due", "k", "costs", "slots", "shelf", "pick"],
  (.cons (.set (.tp [5, 6, 7]) (.tup (.cons (.ix (.var 2) (.lit (.str "costs"))) (.cons (.ix (.var 2) (.lit (.str "slots"))) (.cons (.ix (.var 2) (.lit (.str "shelf"))) .nil))))) (.cons (.set (.nm 3) (.lit (.str ""))) (.cons (.loop (.nm 4) (.rng1 (.bin .Add (.lit (.int 1)) (.call 7 (.cons (.var 0) (.cons (.lit (.int 3)) .nil))))) b18_1) (.cons (.ret (.cmp .Eq (.call 17 (.cons (.ix (.frz (.dsp (.cons (.var 1) (.cons (.lit .non) .nil)))) (.call 7 (.cons (.var 0) (.cons (.lit (.int 2)) .nil)))) (.cons (.var 5) (.cons (.var 6) (.cons (.var 7) .nil))))) (.tup (.cons (.lit (.str "argument")) (.cons (.var 3) .nil))))) .nil))))⟩
def b19_1 : MSs := (.cons (.set (.nm 3) (.call 8 (.cons (.var 1) (.cons (.lit (.int 20)) .nil)))) (.cons (.set (.nm 4) (.call 16 (.cons (.var 1) (.cons (.var 3) .nil)))) (.cons (.ife (.cmp .Eq (.call 7 (.cons (.var 1) (.cons (.lit (.int 16)) .nil))) (.lit (.int 0))) (.cons (.set (.nm 4) (.ix (.frz (.dsp (.cons (.lit .non) (.cons (.lit (.int 5)) (.cons (.lit (.str "turn")) (.cons (.tup (.cons (.lit (.str "turn")) .nil)) (.cons (.tup (.cons (.tup (.cons (.lit (.str "turn")) .nil)) (.cons (.lit .non) .nil))) .nil))))))) (.call 7 (.cons (.var 1) (.cons (.lit (.int 5)) .nil))))) .nil) .nil) (.cons (.set (.nm 5) (.call 17 (.cons (.var 4) (.cons (.ix (.var 3) (.lit (.str "costs"))) (.cons (.ix (.var 3) (.lit (.str "slots"))) (.cons (.ix (.var 3) (.lit (.str "shelf"))) .nil)))))) (.cons (.set (.nm 6) (.call 13 (.cons (.var 3) (.cons (.var 4) .nil)))) (.cons (.ife (.or (.cmp .NotEq (.var 5) (.var 6)) (.or (.cmp .NotEq (.bi .repr (.cons (.var 5) .nil)) (.bi .repr (.cons (.var 6) .nil))) (.not (.call 18 (.cons (.var 1) (.cons (.var 4) (.cons (.var 3) .nil))))))) (.cons (.ret (.lit (.bl false))) .nil) .nil) .nil))))))
/-- law -/
def f19 : FInfo := ⟨"law", true, true, 1, ["script", "state", "turn", "m", "schedule", "told", "due"],
  (.cons (.set (.nm 1) (.call 6 (.cons (.var 0) .nil))) (.cons (.loop (.nm 2) (.rng1 (.lit (.int 3))) b19_1) (.cons (.ret (.lit (.bl true))) .nil)))⟩
/-- Storing.__init__ -/
def f20 : FInfo := ⟨"__init__", false, true, 4, ["self", "costs", "slots", "shelf"],
  (.cons (.setf (.var 0) "costs" (.var 1)) (.cons (.setf (.var 0) "slots" (.var 2)) (.cons (.setf (.var 0) "shelf" (.var 3)) (.cons (.setf (.var 0) "front" (.bi .len (.cons (.var 1) .nil))) (.cons (.setf (.var 0) "position" (.lit (.int 0))) (.cons (.setf (.var 0) "full" (.dnew false)) (.cons (.setf (.var 0) "stored" (.dnew false)) (.cons (.setf (.var 0) "cost" (.lit (.int 0))) .nil))))))))⟩
/-- Storing.reason -/
def f21 : FInfo := ⟨"reason", false, true, 2, ["self", "action", "op"],
  (.cons (.ife (.not (.call 4 (.cons (.var 1) .nil))) (.cons (.ret (.lit (.str "form"))) .nil) .nil) (.cons (.ife (.cmp .Eq (.fld (.var 0) "front") (.lit (.int 0))) (.cons (.ret (.lit (.str "done"))) .nil) .nil) (.cons (.set (.nm 2) (.ix (.var 1) (.lit (.int 0)))) (.cons (.ife (.and (.cmp .In (.var 2) (.tup (.cons (.lit (.str "keep")) (.cons (.lit (.str "restore")) .nil)))) (.cmp .GtE (.ix (.var 1) (.lit (.int 1))) (.fld (.var 0) "slots"))) (.cons (.ret (.lit (.str "slot"))) .nil) .nil) (.cons (.ife (.and (.cmp .In (.var 2) (.tup (.cons (.lit (.str "put")) (.cons (.lit (.str "fetch")) .nil)))) (.cmp .Is (.fld (.var 0) "shelf") (.lit .non))) (.cons (.ret (.lit (.str "shelf"))) .nil) .nil) (.cons (.ife (.or (.and (.cmp .Eq (.var 2) (.lit (.str "restore"))) (.cmp .NotIn (.ix (.var 1) (.lit (.int 1))) (.fld (.var 0) "full"))) (.and (.cmp .Eq (.var 2) (.lit (.str "fetch"))) (.cmp .NotIn (.ix (.var 1) (.lit (.int 1))) (.fld (.var 0) "stored")))) (.cons (.ret (.lit (.str "empty"))) .nil) .nil) (.cons (.ife (.and (.cmp .NotIn (.var 2) (.tup (.cons (.lit (.str "restore")) (.cons (.lit (.str "fetch")) .nil)))) (.cmp .Is (.fld (.var 0) "position") (.lit .non))) (.cons (.ret (.lit (.str "nowhere"))) .nil) .nil) (.cons (.ife (.and (.cmp .Eq (.var 2) (.lit (.str "advance"))) (.cmp .GtE (.bin .Add (.fld (.var 0) "position") (.ix (.var 1) (.lit (.int 1)))) (.fld (.var 0) "front"))) (.cons (.ret (.lit (.str "beyond"))) .nil) .nil) (.cons (.ife (.and (.cmp .Eq (.var 2) (.lit (.str "turn"))) (.cmp .NotEq (.fld (.var 0) "position") (.bin .Sub (.fld (.var 0) "front") (.lit (.int 1))))) (.cons (.ret (.lit (.str "turn"))) .nil) .nil) (.cons (.ret (.lit .non)) .nil))))))))))⟩
/-- Storing.perform -/
def f22 : FInfo := ⟨"perform", false, true, 2, ["self", "action", "op"],
  (.cons (.set (.nm 2) (.ix (.var 1) (.lit (.int 0)))) (.cons (.ife (.cmp .Eq (.var 2) (.lit (.str "keep"))) (.cons (.sets (.fld (.var 0) "full") (.ix (.var 1) (.lit (.int 1))) (.fld (.var 0) "position")) .nil) (.cons (.ife (.cmp .Eq (.var 2) (.lit (.str "restore"))) (.cons (.setf (.var 0) "position" (.ix (.fld (.var 0) "full") (.ix (.var 1) (.lit (.int 1))))) .nil) (.cons (.ife (.cmp .Eq (.var 2) (.lit (.str "put"))) (.cons (.sets (.fld (.var 0) "stored") (.fld (.var 0) "position") (.lit (.bl true))) (.cons (.augf (.var 0) "cost" .Add (.ix (.fld (.var 0) "shelf") (.lit (.int 0)))) .nil)) (.cons (.ife (.cmp .Eq (.var 2) (.lit (.str "fetch"))) (.cons (.setf (.var 0) "position" (.ix (.var 1) (.lit (.int 1)))) (.cons (.augf (.var 0) "cost" .Add (.ix (.fld (.var 0) "shelf") (.lit (.int 1)))) .nil)) (.cons (.ife (.cmp .Eq (.var 2) (.lit (.str "advance"))) (.cons (.augf (.var 0) "cost" .Add (.bi .sum (.cons (.slc (.fld (.var 0) "costs") (.some (.fld (.var 0) "position")) (.some (.bin .Add (.fld (.var 0) "position") (.ix (.var 1) (.lit (.int 1)))))) .nil))) (.cons (.augf (.var 0) "position" .Add (.ix (.var 1) (.lit (.int 1)))) .nil)) (.cons (.setf (.var 0) "position" (.lit .non)) (.cons (.augf (.var 0) "front" .Sub (.lit (.int 1))) .nil))) .nil)) .nil)) .nil)) .nil)) .nil))⟩
def prog : Prog := ⟨[f0, f1, f2, f3, f4, f5, f6, f7, f8, f9, f10, f11, f12, f13, f14, f15, f16, f17, f18, f19, f20, f21, f22],
  [("MAX_KEPT", (.int 8)), ("MAX_SHELVED", (.int 20)), ("MAX_COST", (.int 1000000))],
  [⟨"CountermarchError", [], [0]⟩, ⟨"ArgumentError", ["reason"], [0, 1]⟩, ⟨"ScheduleError", ["number", "reason"], [0, 2]⟩],
  [⟨"Storing", 20, [("reason", 21), ("perform", 22)], ["costs", "slots", "shelf", "front", "position", "full", "stored", "cost"]⟩],
  [⟨3, 3, [], [.pos 0, .pos 1, .pos 2, .dfl (.int (20))]⟩]⟩
def own : List Nat := [1, 2]
end K14
end
section
set_option maxRecDepth 100000
set_option linter.all false
namespace K14
open PySem Mi
theorem draw (n : Nat) (o : O) (t : Hh) (m : Int) (ho : Dr o) (h0 : 0 < m) (h1 : m < 1000000000) : ∃ r o', den prog (n + 1) 7 [.ref 0, .int m] (o :: t) = .ok (.int r) (o' :: t) ∧ 0 ≤ r ∧ r < m ∧ Dr o' := draw_ok (P := prog) (f := 7) rfl n o t m ho h0 h1
/-- an action -/
inductive Ac where
  | turn | put | adv (i : Int) | keep (i : Int) | rest (i : Int) | fetch (i : Int) | bad (k : Fin 13)
def bads : List D := [.tup [.str "put", .int 1], .tup [.str "fetch"], .tup [.str "fetch", .bl true], .tup [.str "fetch", .str "0"], .tup [.str "take", .int 1], .non, .tup [], .str "put", .tup [.str "put", .int 0, .int 0], .tup [.str "turn", .int 0],
  .tup [.str "fetch", .non], .tup [.str "put", .str "put"], .str "turn"]
def Ac.d : Ac → D
  | .turn => .tup [.str "turn"]
  | .put => .tup [.str "put"]
  | .adv i => .tup [.str "advance", .int i]
  | .keep i => .tup [.str "keep", .int i]
  | .rest i => .tup [.str "restore", .int i]
  | .fetch i => .tup [.str "fetch", .int i]
  | .bad k => bads[k.val]'k.isLt
section
variable (i : Int)
theorem Ad1 : Ac.turn.d = .tup [.str "turn"] := rfl
theorem Ad2 : Ac.put.d = .tup [.str "put"] := rfl
theorem Ad3 : (Ac.adv i).d = .tup [.str "advance", .int i] := rfl
theorem Ad4 : (Ac.keep i).d = .tup [.str "keep", .int i] := rfl
theorem Ad5 : (Ac.rest i).d = .tup [.str "restore", .int i] := rfl
theorem Ad6 : (Ac.fetch i).d = .tup [.str "fetch", .int i] := rfl
end
theorem Ab0 : (Ac.bad 0).d = .tup [.str "put", .int 1] := rfl
theorem Ab1 : (Ac.bad 1).d = .tup [.str "fetch"] := rfl
theorem Ab2 : (Ac.bad 2).d = .tup [.str "fetch", .bl true] := rfl
theorem Ab3 : (Ac.bad 3).d = .tup [.str "fetch", .str "0"] := rfl
theorem Ab4 : (Ac.bad 4).d = .tup [.str "take", .int 1] := rfl
theorem Ab5 : (Ac.bad 5).d = .non := rfl
theorem Ab6 : (Ac.bad 6).d = .tup [] := rfl
theorem Ab7 : (Ac.bad 7).d = .str "put" := rfl
theorem Ab8 : (Ac.bad 8).d = .tup [.str "put", .int 0, .int 0] := rfl
theorem Ab9 : (Ac.bad 9).d = .tup [.str "turn", .int 0] := rfl
theorem Ab10 : (Ac.bad 10).d = .tup [.str "fetch", .non] := rfl
theorem Ab11 : (Ac.bad 11).d = .tup [.str "put", .str "put"] := rfl
theorem Ab12 : (Ac.bad 12).d = .str "turn" := rfl
def Ac.form : Ac → Bool
  | .turn => true
  | .put => true
  | .adv i => decide (1 ≤ i)
  | .keep i => decide (0 ≤ i)
  | .rest i => decide (0 ≤ i)
  | .fetch i => decide (0 ≤ i)
  | .bad _ => false
def Ac.form1 : Ac → Bool
  | .put => false
  | .fetch _ => false
  | a => a.form
theorem bad_cases {p : Fin 13 → Prop} (h0 : p 0) (h1 : p 1) (h2 : p 2) (h3 : p 3) (h4 : p 4) (h5 : p 5) (h6 : p 6) (h7 : p 7) (h8 : p 8) (h9 : p 9) (h10 : p 10) (h11 : p 11) (h12 : p 12) : ∀ k, p k
  | ⟨0, _⟩ => h0 | ⟨1, _⟩ => h1 | ⟨2, _⟩ => h2 | ⟨3, _⟩ => h3 | ⟨4, _⟩ => h4 | ⟨5, _⟩ => h5 | ⟨6, _⟩ => h6 | ⟨7, _⟩ => h7 | ⟨8, _⟩ => h8 | ⟨9, _⟩ => h9 | ⟨10, _⟩ => h10 | ⟨11, _⟩ => h11 | ⟨12, _⟩ => h12
theorem at0 : prog.fns[0]? = some f0 := rfl
theorem at1 : prog.fns[1]? = some f1 := rfl
theorem at2 : prog.fns[2]? = some f2 := rfl
theorem at3 : prog.fns[3]? = some f3 := rfl
theorem at4 : prog.fns[4]? = some f4 := rfl
theorem at5 : prog.fns[5]? = some f5 := rfl
theorem at8 : prog.fns[8]? = some f8 := rfl
theorem at9 : prog.fns[9]? = some f9 := rfl
theorem at10 : prog.fns[10]? = some f10 := rfl
theorem at11 : prog.fns[11]? = some f11 := rfl
theorem at12 : prog.fns[12]? = some f12 := rfl
theorem at13 : prog.fns[13]? = some f13 := rfl
theorem at14 : prog.fns[14]? = some f14 := rfl
theorem at15 : prog.fns[15]? = some f15 := rfl
theorem at16 : prog.fns[16]? = some f16 := rfl
theorem at17 : prog.fns[17]? = some f17 := rfl
theorem at18 : prog.fns[18]? = some f18 := rfl
theorem at19 : prog.fns[19]? = some f19 := rfl
theorem at20 : prog.fns[20]? = some f20 := rfl
theorem at21 : prog.fns[21]? = some f21 := rfl
theorem at22 : prog.fns[22]? = some f22 := rfl
/-- a value of its own, nothing that refers -/
def flatD : D → Bool
  | .non => true | .bl _ => true | .int _ => true | .str _ => true | .tup _ => true | .lst _ => true | .ref _ => false | .scr _ => false
def isI : D → Bool
  | .non => false | .bl _ => false | .int _ => true | .str _ => false | .tup _ => false | .lst _ => false | .ref _ => false | .scr _ => false
theorem int0 (n : Nat) (d : D) (h : Hh) (hd : flatD d = true) : den prog (n + 1) 0 [d] h = .ok (.bl (isI d)) h := by
  rw [w_run at0 n _ _ rfl]
  cases d <;> simp [flatD] at hd <;> simp [f0, isAnyD, isD, gcD_same, isI]
def geI : D → Int → Bool
  | .int i, lo => decide (lo ≤ i)
  | .non, _ => false | .bl _, _ => false | .str _, _ => false | .tup _, _ => false | .lst _, _ => false | .ref _, _ => false | .scr _, _ => false
theorem whole9 (n : Nat) (d : D) (lo : Int) (h : Hh) (hd : flatD d = true) : den prog (n + 1) 9 [d, .int lo] h = .ok (.bl (geI d lo)) h := by
  rw [w_run at9 n _ _ rfl]
  cases d <;> simp [flatD] at hd <;> simp [f9, isAnyD, isD, gcD_same, geI]
section
variable (n : Nat) (i lo : Int) (b : Bool) (s : Str) (h : Hh)
theorem w9i : den prog (n + 1) 9 [.int i, .int lo] h = .ok (.bl (decide (lo ≤ i))) h := whole9 n (.int i) lo h rfl
theorem w9b : den prog (n + 1) 9 [.bl b, .int lo] h = .ok (.bl false) h := whole9 n (.bl b) lo h rfl
theorem w9n : den prog (n + 1) 9 [.non, .int lo] h = .ok (.bl false) h := whole9 n .non lo h rfl
theorem w9s : den prog (n + 1) 9 [.str s, .int lo] h = .ok (.bl false) h := whole9 n (.str s) lo h rfl
theorem w0i : den prog (n + 1) 0 [.int i] h = .ok (.bl true) h := int0 n (.int i) h rfl
theorem w0b : den prog (n + 1) 0 [.bl b] h = .ok (.bl false) h := int0 n (.bl b) h rfl
theorem w0n : den prog (n + 1) 0 [.non] h = .ok (.bl false) h := int0 n .non h rfl
theorem w0s : den prog (n + 1) 0 [.str s] h = .ok (.bl false) h := int0 n (.str s) h rfl
end
theorem act10 (n : Nat) (a : Ac) (h : Hh) : den prog (n + 2) 10 [a.d] h = .ok (.bl a.form) h := by
  rw [w_run at10 (n + 1) _ _ rfl]
  cases a with
  | bad k =>
    revert k
    refine bad_cases ?_ ?_ ?_ ?_ ?_ ?_ ?_ ?_ ?_ ?_ ?_ ?_ ?_ <;>
      simp [f10, Ab0, Ab1, Ab2, Ab3, Ab4, Ab5, Ab6, Ab7, Ab8, Ab9, Ab10, Ab11, Ab12, isAnyD, isD, gcD_same, w9i, w9b, w9n, w9s, eqD_str, ofStr_inj, inD_str2, inD_str3, Ac.form, flatD, geI]
  | _ => simp [f10, Ac.d, isAnyD, isD, gcD_same, w9i, w9b, w9n, w9s, eqD_str, ofStr_inj, inD_str2, inD_str3, Ac.form, flatD, geI]
theorem act1 (n : Nat) (a : Ac) (h : Hh) : den prog (n + 2) 1 [a.d] h = .ok (.bl a.form1) h := by
  rw [w_run at1 (n + 1) _ _ rfl]
  cases a with
  | bad k =>
    revert k
    refine bad_cases ?_ ?_ ?_ ?_ ?_ ?_ ?_ ?_ ?_ ?_ ?_ ?_ ?_ <;>
      simp [f1, Ab0, Ab1, Ab2, Ab3, Ab4, Ab5, Ab6, Ab7, Ab8, Ab9, Ab10, Ab11, Ab12, isAnyD, isD, gcD_same, w0i, w0b, w0n, w0s, eqD_str, ofStr_inj, inD_str2, inD_str3, Ac.form, Ac.form1, flatD, isI]
  | _ => simp [f1, Ac.d, isAnyD, isD, gcD_same, w0i, w0b, w0n, w0s, eqD_str, ofStr_inj, inD_str2, inD_str3, Ac.form, Ac.form1, flatD, isI]
theorem act4 (n : Nat) (a : Ac) (h : Hh) : den prog (n + 3) 4 [a.d] h = .ok (.bl a.form) h := by
  have w1 := act1 n a
  rw [w_run at4 (n + 2) _ _ rfl]
  cases a with
  | bad k =>
    revert w1
    revert k
    refine bad_cases ?_ ?_ ?_ ?_ ?_ ?_ ?_ ?_ ?_ ?_ ?_ ?_ ?_ <;> intro w1 <;> simp [Ab0, Ab1, Ab2, Ab3, Ab4, Ab5, Ab6, Ab7, Ab8, Ab9, Ab10, Ab11, Ab12, Ac.form1, Ac.form] at w1 <;>
      simp [f4, Ab0, Ab1, Ab2, Ab3, Ab4, Ab5, Ab6, Ab7, Ab8, Ab9, Ab10, Ab11, Ab12, isAnyD, isD, gcD_same, w0i, w0b, w0n, w0s, w1, eqD_str, ofStr_inj, Ac.form, flatD, isI]
  | turn =>
    simp [Ac.d, Ac.form1, Ac.form] at w1
    simp [f4, Ac.d, isAnyD, isD, gcD_same, w0i, w1, eqD_str, ofStr_inj, Ac.form]
  | put =>
    simp [Ac.d, Ac.form1, Ac.form] at w1
    simp [f4, Ac.d, isAnyD, isD, gcD_same, w0i, w1, eqD_str, ofStr_inj, Ac.form]
  | fetch i =>
    simp [Ac.d, Ac.form1, Ac.form] at w1
    simp [f4, Ac.d, isAnyD, isD, gcD_same, w0i, w1, eqD_str, ofStr_inj, Ac.form]
  | adv i =>
    simp [Ac.d, Ac.form1, Ac.form] at w1
    by_cases q : 1 ≤ i <;> simp [f4, Ac.d, isAnyD, isD, gcD_same, w0i, w1, eqD_str, ofStr_inj, Ac.form, q]
  | keep i =>
    simp [Ac.d, Ac.form1, Ac.form] at w1
    by_cases q : 0 ≤ i <;> simp [f4, Ac.d, isAnyD, isD, gcD_same, w0i, w1, eqD_str, ofStr_inj, Ac.form, q]
  | rest i =>
    simp [Ac.d, Ac.form1, Ac.form] at w1
    by_cases q : 0 ≤ i <;> simp [f4, Ac.d, isAnyD, isD, gcD_same, w0i, w1, eqD_str, ofStr_inj, Ac.form, q]
end K14
end
section
set_option maxRecDepth 100000
set_option linter.all false
namespace K14
open PySem Mi
structure M where
  pos : Int
  front : Int
  full : List (L2.Key × D)
  store : List Int
  cost : Int
abbrev Sh := Option (Int × Int)
def shD : Sh → D
  | none => .non
  | some (a, b) => .tup [.int a, .int b]
def mkM (cs : List Int) (sl : Int) (sh : Sh) (m : M) (q q3 : Nat) : List (L2.Key × D) :=
  [(.inr "costs", .tup (cs.map .int)), (.inr "slots", .int sl), (.inr "shelf", shD sh), (.inr "place", .int m.pos), (.inr "front", .int m.front), (.inr "full", .ref q), (.inr "store", .ref q3), (.inr "cost", .int m.cost)]
section
variable (cs : List Int) (sl : Int) (sh : Sh) (m : M) (q q3 : Nat)
theorem g1 : dget (.dct (mkM cs sl sh m q q3)) (.str "costs") = some (some (.tup (cs.map .int))) := by kernel_rfl
theorem g2 : dget (.dct (mkM cs sl sh m q q3)) (.str "slots") = some (some (.int sl)) := by kernel_rfl
theorem g3 : dget (.dct (mkM cs sl sh m q q3)) (.str "place") = some (some (.int m.pos)) := by kernel_rfl
theorem g4 : dget (.dct (mkM cs sl sh m q q3)) (.str "front") = some (some (.int m.front)) := by kernel_rfl
theorem g5 : dget (.dct (mkM cs sl sh m q q3)) (.str "full") = some (some (.ref q)) := by kernel_rfl
theorem g6 : dget (.dct (mkM cs sl sh m q q3)) (.str "cost") = some (some (.int m.cost)) := by kernel_rfl
theorem g7 : dget (.dct (mkM cs sl sh m q q3)) (.str "shelf") = some (some (shD sh)) := by kernel_rfl
theorem g8 : dget (.dct (mkM cs sl sh m q q3)) (.str "store") = some (some (.ref q3)) := by kernel_rfl
theorem p1 (v : Int) : dput (.dct (mkM cs sl sh m q q3)) (.str "place") (.int v) = some (.dct (mkM cs sl sh { m with pos := v } q q3)) := by kernel_rfl
theorem p2 (v : Int) : dput (.dct (mkM cs sl sh m q q3)) (.str "front") (.int v) = some (.dct (mkM cs sl sh { m with front := v } q q3)) := by kernel_rfl
theorem p3 (v : Int) : dput (.dct (mkM cs sl sh m q q3)) (.str "cost") (.int v) = some (.dct (mkM cs sl sh { m with cost := v } q q3)) := by kernel_rfl
end
def reasonM (sl : Int) (sh : Sh) (m : M) (a : Ac) : D :=
  if a.form = false then .str "form" else if m.front = 0 then .str "done" else match a with
  | .keep i => if sl ≤ i then .str "slot" else if m.pos < 0 then .str "nowhere" else .non
  | .rest i => if sl ≤ i then .str "slot" else if (getK m.full (.inl i)).isSome = true then .non else .str "empty"
  | .put => if sh = none then .str "shelf" else if m.pos < 0 then .str "nowhere" else .non
  | .fetch i => if sh = none then .str "shelf" else if i ∈ m.store then .non else .str "empty"
  | .adv i => if m.pos < 0 then .str "nowhere" else if m.front ≤ m.pos + i then .str "beyond" else .non
  | .turn => if m.pos < 0 then .str "nowhere" else if m.pos = m.front - 1 then .non else .str "turn"
  | .bad _ => .str "form"
/-- the law's dict stands at q, its own at q2, its list at q3 -/
structure At (cs : List Int) (sl : Int) (sh : Sh) (m : M) (q q2 q3 : Nat) (h : Hh) : Prop where
  a1 : h[q]? = some (.dct (mkM cs sl sh m q2 q3))
  a2 : h[q2]? = some (.dct m.full)
  a3 : h[q3]? = some (.lst (m.store.map .int))
theorem isNone_sh (sh : Sh) : isNone (shD sh) = decide (sh = none) := by
  cases sh with
  | none => rfl
  | some p => rfl
theorem reason11 (n : Nat) (cs : List Int) (sl : Int) (sh : Sh) (m : M) (q q2 q3 : Nat) (h : Hh) (a : Ac) (A : At cs sl sh m q q2 q3 h) :
    den prog (n + 3) 11 [.ref q, a.d] h = .ok (reasonM sl sh m a) h := by
  have w := act10 n a
  rw [w_run at11 (n + 2) _ _ rfl]
  have k2 := ixD_dct A.a1 (.str "slots") (g2 cs sl sh m q2 q3)
  have k3 := ixD_dct A.a1 (.str "place") (g3 cs sl sh m q2 q3)
  have k4 := ixD_dct A.a1 (.str "front") (g4 cs sl sh m q2 q3)
  have k5 := ixD_dct A.a1 (.str "full") (g5 cs sl sh m q2 q3)
  have k7 := ixD_dct A.a1 (.str "shelf") (g7 cs sl sh m q2 q3)
  have k8 := ixD_dct A.a1 (.str "store") (g8 cs sl sh m q2 q3)
  have i7 := inD_dct (h := h) A.a2
  have i8 (i : Int) : inD h (.int i) (.ref q3) = some (decide (i ∈ m.store)) := by rw [inD_lst A.a3]; exact inL_ints _ _
  by_cases hf : a.form = true
  · by_cases h0 : m.front = 0
    · simp [f11, w, reasonM, gcD_same, k4, hf, h0]
    · cases a with
      | turn =>
        simp [Ac.d, Ac.form] at w
        by_cases c1 : m.pos < 0
        · simp [f11, w, reasonM, gcD_same, k2, k3, k4, k5, k7, k8, i7, i8, Ac.form, h0, Ac.d, c1, eqD_str, ofStr_inj, inD_str2]
        · by_cases c2 : m.pos = m.front - 1
          · have c3 : ¬(m.front - 1 < 0) := by omega
            simp [f11, w, reasonM, gcD_same, k2, k3, k4, k5, k7, k8, i7, i8, Ac.form, h0, Ac.d, c2, c3, eqD_str, ofStr_inj, inD_str2]
          · simp [f11, w, reasonM, gcD_same, k2, k3, k4, k5, k7, k8, i7, i8, Ac.form, h0, Ac.d, c1, c2, eqD_str, ofStr_inj, inD_str2]
      | put =>
        simp [Ac.d, Ac.form] at w
        by_cases c1 : sh = none <;> by_cases c2 : m.pos < 0 <;> simp [f11, w, reasonM, gcD_same, k2, k3, k4, k5, k7, k8, i7, i8, Ac.form, h0, Ac.d, c1, c2, eqD_str, ofStr_inj, inD_str2, isNone_sh]
      | adv i =>
        simp [Ac.d, Ac.form] at w hf
        by_cases c1 : m.pos < 0 <;> by_cases c2 : m.front ≤ m.pos + i <;> simp [f11, w, reasonM, gcD_same, k2, k3, k4, k5, k7, k8, i7, i8, Ac.form, h0, Ac.d, hf, c1, c2, eqD_str, ofStr_inj, inD_str2]
      | keep i =>
        simp [Ac.d, Ac.form] at w hf
        by_cases c1 : sl ≤ i <;> by_cases c2 : m.pos < 0 <;> simp [f11, w, reasonM, gcD_same, k2, k3, k4, k5, k7, k8, i7, i8, Ac.form, h0, Ac.d, hf, c1, c2, eqD_str, ofStr_inj, inD_str2]
      | rest i =>
        simp [Ac.d, Ac.form] at w hf
        by_cases c1 : sl ≤ i <;> by_cases c2 : (getK m.full (.inl i)).isSome = true <;> simp [f11, w, reasonM, gcD_same, k2, k3, k4, k5, k7, k8, i7, i8, Ac.form, h0, Ac.d, hf, c1, c2, eqD_str, ofStr_inj, inD_str2]
      | fetch i =>
        simp [Ac.d, Ac.form] at w hf
        by_cases c1 : sh = none <;> by_cases c2 : i ∈ m.store <;> simp [f11, w, reasonM, gcD_same, k2, k3, k4, k5, k7, k8, i7, i8, Ac.form, h0, Ac.d, hf, c1, c2, eqD_str, ofStr_inj, inD_str2, isNone_sh]
      | bad k => exact absurd hf (by simp [Ac.form])
  · simp [f11, w, reasonM, gcD_same, hf]
end K14
end
section
set_option maxRecDepth 100000
set_option linter.all false
namespace K14
open PySem Mi
def intV : Option D → Int
  | some (.int v) => v
  | _ => 0
def shA : Sh → Int
  | some (a, _) => a
  | none => 0
def shB : Sh → Int
  | some (_, b) => b
  | none => 0
def performM (cs : List Int) (sh : Sh) (m : M) : Ac → M
  | .keep i => { m with full := putK m.full (.inl i) (.int m.pos) }
  | .rest i => { m with pos := intV (getK m.full (.inl i)) }
  | .put => { m with store := m.store ++ [m.pos], cost := m.cost + shA sh }
  | .fetch i => { m with pos := i, cost := m.cost + shB sh }
  | .adv i => { m with cost := m.cost + (cutD cs (some m.pos) (some (m.pos + i))).sum, pos := m.pos + i }
  | .turn => { m with front := m.front - 1, pos := -1 }
  | .bad _ => m
/-- what always holds of a state -/
structure InvM (cs : List Int) (m : M) : Prop where
  p0 : -1 ≤ m.pos
  p1 : m.pos ≤ cs.length
  f0 : 0 ≤ m.front
  f1 : m.front ≤ cs.length
  fu : ∀ kv ∈ m.full, ∃ v, kv.2 = .int v ∧ 0 ≤ v ∧ v ≤ cs.length
  st : ∀ v ∈ m.store, 0 ≤ v ∧ v ≤ cs.length
def m0 (cs : List Int) : M := ⟨0, cs.length, [], [], 0⟩
theorem InvM.zero (cs : List Int) : InvM cs (m0 cs) := ⟨by simp [m0], by simp [m0], by simp [m0], by simp [m0], (fun _ h => nomatch h), fun _ h => nomatch h⟩
theorem fu_put {n : Nat} {kvs : List (L2.Key × D)} (f : ∀ kv ∈ kvs, ∃ v, kv.2 = .int v ∧ 0 ≤ v ∧ v ≤ n) (k : L2.Key) (v : Int) (h0 : 0 ≤ v) (h1 : v ≤ n) :
    ∀ kv ∈ putK kvs k (.int v), ∃ v, kv.2 = .int v ∧ 0 ≤ v ∧ v ≤ n := by
  unfold putK
  split
  · intro kv hk
    obtain ⟨x, hx, rfl⟩ := List.mem_map.mp hk
    split
    · exact ⟨v, rfl, h0, h1⟩
    · exact f x hx
  · intro kv hk
    rcases List.mem_append.mp hk with hk | hk
    · exact f kv hk
    · rw [List.mem_singleton.mp hk]; exact ⟨v, rfl, h0, h1⟩
theorem get_bound {n : Nat} {kvs : List (L2.Key × D)} (f : ∀ kv ∈ kvs, ∃ v, kv.2 = .int v ∧ 0 ≤ v ∧ v ≤ n) (k : L2.Key) : 0 ≤ intV (getK kvs k) ∧ intV (getK kvs k) ≤ n := by
  unfold getK
  cases e : kvs.find? fun kv => decide (kv.1 = k) with
  | none => simp [intV]
  | some kv =>
    obtain ⟨v, ev, h0, h1⟩ := f kv (List.mem_of_find?_eq_some e)
    simp [ev, intV, h0, h1]
theorem getK_int {n : Nat} {kvs : List (L2.Key × D)} (f : ∀ kv ∈ kvs, ∃ v, kv.2 = .int v ∧ 0 ≤ v ∧ v ≤ n) {k : L2.Key} (hk : (getK kvs k).isSome = true) : getK kvs k = some (.int (intV (getK kvs k))) := by
  unfold getK at hk ⊢
  cases e : kvs.find? fun kv => decide (kv.1 = k) with
  | none => rw [e] at hk; exact nomatch hk
  | some kv =>
    obtain ⟨v, ev, _⟩ := f kv (List.mem_of_find?_eq_some e)
    simp [ev, intV]
/-- what an action that is not refused says -/
theorem calm_of {sl : Int} {sh : Sh} {m : M} {a : Ac} (hr : reasonM sl sh m a = .non) : a.form = true ∧ m.front ≠ 0 ∧ match a with
  | .keep i => ¬(sl ≤ i) ∧ ¬(m.pos < 0)
  | .rest i => ¬(sl ≤ i) ∧ (getK m.full (.inl i)).isSome = true
  | .put => sh ≠ none ∧ ¬(m.pos < 0)
  | .fetch i => sh ≠ none ∧ i ∈ m.store
  | .adv i => ¬(m.pos < 0) ∧ ¬(m.front ≤ m.pos + i)
  | .turn => ¬(m.pos < 0) ∧ m.pos = m.front - 1
  | .bad _ => False := by
  unfold reasonM at hr
  split at hr
  · exact nomatch hr
  next hf =>
  split at hr
  · exact nomatch hr
  next h0 =>
  refine ⟨by simpa using hf, h0, ?_⟩
  cases a <;> simp only at hr ⊢
  case bad => cases hr
  all_goals
    split at hr
    · cases hr
    · split at hr
      · first
          | (cases hr; done)
          | exact ⟨by assumption, by assumption⟩
      · first
          | (cases hr; done)
          | exact ⟨by assumption, by assumption⟩
theorem InvM.perform {cs : List Int} {sl : Int} {sh : Sh} {m : M} (i : InvM cs m) (a : Ac) (hr : reasonM sl sh m a = .non) : InvM cs (performM cs sh m a) := by
  obtain ⟨a1, a2, a3, a4, a5, a6⟩ := i
  obtain ⟨hf, h0, k⟩ := calm_of hr
  cases a with
  | turn => exact ⟨by simp only [performM]; omega, by simp only [performM]; omega, by simp only [performM]; omega, by simp only [performM]; omega, a5, a6⟩
  | put =>
    refine ⟨a1, a2, a3, a4, a5, fun v hv => ?_⟩
    simp only [performM] at hv
    rcases List.mem_append.mp hv with hv | hv
    · exact a6 v hv
    · rw [List.mem_singleton.mp hv]; exact ⟨by omega, a2⟩
  | keep i => exact ⟨a1, a2, a3, a4, fu_put a5 _ _ (by simp only at k; omega) a2, a6⟩
  | rest i =>
    have := get_bound a5 (.inl i)
    exact ⟨by simp only [performM]; omega, this.2, a3, a4, a5, a6⟩
  | fetch i =>
    have := a6 i k.2
    exact ⟨by simp only [performM]; omega, this.2, a3, a4, a5, a6⟩
  | adv i =>
    simp [Ac.form] at hf
    simp only at k
    exact ⟨by simp only [performM]; omega, by simp only [performM]; omega, a3, a4, a5, a6⟩
  | bad k => exact k.elim
theorem At.lt1 {cs : List Int} {sl : Int} {sh : Sh} {m : M} {q q2 q3 : Nat} {h : Hh} (A : At cs sl sh m q q2 q3 h) : q < h.length := (List.getElem?_eq_some_iff.mp A.a1).1
theorem At.lt2 {cs : List Int} {sl : Int} {sh : Sh} {m : M} {q q2 q3 : Nat} {h : Hh} (A : At cs sl sh m q q2 q3 h) : q2 < h.length := (List.getElem?_eq_some_iff.mp A.a2).1
theorem At.lt3 {cs : List Int} {sl : Int} {sh : Sh} {m : M} {q q2 q3 : Nat} {h : Hh} (A : At cs sl sh m q q2 q3 h) : q3 < h.length := (List.getElem?_eq_some_iff.mp A.a3).1
/-- the dict's own ints are written -/
theorem At.upd {cs : List Int} {sl : Int} {sh : Sh} {m : M} {q q2 q3 : Nat} {h : Hh} (A : At cs sl sh m q q2 q3 h) (m' : M) (n2 : q ≠ q2) (n3 : q ≠ q3) (e1 : m'.full = m.full) (e2 : m'.store = m.store) : At cs sl sh m' q q2 q3 (h.set q (.dct (mkM cs sl sh m' q2 q3))) := by
  refine ⟨by simp [A.lt1], ?_, ?_⟩
  · rw [List.getElem?_set_ne n2, e1]; exact A.a2
  · rw [List.getElem?_set_ne n3, e2]; exact A.a3
theorem perform12 (n : Nat) (cs : List Int) (sl : Int) (sh : Sh) (m : M) (q q2 q3 : Nat) (h : Hh) (a : Ac) (A : At cs sl sh m q q2 q3 h) (n2 : q ≠ q2) (n3 : q ≠ q3) (n4 : q2 ≠ q3) (i : InvM cs m) (l1 : m.full.length < sizeLine) (l2 : m.store.length < sizeLine)
    (hr : reasonM sl sh m a = .non) :
    ∃ h', den prog (n + 1) 12 [.ref q, a.d] h = .ok .non h' ∧ h'.length = h.length ∧ At cs sl sh (performM cs sh m a) q q2 q3 h' ∧ ∀ j, j ≠ q → j ≠ q2 → j ≠ q3 → h'[j]? = h[j]? := by
  rw [w_run at12 n _ _ rfl]
  obtain ⟨hf, h0, k⟩ := calm_of hr
  have k1 := ixD_dct A.a1 (.str "costs") (g1 cs sl sh m q2 q3)
  have k3 := ixD_dct A.a1 (.str "place") (g3 cs sl sh m q2 q3)
  have k4 := ixD_dct A.a1 (.str "front") (g4 cs sl sh m q2 q3)
  have k5 := ixD_dct A.a1 (.str "full") (g5 cs sl sh m q2 q3)
  have k6 := ixD_dct A.a1 (.str "cost") (g6 cs sl sh m q2 q3)
  have k7 := ixD_dct A.a1 (.str "shelf") (g7 cs sl sh m q2 q3)
  have k8 := ixD_dct A.a1 (.str "store") (g8 cs sl sh m q2 q3)
  cases a with
  | keep i =>
    refine ⟨h.set q2 (.dct (putK m.full (.inl i) (.int m.pos))), ?_, by simp, ⟨?_, by simp [A.lt2, performM], ?_⟩, ?_⟩
    · have := setD_dct A.a2 (.int i) (.int m.pos) (o := .dct (putK m.full (.inl i) (.int m.pos))) (by
        show (if m.full.length < sizeLine then _ else none) = _
        rw [if_pos l1]; rfl)
      simp [f12, Ad4, k3, k5, this, gcD_len, eqD_str, ofStr_inj]
    · rw [List.getElem?_set_ne (Ne.symm n2)]; exact A.a1
    · rw [List.getElem?_set_ne n4]; exact A.a3
    · exact fun j _ j2 _ => List.getElem?_set_ne (Ne.symm j2)
  | rest i' =>
    have kk := ixD_dct A.a2 (.int i') (d := .int (intV (getK m.full (.inl i')))) (by
      show some (getK m.full (.inl i')) = _
      rw [← getK_int i.fu k.2])
    refine ⟨_, ?_, ?_, A.upd (performM cs sh m (.rest i')) n2 n3 rfl rfl, fun j j1 _ _ => List.getElem?_set_ne (Ne.symm j1)⟩
    · have := setD_dct A.a1 (.str "place") (.int (intV (getK m.full (.inl i')))) (p1 cs sl sh m q2 q3 _)
      simp [f12, Ad5, k5, kk, this, gcD_len, eqD_str, ofStr_inj, performM]
    · simp
  | put =>
    obtain ⟨⟨x, y⟩, rfl⟩ := Option.ne_none_iff_exists'.mp k.1
    let m1 : M := { m with cost := m.cost + x }
    have A1 := A.upd m1 n2 n3 rfl rfl
    have s1 := setD_dct A.a1 (.str "cost") (.int (m.cost + x)) (p3 cs sl _ m q2 q3 _)
    have r8 := ixD_dct A1.a1 (.str "store") (g8 cs sl _ m1 q2 q3)
    have r3 := ixD_dct A1.a1 (.str "place") (g3 cs sl _ m1 q2 q3)
    have bt := bmT_lst A1.a3 .append
    have bd := bm_append A1.a3 (by rw [List.length_map]; exact l2) (.int m.pos)
    refine ⟨(h.set q (.dct (mkM cs sl (some (x, y)) m1 q2 q3))).set q3 (.lst (m.store.map .int ++ [.int m.pos])), ?_, by simp, ⟨?_, ?_, ?_⟩, ?_⟩
    · simp [f12, Ad2, k6, k7, shD, s1, r8, r3, bt, bd, gcD_len, eqD_str, ofStr_inj, m1]
    · rw [List.getElem?_set_ne (Ne.symm n3)]; exact A1.a1
    · rw [List.getElem?_set_ne (Ne.symm n4)]; exact A1.a2
    · simp [A.lt3, performM]
    · intro j j1 _ j3
      rw [List.getElem?_set_ne (Ne.symm j3), List.getElem?_set_ne (Ne.symm j1)]
  | fetch i' =>
    obtain ⟨⟨x, y⟩, rfl⟩ := Option.ne_none_iff_exists'.mp k.1
    let m1 : M := { m with cost := m.cost + y }
    have A1 := A.upd m1 n2 n3 rfl rfl
    have s1 := setD_dct A.a1 (.str "cost") (.int (m.cost + y)) (p3 cs sl _ m q2 q3 _)
    have s2 := setD_dct A1.a1 (.str "place") (.int i') (p1 cs sl _ m1 q2 q3 _)
    refine ⟨h.set q (.dct (mkM cs sl (some (x, y)) (performM cs (some (x, y)) m (.fetch i')) q2 q3)), ?_, by simp, A.upd _ n2 n3 rfl rfl, fun j j1 _ _ => List.getElem?_set_ne (Ne.symm j1)⟩
    simp [m1] at s2
    simp [f12, Ad6, k6, k7, shD, s1, s2, gcD_len, eqD_str, ofStr_inj, performM, shB]
  | adv i' =>
    let m1 : M := { m with cost := m.cost + (cutD cs (some m.pos) (some (m.pos + i'))).sum }
    have A1 := A.upd m1 n2 n3 rfl rfl
    have s1 := setD_dct A.a1 (.str "cost") (.int (m.cost + (cutD cs (some m.pos) (some (m.pos + i'))).sum)) (p3 cs sl sh m q2 q3 _)
    have r3 := ixD_dct A1.a1 (.str "place") (g3 cs sl sh m1 q2 q3)
    have s2 := setD_dct A1.a1 (.str "place") (.int (m.pos + i')) (p1 cs sl sh m1 q2 q3 _)
    refine ⟨h.set q (.dct (mkM cs sl sh (performM cs sh m (.adv i')) q2 q3)), ?_, by simp, A.upd _ n2 n3 rfl rfl, fun j j1 _ _ => List.getElem?_set_ne (Ne.symm j1)⟩
    simp [m1] at s2 r3
    simp [f12, Ad3, k1, k3, k6, cutD_map, biD_sum_tup, s1, r3, s2, gcD_len, eqD_str, ofStr_inj, performM]
  | turn =>
    let m1 : M := { m with front := m.front - 1 }
    have A1 := A.upd m1 n2 n3 rfl rfl
    have s1 := setD_dct A.a1 (.str "front") (.int (m.front - 1)) (p2 cs sl sh m q2 q3 _)
    have s2 := setD_dct A1.a1 (.str "place") (.int (-1)) (p1 cs sl sh m1 q2 q3 _)
    refine ⟨h.set q (.dct (mkM cs sl sh (performM cs sh m .turn) q2 q3)), ?_, by simp, A.upd _ n2 n3 rfl rfl, fun j j1 _ _ => List.getElem?_set_ne (Ne.symm j1)⟩
    simp [m1] at s2
    simp [f12, Ad1, k4, s1, s2, gcD_len, eqD_str, ofStr_inj, performM]
  | bad k' => exact k.elim
end K14
end
section
set_option maxRecDepth 100000
set_option linter.all false
namespace K14
open PySem Mi
def posD (p : Int) : D := if p < 0 then .non else .int p
def storeK (l : List Int) : List (L2.Key × D) := l.foldl (fun d p => putK d (.inl p) (.bl true)) []
theorem snoc_ind {α : Type} {p : List α → Prop} (h0 : p []) (hs : ∀ l a, p l → p (l ++ [a])) (l : List α) : p l := by
  rw [← List.reverse_reverse l]
  generalize l.reverse = r
  induction r with
  | nil => exact h0
  | cons a r ih => simpa using hs _ a ih
theorem storeK_snoc (l : List Int) (p : Int) : storeK (l ++ [p]) = putK (storeK l) (.inl p) (.bl true) := by simp [storeK]
theorem storeK_in (l : List Int) (i : Int) : (getK (storeK l) (.inl i)).isSome = decide (i ∈ l) := by
  induction l using snoc_ind with
  | h0 => simp [storeK, getK]
  | hs l p ih =>
    rw [storeK_snoc, getK_put]
    by_cases e : i = p
    · simp [e]
    · have : ¬((Sum.inl i : L2.Key) = Sum.inl p) := fun z => e (Sum.inl.inj z)
      rw [if_neg this, ih]
      simp [e]
theorem storeK_len (l : List Int) : (storeK l).length ≤ l.length := by
  induction l using snoc_ind with
  | h0 => simp [storeK]
  | hs l p ih =>
    rw [storeK_snoc]
    have := put_len (storeK l) (.inl p : L2.Key) (.bl true)
    simp
    omega
def mkS (cs : List Int) (sl : Int) (sh : Sh) (m : M) (q q3 : Nat) : List (Str × D) :=
  [("costs", .tup (cs.map .int)), ("slots", .int sl), ("shelf", shD sh), ("front", .int m.front), ("position", posD m.pos), ("full", .ref q), ("stored", .ref q3), ("cost", .int m.cost)]
section
variable (cs : List Int) (sl : Int) (sh : Sh) (m : M) (q q3 : Nat)
theorem l1 : (mkS cs sl sh m q q3).lookup ("costs" : Str) = some (.tup (cs.map .int)) := by kernel_rfl
theorem l2 : (mkS cs sl sh m q q3).lookup ("slots" : Str) = some (.int sl) := by kernel_rfl
theorem l3 : (mkS cs sl sh m q q3).lookup ("position" : Str) = some (posD m.pos) := by kernel_rfl
theorem l4 : (mkS cs sl sh m q q3).lookup ("front" : Str) = some (.int m.front) := by kernel_rfl
theorem l5 : (mkS cs sl sh m q q3).lookup ("full" : Str) = some (.ref q) := by kernel_rfl
theorem l6 : (mkS cs sl sh m q q3).lookup ("cost" : Str) = some (.int m.cost) := by kernel_rfl
theorem l7 : (mkS cs sl sh m q q3).lookup ("shelf" : Str) = some (shD sh) := by kernel_rfl
theorem l8 : (mkS cs sl sh m q q3).lookup ("stored" : Str) = some (.ref q3) := by kernel_rfl
theorem m1' : (mkS cs sl sh m q q3).lookup ("reason" : Str) = none := by kernel_rfl
theorem m2' : (mkS cs sl sh m q q3).lookup ("perform" : Str) = none := by kernel_rfl
theorem t1 (v : Int) (hv : 0 ≤ v) : putF ("position" : Str) (.int v) (mkS cs sl sh m q q3) = mkS cs sl sh { m with pos := v } q q3 := by
  have : posD v = .int v := if_neg (by omega)
  have e : putF ("position" : Str) (posD v) (mkS cs sl sh m q q3) = mkS cs sl sh { m with pos := v } q q3 := by kernel_rfl
  rw [← this]; exact e
theorem t1n : putF ("position" : Str) .non (mkS cs sl sh m q q3) = mkS cs sl sh { m with pos := -1 } q q3 := by kernel_rfl
theorem t2 (v : Int) : putF ("front" : Str) (.int v) (mkS cs sl sh m q q3) = mkS cs sl sh { m with front := v } q q3 := by kernel_rfl
theorem t3 (v : Int) : putF ("cost" : Str) (.int v) (mkS cs sl sh m q q3) = mkS cs sl sh { m with cost := v } q q3 := by kernel_rfl
theorem mkS_len : (mkS cs sl sh m q q3).length < 1000 := by simp [mkS]
end
theorem cl0 : prog.inss[0]? = some ⟨"Storing", 20, [("reason", 21), ("perform", 22)], ["costs", "slots", "shelf", "front", "position", "full", "stored", "cost"]⟩ := rfl
/-- the program's object stands at q, its dicts at q2, q3 -/
structure Ob (cs : List Int) (sl : Int) (sh : Sh) (m : M) (q q2 q3 : Nat) (h : Hh) : Prop where
  a1 : h[q]? = some (.ins 0 (mkS cs sl sh m q2 q3))
  a2 : h[q2]? = some (.dct m.full)
  a3 : h[q3]? = some (.dct (storeK m.store))
theorem posN {p : Int} (h : p < 0) : posD p = .non := if_pos h
theorem posI {p : Int} (h : ¬(p < 0)) : posD p = .int p := if_neg h
theorem isNone_pos (p : Int) : isNone (posD p) = decide (p < 0) := by
  unfold posD
  split <;> simp [isNone, *]
theorem reason21 (n : Nat) (cs : List Int) (sl : Int) (sh : Sh) (m : M) (q q2 q3 : Nat) (h : Hh) (a : Ac) (A : Ob cs sl sh m q q2 q3 h) :
    den prog (n + 4) 21 [.ref q, a.d] h = .ok (reasonM sl sh m a) h := by
  have w := act4 n a
  rw [w_run at21 (n + 3) _ _ rfl]
  have k (f : Str) := fldL_ins A.a1 f
  have i7 := inD_dct (h := h) A.a2
  have i8 := inD_dct (h := h) A.a3
  by_cases hf : a.form = true
  · by_cases h0 : m.front = 0
    · simp [f21, w, reasonM, gcD_same, k, l4, hf, h0]
    · cases a with
      | turn =>
        simp [Ac.d, Ac.form] at w
        by_cases c1 : m.pos < 0
        · simp [f21, w, reasonM, gcD_same, k, l2, l3, l4, l5, l7, l8, i7, i8, Ac.form, h0, Ac.d, c1, eqD_str, ofStr_inj, inD_str2, isNone_pos]
        · have e := posI c1
          by_cases c2 : m.pos = m.front - 1
          · have c3 : ¬(m.front - 1 < 0) := by omega
            have e3 := posI c3
            simp [f21, w, reasonM, gcD_same, k, l2, l3, l4, l5, l7, l8, i7, i8, Ac.form, h0, Ac.d, c2, c3, e3, eqD_str, ofStr_inj, inD_str2, isNone]
          · simp [f21, w, reasonM, gcD_same, k, l2, l3, l4, l5, l7, l8, i7, i8, Ac.form, h0, Ac.d, c1, c2, e, eqD_str, ofStr_inj, inD_str2, isNone]
      | put =>
        simp [Ac.d, Ac.form] at w
        by_cases c1 : sh = none <;> by_cases c2 : m.pos < 0 <;> simp [f21, w, reasonM, gcD_same, k, l2, l3, l4, l5, l7, l8, i7, i8, Ac.form, h0, Ac.d, c1, c2, eqD_str, ofStr_inj, inD_str2, isNone_sh, isNone_pos]
      | adv i =>
        simp [Ac.d, Ac.form] at w hf
        by_cases c1 : m.pos < 0
        · simp [f21, w, reasonM, gcD_same, k, l2, l3, l4, l5, l7, l8, i7, i8, Ac.form, h0, Ac.d, hf, c1, eqD_str, ofStr_inj, inD_str2, isNone_pos]
        · have e := posI c1
          by_cases c2 : m.front ≤ m.pos + i <;> simp [f21, w, reasonM, gcD_same, k, l2, l3, l4, l5, l7, l8, i7, i8, Ac.form, h0, Ac.d, hf, c1, c2, e, eqD_str, ofStr_inj, inD_str2, isNone]
      | keep i =>
        simp [Ac.d, Ac.form] at w hf
        by_cases c1 : sl ≤ i <;> by_cases c2 : m.pos < 0 <;> simp [f21, w, reasonM, gcD_same, k, l2, l3, l4, l5, l7, l8, i7, i8, Ac.form, h0, Ac.d, hf, c1, c2, eqD_str, ofStr_inj, inD_str2, isNone_pos]
      | rest i =>
        simp [Ac.d, Ac.form] at w hf
        by_cases c1 : sl ≤ i <;> by_cases c2 : (getK m.full (.inl i)).isSome = true <;> simp [f21, w, reasonM, gcD_same, k, l2, l3, l4, l5, l7, l8, i7, i8, Ac.form, h0, Ac.d, hf, c1, c2, eqD_str, ofStr_inj, inD_str2]
      | fetch i =>
        simp [Ac.d, Ac.form] at w hf
        by_cases c1 : sh = none <;> by_cases c2 : i ∈ m.store <;> simp [f21, w, reasonM, gcD_same, k, l2, l3, l4, l5, l7, l8, i7, i8, storeK_in, Ac.form, h0, Ac.d, hf, c1, c2, eqD_str, ofStr_inj, inD_str2, isNone_sh]
      | bad k => exact absurd hf (by simp [Ac.form])
  · simp [f21, w, reasonM, gcD_same, hf]
theorem Ob.lt1 {cs : List Int} {sl : Int} {sh : Sh} {m : M} {q q2 q3 : Nat} {h : Hh} (A : Ob cs sl sh m q q2 q3 h) : q < h.length := (List.getElem?_eq_some_iff.mp A.a1).1
theorem Ob.lt2 {cs : List Int} {sl : Int} {sh : Sh} {m : M} {q q2 q3 : Nat} {h : Hh} (A : Ob cs sl sh m q q2 q3 h) : q2 < h.length := (List.getElem?_eq_some_iff.mp A.a2).1
theorem Ob.lt3 {cs : List Int} {sl : Int} {sh : Sh} {m : M} {q q2 q3 : Nat} {h : Hh} (A : Ob cs sl sh m q q2 q3 h) : q3 < h.length := (List.getElem?_eq_some_iff.mp A.a3).1
theorem Ob.upd {cs : List Int} {sl : Int} {sh : Sh} {m : M} {q q2 q3 : Nat} {h : Hh} (A : Ob cs sl sh m q q2 q3 h) (m' : M) (n2 : q ≠ q2) (n3 : q ≠ q3) (e1 : m'.full = m.full) (e2 : m'.store = m.store) : Ob cs sl sh m' q q2 q3 (h.set q (.ins 0 (mkS cs sl sh m' q2 q3))) := by
  refine ⟨by simp [A.lt1], ?_, ?_⟩
  · rw [List.getElem?_set_ne n2, e1]; exact A.a2
  · rw [List.getElem?_set_ne n3, e2]; exact A.a3
end K14
end
section
set_option maxRecDepth 100000
set_option linter.all false
namespace K14
open PySem Mi
theorem fl (f : Str) (h : f = "costs" ∨ f = "slots" ∨ f = "shelf" ∨ f = "front" ∨ f = "position" ∨ f = "full" ∨ f = "stored" ∨ f = "cost") : f ∈ (["costs", "slots", "shelf", "front", "position", "full", "stored", "cost"] : List Str) := by
  rcases h with h | h | h | h | h | h | h | h <;> simp [h]
theorem putK_dput (kvs : List (L2.Key × D)) (hl : kvs.length < sizeLine) (i : Int) (d : D) : dput (.dct kvs) (.int i) d = some (.dct (putK kvs (.inl i) d)) := by
  show (if kvs.length < sizeLine then _ else none) = _
  rw [if_pos hl]
  rfl
theorem perform22 (n : Nat) (cs : List Int) (sl : Int) (sh : Sh) (m : M) (q q2 q3 : Nat) (h : Hh) (a : Ac) (A : Ob cs sl sh m q q2 q3 h) (n2 : q ≠ q2) (n3 : q ≠ q3) (n4 : q2 ≠ q3) (i : InvM cs m) (hl1 : m.full.length < sizeLine) (hl2 : m.store.length < sizeLine)
    (hr : reasonM sl sh m a = .non) :
    ∃ h', den prog (n + 1) 22 [.ref q, a.d] h = .ok .non h' ∧ h'.length = h.length ∧ Ob cs sl sh (performM cs sh m a) q q2 q3 h' ∧ ∀ j, j ≠ q → j ≠ q2 → j ≠ q3 → h'[j]? = h[j]? := by
  rw [w_run at22 n _ _ rfl]
  obtain ⟨hf, h0, kk⟩ := calm_of hr
  have k (f : Str) := fldL_ins A.a1 f
  have sf (f : Str) (hf : f ∈ (["costs", "slots", "shelf", "front", "position", "full", "stored", "cost"] : List Str)) (env : Mi.Env) (d : D) := setfL_ins A.a1 cl0 f (mkS_len ..) hf env d
  cases a with
  | keep i' =>
    have e := posI kk.2
    have s1 := setD_dct A.a2 (.int i') (.int m.pos) (putK_dput m.full hl1 i' (.int m.pos))
    refine ⟨h.set q2 (.dct (putK m.full (.inl i') (.int m.pos))), ?_, by simp, ⟨?_, by simp [A.lt2, performM], ?_⟩, ?_⟩
    · simp [f22, Ad4, k, l3, l5, e, s1, gcD_len, eqD_str, ofStr_inj]
    · rw [List.getElem?_set_ne (Ne.symm n2)]; exact A.a1
    · rw [List.getElem?_set_ne n4]; exact A.a3
    · exact fun j _ j2 _ => List.getElem?_set_ne (Ne.symm j2)
  | rest i' =>
    have b := get_bound i.fu (.inl i')
    have r5 := ixD_dct A.a2 (.int i') (d := .int (intV (getK m.full (.inl i')))) (by
      show some (getK m.full (.inl i')) = _
      rw [← getK_int i.fu kk.2])
    have s1 := fun env => sf "position" (fl _ (by simp)) env (.int (intV (getK m.full (.inl i'))))
    refine ⟨_, ?_, ?_, A.upd (performM cs sh m (.rest i')) n2 n3 rfl rfl, fun j j1 _ _ => List.getElem?_set_ne (Ne.symm j1)⟩
    · simp [f22, Ad5, k, l5, r5, s1, t1 _ _ _ _ _ _ _ b.1, gcD_len, eqD_str, ofStr_inj, performM]
    · simp
  | put =>
    obtain ⟨⟨x, y⟩, rfl⟩ := Option.ne_none_iff_exists'.mp kk.1
    have e := posI kk.2
    have s1 := setD_dct A.a3 (.int m.pos) (.bl true) (putK_dput (storeK m.store) (Nat.lt_of_le_of_lt (storeK_len _) hl2) m.pos (.bl true))
    have a1' : (h.set q3 (.dct (putK (storeK m.store) (.inl m.pos) (.bl true))))[q]? = some (.ins 0 (mkS cs sl (some (x, y)) m q2 q3)) := by rw [List.getElem?_set_ne (Ne.symm n3)]; exact A.a1
    have k' (f : Str) := fldL_ins a1' f
    have o1 := afO_ins a1' (l6 ..)
    have o2 := fun u env v => afL_add a1' (mkS_len ..) u ("cost" : Str) env v
    refine ⟨(h.set q3 (.dct (putK (storeK m.store) (.inl m.pos) (.bl true)))).set q (.ins 0 (mkS cs sl (some (x, y)) (performM cs (some (x, y)) m .put) q2 q3)), ?_, by simp, ⟨?_, ?_, ?_⟩, ?_⟩
    · simp [f22, Ad2, k, l3, l8, e, s1, k', l7, shD, o1, o2, t3, gcD_len, eqD_str, ofStr_inj]
      rfl
    · simp [A.lt1]
    · rw [List.getElem?_set_ne n2, List.getElem?_set_ne (Ne.symm n4)]; exact A.a2
    · rw [List.getElem?_set_ne n3]
      simp [A.lt3, performM, storeK_snoc]
    · intro j j1 _ j3
      rw [List.getElem?_set_ne (Ne.symm j1), List.getElem?_set_ne (Ne.symm j3)]
  | fetch i' =>
    obtain ⟨⟨x, y⟩, rfl⟩ := Option.ne_none_iff_exists'.mp kk.1
    have b := i.st i' kk.2
    let mm : M := { m with pos := i' }
    have A1 := A.upd mm n2 n3 rfl rfl
    have s1 := fun env => sf "position" (fl _ (by simp)) env (.int i')
    have k' (f : Str) := fldL_ins A1.a1 f
    have o1 := afO_ins A1.a1 (l6 ..)
    have o2 := fun u env v => afL_add A1.a1 (mkS_len ..) u ("cost" : Str) env v
    refine ⟨h.set q (.ins 0 (mkS cs sl (some (x, y)) (performM cs (some (x, y)) m (.fetch i')) q2 q3)), ?_, by simp, A.upd _ n2 n3 rfl rfl, fun j j1 _ _ => List.getElem?_set_ne (Ne.symm j1)⟩
    simp [f22, Ad6, k, s1, t1 _ _ _ _ _ _ _ b.1, k', l7, shD, o1, o2, t3, gcD_len, eqD_str, ofStr_inj, mm]
    rfl
  | adv i' =>
    have e := posI kk.1
    have hi' : 1 ≤ i' := by simpa [Ac.form] using hf
    have h1 := i.p0
    let m2 : M := { m with cost := m.cost + (cutD cs (some m.pos) (some (m.pos + i'))).sum }
    have A1 := A.upd m2 n2 n3 rfl rfl
    have o1 := afO_ins A.a1 (l6 ..)
    have o2 := fun u env v => afL_add A.a1 (mkS_len ..) u ("cost" : Str) env v
    have o3 := afO_ins (f := "position") (k := m.pos) A1.a1 (by rw [l3]; show some (posD m.pos) = _; rw [e])
    have o4 := fun u env v => afL_add A1.a1 (mkS_len ..) u ("position" : Str) env v
    refine ⟨h.set q (.ins 0 (mkS cs sl sh (performM cs sh m (.adv i')) q2 q3)), ?_, by simp, A.upd _ n2 n3 rfl rfl, fun j j1 _ _ => List.getElem?_set_ne (Ne.symm j1)⟩
    have tt := t1 cs sl sh m2 q2 q3 (m.pos + i') (by simp only at kk; omega)
    simp [f22, Ad3, k, l1, l3, e, cutD_map, biD_sum_tup, o1, o2, t3, eqD_str, ofStr_inj]
    simp [m2] at o3 o4 tt
    simp [o3, o4, tt, gcD_len]
    rfl
  | turn =>
    let mm : M := { m with pos := -1 }
    have A1 := A.upd mm n2 n3 rfl rfl
    have s1 := fun env => sf "position" (fl _ (by simp)) env .non
    have o1 := afO_ins A1.a1 (l4 ..)
    have o2 := fun u env v => afL_sub A1.a1 (mkS_len ..) u ("front" : Str) env v
    refine ⟨h.set q (.ins 0 (mkS cs sl sh (performM cs sh m .turn) q2 q3)), ?_, by simp, A.upd _ n2 n3 rfl rfl, fun j j1 _ _ => List.getElem?_set_ne (Ne.symm j1)⟩
    simp [f22, Ad1, k, s1, t1n, o1, o2, t2, gcD_len, eqD_str, ofStr_inj, mm]
    rfl
  | bad k' => exact kk.elim
end K14
end
section
set_option maxRecDepth 100000
set_option linter.all false
namespace K14
open PySem Mi
def runM (cs : List Int) (sl : Int) (sh : Sh) : Nat → M → List Ac → D ⊕ M
  | _, m, [] => .inr m
  | k, m, a :: as => if isNone (reasonM sl sh m a) = true then runM cs sl sh (k + 1) (performM cs sh m a) as else .inl (.tup [.int k, reasonM sl sh m a])
def endM (len : Nat) : D ⊕ M → D
  | .inl d => d
  | .inr m => if 0 < m.front then .tup [.int len, .str "unfinished"] else .int m.cost
def reasons : List Str := ["form", "done", "slot", "shelf", "empty", "nowhere", "beyond", "turn"]
theorem reasonM_is (sl : Int) (sh : Sh) (m : M) (a : Ac) : reasonM sl sh m a = .non ∨ ∃ s ∈ reasons, reasonM sl sh m a = .str s := by
  have st (s : Str) (hs : s ∈ reasons) : (D.str s = .non ∨ ∃ t ∈ reasons, D.str s = .str t) := .inr ⟨s, hs, rfl⟩
  unfold reasonM
  split
  · exact st _ (by simp [reasons])
  split
  · exact st _ (by simp [reasons])
  cases a <;> simp only
  case bad => exact st _ (by simp [reasons])
  all_goals
    split
    · first | exact st _ (by simp [reasons]) | exact .inl rfl
    · split
      · first | exact st _ (by simp [reasons]) | exact .inl rfl
      · first | exact st _ (by simp [reasons]) | exact .inl rfl
theorem reasonM_str {sl : Int} {sh : Sh} {m : M} {a : Ac} (h : isNone (reasonM sl sh m a) = false) : ∃ s ∈ reasons, reasonM sl sh m a = .str s := by
  rcases reasonM_is sl sh m a with e | e
  · rw [e] at h; exact nomatch h
  · exact e
theorem runM_is (cs : List Int) (sl : Int) (sh : Sh) : ∀ (as : List Ac) (k : Nat) (m : M), InvM cs m →
    (∃ m', runM cs sl sh k m as = .inr m' ∧ InvM cs m') ∨ (∃ j, ∃ s ∈ reasons, runM cs sl sh k m as = .inl (.tup [.int (j : Nat), .str s]) ∧ j < k + as.length)
  | [], k, m, i => .inl ⟨m, rfl, i⟩
  | a :: as, k, m, i => by
    rw [runM]
    split
    · next hn =>
      rcases runM_is cs sl sh as (k + 1) (performM cs sh m a) (i.perform a (isNone_iff.mp hn)) with e | ⟨j, s, hs, e, l⟩
      · exact .inl e
      · exact .inr ⟨j, s, hs, e, by simp; omega⟩
    · next hn =>
      obtain ⟨s, hs, e⟩ := reasonM_str (by simpa using hn)
      exact .inr ⟨k, s, hs, by rw [e], by simp⟩
theorem at_map {as : List Ac} {k : Nat} (hk : k < as.length) : L2.atI (as.map Ac.d) (k : Int) = some (as[k].d) := by
  rw [atI_nat]
  simp [hk]
theorem small_n {n k : Nat} (h : n ≤ k) (hk : k < 1000) : n < sizeLine := Nat.lt_of_lt_of_le (by omega : n < 100000) (sizeLine_ge (Nat.le_refl _))
theorem len_perform (cs : List Int) (sh : Sh) (m : M) (a : Ac) : (performM cs sh m a).full.length ≤ m.full.length + 1 ∧ (performM cs sh m a).store.length ≤ m.store.length + 1 := by
  cases a <;> simp only [performM] <;> refine ⟨?_, ?_⟩ <;> first | exact put_len _ _ _ | simp
/-! the law's own walk -/
def JE (q : Nat) (as : List Ac) (c r : Option D) : Mi.Env := [some (.ref (q + 2)), some (.tup (as.map Ac.d)), c, r]
def JH (cs : List Int) (sl : Int) (sh : Sh) (h : Hh) (m : M) : Hh := h ++ [.dct m.full, .lst (m.store.map .int), .dct (mkM cs sl sh m h.length (h.length + 1))]
def JI (cs : List Int) (sl : Int) (sh : Sh) (as : List Ac) (h : Hh) (k : Nat) (e : Mi.Env) (g : Hh) : Prop :=
  ∃ m c r, e = JE h.length as c r ∧ g = JH cs sl sh h m ∧ InvM cs m ∧ m.full.length ≤ k ∧ m.store.length ≤ k ∧ runM cs sl sh 0 (m0 cs) as = runM cs sl sh k m (as.drop k)
def JK (cs : List Int) (sl : Int) (sh : Sh) (as : List Ac) (h : Hh) (L : SR) : Prop :=
  (∃ m c r, L = .nx (JE h.length as c r) (JH cs sl sh h m) ∧ runM cs sl sh 0 (m0 cs) as = .inr m) ∨
  (∃ (k : Nat) (r : Str) (m : M), L = .ret (.tup [.int k, .str r]) (JH cs sl sh h m) ∧ runM cs sl sh 0 (m0 cs) as = .inl (.tup [.int k, .str r]))
theorem JH_at (cs : List Int) (sl : Int) (sh : Sh) (h : Hh) (m : M) : At cs sl sh m (h.length + 2) h.length (h.length + 1) (JH cs sl sh h m) :=
  ⟨by simp [JH, List.getElem?_append_right], by simp [JH], by simp [JH, List.getElem?_append_right]⟩
theorem JH_low (cs : List Int) (sl : Int) (sh : Sh) (h : Hh) (m : M) (j : Nat) (hj : j < h.length) : (JH cs sl sh h m)[j]? = h[j]? := by rw [JH, List.getElem?_append_left hj]
theorem JH_len (cs : List Int) (sl : Int) (sh : Sh) (h : Hh) (m : M) : (JH cs sl sh h m).length = h.length + 3 := by simp [JH]
theorem judged13s (n : Nat) (cs : List Int) (sl : Int) (sh : Sh) (as : List Ac) (h : Hh) (hl : as.length ≤ 900) (k : Nat) (hk : k < as.length) (e : Mi.Env) (g : Hh) (i : JI cs sl sh as h k e g) :
    ∃ e1, setT (.nm 2) (.int (k : Int)) e = some e1 ∧ Turn (JI cs sl sh as h (k + 1)) (JK cs sl sh as h) (ssems (den prog (n + 3)) prog b13_1 none e1 g) := by
  obtain ⟨m, c, r, rfl, rfl, i, hf, hst, e⟩ := i
  refine ⟨_, rfl, ?_⟩
  rw [List.drop_eq_getElem_cons hk] at e
  have A := JH_at cs sl sh h m
  have w := reason11 n cs sl sh m _ _ _ _ as[k] A
  have am := at_map hk
  by_cases hn : isNone (reasonM sl sh m as[k]) = true
  · rw [runM, if_pos hn] at e
    have hn' := isNone_iff.mp hn
    obtain ⟨h', p, l, B, b3⟩ := perform12 (n + 2) cs sl sh m _ _ _ _ as[k] A (by omega) (by omega) (by omega) i (small_n hf (by omega)) (small_n hst (by omega)) hn'
    have eh : h' = JH cs sl sh h (performM cs sh m as[k]) := heap3 (by rw [l, JH_len]) B.a2 B.a3 B.a1 (fun j hj => by
      rw [b3 j (by omega) (by omega) (by omega), JH_low _ _ _ _ _ _ hj])
    subst eh
    have lp := len_perform cs sh m as[k]
    have goal : JI cs sl sh as h (k + 1) (JE h.length as (some (.int k)) (some .non)) (JH cs sl sh h (performM cs sh m as[k])) := ⟨_, _, _, rfl, rfl, i.perform _ hn', by omega, by omega, e⟩
    rw [hn'] at w
    simp [b13_1, JE, am, w, isNone, p, Turn] at goal ⊢
    exact goal
  · rw [runM, if_neg hn] at e
    obtain ⟨s, hs1, er⟩ := reasonM_str (sl := sl) (sh := sh) (m := m) (a := as[k]) (by simpa using hn)
    rw [er] at e w
    have goal : JK cs sl sh as h (.ret (.tup [.int (k : Int), .str s]) (JH cs sl sh h m)) := .inr ⟨_, _, _, rfl, e⟩
    simp [b13_1, JE, am, w, isNone, Turn] at goal ⊢
    exact goal
theorem begun (cs : List Int) (sl : Int) (sh : Sh) (h : Hh) : ([("costs", D.tup (cs.map .int)), ("slots", .int sl), ("shelf", shD sh), ("place", .int 0), ("front", .int cs.length), ("full", .ref h.length), ("store", .ref (h.length + 1)), ("cost", .int 0)] : List (Str × D)).foldl (fun d p => putK d (Sum.inr p.1) p.2) [] = mkM cs sl sh (m0 cs) h.length (h.length + 1) := by kernel_rfl
theorem judged13 (n : Nat) (cs : List Int) (sl : Int) (sh : Sh) (as : List Ac) (h : Hh) (hl : as.length ≤ 900) (qa x y : Nat) (mm : M) (ha : h[qa]? = some (.dct (mkM cs sl sh mm x y))) :
    den prog (n + 4) 13 [.ref qa, .tup (as.map Ac.d)] h = .ok (endM as.length (runM cs sl sh 0 (m0 cs) as)) h := by
  rw [w_run at13 (n + 3) _ _ rfl]
  have hr := rng_ok as.length (by omega)
  have k1 := ixD_dct ha (.str "costs") (g1 cs sl sh mm x y)
  have k2 := ixD_dct ha (.str "slots") (g2 cs sl sh mm x y)
  have k7 := ixD_dct ha (.str "shelf") (g7 cs sl sh mm x y)
  have e := begun cs sl sh h
  simp at e
  simp [f13, k1, k2, k7, isAnyD, isD, hr, e]
  generalize hL : loopM _ _ _ _ _ _ = L
  have key : JK cs sl sh as h L := by
    rw [← hL]
    refine loopM_n as.length (JI cs sl sh as h) (JK cs sl sh as h) (fun _ _ _ _ => by simp) ?_ ?_ _ _ ⟨m0 cs, _, _, rfl, rfl, InvM.zero cs, by simp [m0], by simp [m0], by simp⟩
    · rintro env g ⟨m, c, r, rfl, rfl, i, hf, hst, e⟩
      rw [List.drop_length] at e
      exact .inl ⟨m, c, r, rfl, e⟩
    · intro k hk e g i
      exact judged13s n cs sl sh as h hl k hk e g i
  rcases key with ⟨m, c, r, rfl, e⟩ | ⟨k, r, m, rfl, e⟩
  · have A := JH_at cs sl sh h m
    have k4 := ixD_dct A.a1 (.str "front") (g4 cs sl sh m _ _)
    have k6 := ixD_dct A.a1 (.str "cost") (g6 cs sl sh m _ _)
    by_cases hf : 0 < m.front
    · simp [e, endM, k4, k6, hf, JE]
      exact gcD_down _ _ _ (by simp [D.lo, los])
    · simp [e, endM, k4, k6, hf, JE]
      exact gcD_down _ _ _ (by simp [D.lo])
  · simp [e, endM]
    exact gcD_down _ _ _ (by simp [D.lo, los])
theorem judged_no (n : Nat) (cs : List Int) (sl : Int) (sh : Sh) (s : D) (h : Hh) (qa x y : Nat) (mm : M) (ha : h[qa]? = some (.dct (mkM cs sl sh mm x y))) (hd : s = .non ∨ s = .int 5 ∨ s = .str "turn") :
    den prog (n + 4) 13 [.ref qa, s] h = .ok (.tup [.int (-1), .str "form"]) h := by
  rw [w_run at13 _ _ _ rfl]
  have k1 := ixD_dct ha (.str "costs") (g1 cs sl sh mm x y)
  have k2 := ixD_dct ha (.str "slots") (g2 cs sl sh mm x y)
  have k7 := ixD_dct ha (.str "shelf") (g7 cs sl sh mm x y)
  rcases hd with rfl | rfl | rfl <;> simp [f13, k1, k2, k7, isAnyD, isD] <;> exact gcD_down _ _ _ (by simp [D.lo, los])
end K14
end
section
set_option maxRecDepth 100000
set_option linter.all false
namespace K14
open PySem Mi
abbrev FS := List (Str × D)
theorem init20 (n : Nat) (cs : List Int) (sl : Int) (sh : Sh) (h : Hh) :
    den prog (n + 1) 20 [.ref h.length, .tup (cs.map .int), .int sl, shD sh] (h ++ [.ins 0 []]) = .ok .non (h ++ [.ins 0 (mkS cs sl sh (m0 cs) (h.length + 1) (h.length + 2)), .dct [], .dct []]) := by
  rw [w_run at20 n _ _ rfl]
  let y1 : FS := [("costs", .tup (cs.map .int))]
  let y2 : FS := y1 ++ ([("slots", .int sl)] : FS)
  let y3 : FS := y2 ++ ([("shelf", shD sh)] : FS)
  let y4 : FS := y3 ++ ([("front", .int cs.length)] : FS)
  let y5 : FS := y4 ++ ([("position", .int 0)] : FS)
  let y6 : FS := y5 ++ ([("full", .ref (h.length + 1))] : FS)
  let y7 : FS := y6 ++ ([("stored", .ref (h.length + 2))] : FS)
  have st (fs fs' : FS) (f : Str) (d : D) (l : Hh) (env : Mi.Env) (hf : f ∈ (["costs", "slots", "shelf", "front", "position", "full", "stored", "cost"] : List Str)) (hl : fs.length < 1000) (e : putF f d fs = fs') :
      setfL prog f env d (.ref h.length) (h ++ (.ins 0 fs :: l)) = .nx env (h ++ (.ins 0 fs' :: l)) := by
    rw [setfL_ins (by simp) cl0 f hl hf env d, e]
    simp
  have s1 (env) := st [] y1 "costs" (.tup (cs.map .int)) [] env (fl _ (by simp)) (by simp) (by kernel_rfl)
  have s2 (env) := st y1 y2 "slots" (.int sl) [] env (fl _ (by simp)) (by simp [y1]) (by kernel_rfl)
  have s3 (env) := st y2 y3 "shelf" (shD sh) [] env (fl _ (by simp)) (by simp [y1, y2]) (by kernel_rfl)
  have s4 (env) := st y3 y4 "front" (.int cs.length) [] env (fl _ (by simp)) (by simp [y1, y2, y3]) (by kernel_rfl)
  have s5 (env) := st y4 y5 "position" (.int 0) [] env (fl _ (by simp)) (by simp [y1, y2, y3, y4]) (by kernel_rfl)
  have s6 (env) := st y5 y6 "full" (.ref (h.length + 1)) [.dct []] env (fl _ (by simp)) (by simp [y1, y2, y3, y4, y5]) (by kernel_rfl)
  have s7 (env) := st y6 y7 "stored" (.ref (h.length + 2)) [.dct [], .dct []] env (fl _ (by simp)) (by simp [y1, y2, y3, y4, y5, y6]) (by kernel_rfl)
  have s8 (env) := st y7 (mkS cs sl sh (m0 cs) (h.length + 1) (h.length + 2)) "cost" (.int 0) [.dct [], .dct []] env (fl _ (by simp)) (by simp [y1, y2, y3, y4, y5, y6, y7]) (by kernel_rfl)
  clear_value y1 y2 y3 y4 y5 y6 y7
  simp [f20, s1, s2, s3, s4, s5, s6, s7, s8]
  unfold gcD
  rw [if_neg]
  rintro ⟨_, c⟩
  simp [List.take_append, mkS] at c
/-! the arguments -/
def okC : D → Bool
  | .int c => decide (0 ≤ c) && decide (c ≤ 1000000)
  | .non => false | .bl _ => false | .str _ => false | .tup _ => false | .lst _ => false | .ref _ => false | .scr _ => false
theorem con0 : prog.consts[0]? = some (("MAX_KEPT" : Str), D.int 8) := rfl
theorem con2 : prog.consts[2]? = some (("MAX_COST" : Str), D.int 1000000) := rfl
theorem cost2 (n : Nat) (d : D) (h : Hh) (hd : flatD d = true) : den prog (n + 2) 2 [d] h = .ok (.bl (okC d)) h := by
  have w := int0 n d h hd
  rw [w_run at2 (n + 1) _ _ rfl]
  cases d <;> simp [flatD] at hd <;> simp [isI] at w <;> simp [f2, gcD_same, okC, w, con2]
  rename_i i
  by_cases h0 : 0 ≤ i <;> simp [h0]
def okCosts : D → Bool
  | .tup xs => decide (xs.length ≤ 20) && xs.all okC
  | _ => false
def okSlots : D → Bool
  | .int i => decide (0 ≤ i) && decide (i ≤ 8)
  | _ => false
def okShelf : D → Bool
  | .non => true
  | .tup xs => decide (xs.length = 2) && xs.all okC
  | _ => false
/-- nothing that refers, one deep -/
def flat2 : D → Bool
  | .tup xs => xs.all flatD
  | d => flatD d
theorem own4 : prog.excs[1]? = some ⟨"ArgumentError", ["reason"], [0, 1]⟩ := rfl
theorem own5 : prog.excs[2]? = some ⟨"ScheduleError", ["number", "reason"], [0, 2]⟩ := rfl
theorem blsD_map (f : D → Bool) (xs : List D) : blsD (xs.map fun x => .bl (f x)) = some (xs.map f) := by
  induction xs with
  | nil => rfl
  | cons x xs ih => simp [blsD, ih]
theorem allD (h : Hh) (f : D → Bool) (xs : List D) : biD h .all [.lst (xs.map fun x => .bl (f x))] = some (.bl (xs.all f)) := by
  show (blsD (xs.map fun x => .bl (f x))).map (fun bs => D.bl (bs.all id)) = _
  rw [blsD_map]
  simp
theorem flt {α : Type} (xs : List α) : xs.filter (fun _ => true) = xs := List.filter_eq_self.mpr fun _ _ => rfl
def dueD (c s sh : D) : Str := if okCosts c = false then "costs" else if okSlots s = false then "slots" else "shelf"
abbrev E3 (c s sh : D) : Mi.Env := [some c, some s, some sh, some (.int 20), none]
section
variable (n : Nat) (c s sh : D) (h : Hh)
theorem lc3 (xs : List D) (hx : xs.all flatD = true) (env : Mi.Env) (he : env.length = 5) : lcM [] [4] (.nm 4) (semT (den prog (n + 2)) prog none .nil) (sem (den prog (n + 2)) prog none (.call 2 (.cons (.var 4) .nil))) env xs h = .ok (xs.map fun x => .bl (okC x)) h := by
  rw [lcM_map (fun _ => true) (fun x => .bl (okC x)) (by simp), flt]
  intro x hx'
  have w := cost2 n x h (List.all_eq_true.mp hx x hx')
  match env, he with
  | [a, b, c, d, e], _ => exact ⟨_, rfl, by simp, fun _ => by simp [wipe, w]⟩
theorem cond1 (hc : flat2 c = true) : semB (den prog (n + 2)) prog none (.or (.not (.isi (.var 0) [.tuple])) (.or (.cmp .Gt (.bi .len (.cons (.var 0) .nil)) (.var 3)) (.not (.bi .all (.cons (.frz (.lc [4] (.nm 4) (.val (.var 0)) .nil (.call 2 (.cons (.var 4) .nil)))) .nil))))) (E3 c s sh) h = .ok (!okCosts c) h := by
  have hc0 := hc
  cases c <;> simp [flat2, flatD] at hc
  case tup xs =>
    have l := lc3 n h xs hc0 (E3 (.tup xs) s sh) rfl
    by_cases q : (20 : Int) < xs.length
    · have : ¬(xs.length ≤ 20) := by omega
      simp [isAnyD, isD, okCosts, q, this]
    · have q2 : xs.length ≤ 20 := by omega
      cases e : xs.all okC <;> simp [isAnyD, isD, okCosts, q, q2, l, allD, e]
  all_goals simp [isAnyD, isD, okCosts]
theorem cond2 (hs : flatD s = true) : semB (den prog (n + 2)) prog none (.or (.not (.call 0 (.cons (.var 1) .nil))) (.not (.cmp2 .LtE .LtE (.lit (.int 0)) (.var 1) (.glb 0)))) (E3 c s sh) h = .ok (!okSlots s) h := by
  have w0 := int0 (n + 1) s h hs
  cases s <;> simp [flatD] at hs <;> simp [isI] at w0 <;> simp [w0, okSlots, con0]
  rename_i i
  by_cases h0 : 0 ≤ i <;> simp [h0]
theorem cond3 : semB (den prog (n + 2)) prog none (.cmp .IsNot (.var 2) (.lit .non)) (E3 c s sh) h = .ok (!isNone sh) h := by simp
theorem cond4 (hh : flat2 sh = true) (hn : isNone sh = false) : semB (den prog (n + 2)) prog none (.or (.not (.isi (.var 2) [.tuple])) (.or (.cmp .NotEq (.bi .len (.cons (.var 2) .nil)) (.lit (.int 2))) (.not (.bi .all (.cons (.frz (.lc [4] (.nm 4) (.val (.var 2)) .nil (.call 2 (.cons (.var 4) .nil)))) .nil))))) (E3 c s sh) h = .ok (!okShelf sh) h := by
  have hh0 := hh
  cases sh <;> simp [flat2, flatD] at hh <;> simp [isNone] at hn
  case tup xs =>
    have l := lc3 n h xs hh0 (E3 c s (.tup xs)) rfl
    by_cases q : (xs.length : Int) = 2
    · have q2 : xs.length = 2 := by omega
      cases e : xs.all okC <;> simp [isAnyD, isD, okShelf, q, q2, l, allD, e]
    · have q2 : ¬(xs.length = 2) := by omega
      simp [isAnyD, isD, okShelf, q, q2]
  all_goals simp [isAnyD, isD, okShelf]
end
theorem demand3 (n : Nat) (c s sh : D) (h : Hh) (hc : flat2 c = true) (hs : flatD s = true) (hh : flat2 sh = true) :
    den prog (n + 3) 3 [c, s, sh, .int 20] h = if (okCosts c && okSlots s && okShelf sh) = true then .ok .non h else .exc (1, [("reason", .str (dueD c s sh))]) h := by
  rw [w_run at3 (n + 2) _ _ rfl]
  have e1 := cond1 n c s sh h hc
  have e2 := cond2 n c s sh h hs
  cases c1 : okCosts c
  · rw [c1] at e1
    simp only [f3, List.map_cons, List.map_nil, List.cons_append, List.nil_append, List.length_cons, List.length_nil, List.replicate, w_s1, w_ife, e1]
    simp [own4, dueD, c1, gcX_same]
  rw [c1] at e1
  cases c2 : okSlots s
  · rw [c2] at e2
    simp only [f3, List.map_cons, List.map_nil, List.cons_append, List.nil_append, List.length_cons, List.length_nil, List.replicate, w_s1, w_ife, e1, e2, thenL_ok, Bool.not_true, Bool.false_eq_true, if_false, w_s0, sbindL_nx]
    simp [own4, dueD, c1, c2, gcX_same]
  rw [c2] at e2
  cases c3 : isNone sh
  · have e4 := cond4 n c s sh h hh c3
    cases c4 : okShelf sh
    · rw [c4] at e4
      simp only [f3, List.map_cons, List.map_nil, List.cons_append, List.nil_append, List.length_cons, List.length_nil, List.replicate, w_s1, w_ife, e1, e2, thenL_ok, Bool.not_true, Bool.false_eq_true, if_false, w_s0, sbindL_nx, cond3, c3, Bool.not_false, if_true, e4]
      simp [own4, dueD, c1, c2, c3, c4, gcX_same]
    · rw [c4] at e4
      simp only [f3, List.map_cons, List.map_nil, List.cons_append, List.nil_append, List.length_cons, List.length_nil, List.replicate, w_s1, w_ife, e1, e2, thenL_ok, Bool.not_true, Bool.false_eq_true, if_false, w_s0, sbindL_nx, cond3, c3, Bool.not_false, if_true, e4]
      simp [own4, dueD, c1, c2, c3, c4, gcD_same]
  · have e5 : sh = .non := isNone_iff.mp c3
    subst e5
    simp only [f3, List.map_cons, List.map_nil, List.cons_append, List.nil_append, List.length_cons, List.length_nil, List.replicate, w_s1, w_ife, e1, e2, thenL_ok, Bool.not_true, Bool.false_eq_true, if_false, w_s0, sbindL_nx]
    simp [c1, c2, okShelf, isNone, gcD_same]
end K14
end
section
set_option maxRecDepth 100000
set_option linter.all false
namespace K14
open PySem Mi
theorem sg0 (a b c : D) (h : Hh) (k : Nat → List D → Hh → Res D) : sigL prog.sigs[0]? [a, b, c] [] h k .mk = k 3 [a, b, c, .int 20] h := by
  show sigL (some ⟨3, 3, [], [.pos 0, .pos 1, .pos 2, .dfl (.int 20)]⟩) [a, b, c] [] h k .mk = _
  simp [sigL, arrange, PSrc.of]
def SE (cs : List Int) (sl : Int) (sh : Sh) (as : List Ac) (q : Nat) (a b c : Option D) : Mi.Env := [some (.tup (as.map Ac.d)), some (.tup (cs.map .int)), some (.int sl), some (shD sh), some (.ref q), a, b, c]
def SH (cs : List Int) (sl : Int) (sh : Sh) (h : Hh) (m : M) : Hh := h ++ [.ins 0 (mkS cs sl sh m (h.length + 1) (h.length + 2)), .dct m.full, .dct (storeK m.store)]
def SI (cs : List Int) (sl : Int) (sh : Sh) (as : List Ac) (h : Hh) (k : Nat) (e : Mi.Env) (g : Hh) : Prop :=
  ∃ m a b c, e = SE cs sl sh as h.length a b c ∧ g = SH cs sl sh h m ∧ InvM cs m ∧ m.full.length ≤ k ∧ m.store.length ≤ k ∧ runM cs sl sh 0 (m0 cs) as = runM cs sl sh k m (as.drop k)
def SK (cs : List Int) (sl : Int) (sh : Sh) (as : List Ac) (h : Hh) (L : SR) : Prop :=
  (∃ m a b c, L = .nx (SE cs sl sh as h.length a b c) (SH cs sl sh h m) ∧ InvM cs m ∧ runM cs sl sh 0 (m0 cs) as = .inr m) ∨
  (∃ (k : Nat) (r : Str) (e : Mi.Env) (m : M), L = .exc (2, [("number", .int k), ("reason", .str r)]) e (SH cs sl sh h m) ∧ runM cs sl sh 0 (m0 cs) as = .inl (.tup [.int k, .str r]))
theorem SH_ob (cs : List Int) (sl : Int) (sh : Sh) (h : Hh) (m : M) : Ob cs sl sh m h.length (h.length + 1) (h.length + 2) (SH cs sl sh h m) :=
  ⟨by simp [SH], by simp [SH, List.getElem?_append_right], by simp [SH, List.getElem?_append_right]⟩
theorem SH_low (cs : List Int) (sl : Int) (sh : Sh) (h : Hh) (m : M) (j : Nat) (hj : j < h.length) : (SH cs sl sh h m)[j]? = h[j]? := by rw [SH, List.getElem?_append_left hj]
theorem SH_len (cs : List Int) (sl : Int) (sh : Sh) (h : Hh) (m : M) : (SH cs sl sh h m).length = h.length + 3 := by simp [SH]
theorem ml0 (cs : List Int) (sl : Int) (sh : Sh) (m : M) (q q2 q3 : Nat) (h : Hh) (A : Ob cs sl sh m q q2 q3 h) : mthL prog 0 0 (.ref q) h = some (q, 21) := mthL_ins A.a1 cl0 rfl (m1' ..)
theorem ml1 (cs : List Int) (sl : Int) (sh : Sh) (m : M) (q q2 q3 : Nat) (h : Hh) (A : Ob cs sl sh m q q2 q3 h) : mthL prog 0 1 (.ref q) h = some (q, 22) := mthL_ins A.a1 cl0 rfl (m2' ..)
theorem judge5s (n : Nat) (cs : List Int) (sl : Int) (sh : Sh) (as : List Ac) (h : Hh) (hl : as.length ≤ 900) (k : Nat) (hk : k < as.length) (e : Mi.Env) (g : Hh) (i : SI cs sl sh as h k e g) :
    ∃ e1, setT (.tp [5, 6]) (.tup [.int (k : Int), as[k].d]) e = some e1 ∧ Turn (SI cs sl sh as h (k + 1)) (SK cs sl sh as h) (ssems (den prog (n + 6)) prog b5_1 none e1 g) := by
  obtain ⟨m, a, b, c, rfl, rfl, i, hf, hst, e⟩ := i
  refine ⟨_, rfl, ?_⟩
  rw [List.drop_eq_getElem_cons hk] at e
  have A := SH_ob cs sl sh h m
  have w := reason21 (n + 2) cs sl sh m _ _ _ _ as[k] A
  have x0 := ml0 _ _ _ _ _ _ _ _ A
  have x1 := ml1 _ _ _ _ _ _ _ _ A
  by_cases hn : isNone (reasonM sl sh m as[k]) = true
  · rw [runM, if_pos hn] at e
    have hn' := isNone_iff.mp hn
    obtain ⟨h', p, l, B, b3⟩ := perform22 (n + 5) cs sl sh m _ _ _ _ as[k] A (by omega) (by omega) (by omega) i (small_n hf (by omega)) (small_n hst (by omega)) hn'
    have eh : h' = SH cs sl sh h (performM cs sh m as[k]) := heap3 (by rw [l, SH_len]) B.a1 B.a2 B.a3 (fun j hj => by
      rw [b3 j (by omega) (by omega) (by omega), SH_low _ _ _ _ _ _ hj])
    subst eh
    have lp := len_perform cs sh m as[k]
    have goal : SI cs sl sh as h (k + 1) (SE cs sl sh as h.length (some (.int k)) (some as[k].d) (some .non)) (SH cs sl sh h (performM cs sh m as[k])) := ⟨_, _, _, _, rfl, rfl, i.perform _ hn', by omega, by omega, e⟩
    rw [hn'] at w
    simp [b5_1, SE, w, isNone, p, Turn, x0, x1] at goal ⊢
    exact goal
  · rw [runM, if_neg hn] at e
    obtain ⟨s, hs1, er⟩ := reasonM_str (sl := sl) (sh := sh) (m := m) (a := as[k]) (by simpa using hn)
    rw [er] at e w
    have goal : SK cs sl sh as h (.exc (2, [("number", .int k), ("reason", .str s)]) (SE cs sl sh as h.length (some (.int k)) (some as[k].d) (some (.str s))) (SH cs sl sh h m)) := .inr ⟨_, _, _, _, rfl, e⟩
    simp [b5_1, SE, w, isNone, Turn, x0, own5] at goal ⊢
    exact goal
theorem judge5 (n : Nat) (cs : List Int) (sl : Int) (sh : Sh) (as : List Ac) (h : Hh) (h4 : ∀ h, den prog (n + 6) 3 [.tup (cs.map .int), .int sl, shD sh, .int 20] h = .ok .non h) (hl : as.length ≤ 900) :
    den prog (n + 7) 5 [.tup (as.map Ac.d), .tup (cs.map .int), .int sl, shD sh] h = match runM cs sl sh 0 (m0 cs) as with
      | .inr m => if 0 < m.front then .exc (2, [("number", .int as.length), ("reason", .str "unfinished")]) h else .ok (.int m.cost) h
      | .inl (.tup [k, r]) => .exc (2, [("number", k), ("reason", r)]) h
      | .inl _ => .stuck := by
  rw [w_run at5 (n + 6) _ _ rfl]
  have b := init20 (n + 5) cs sl sh h
  simp [f5, sg0, isAnyD, isD, b, h4, cl0]
  generalize hL : loopM _ _ _ _ _ _ = L
  have key : SK cs sl sh as h L := by
    rw [← hL]
    refine loopM_at (enumD (as.map Ac.d)) (SI cs sl sh as h) (SK cs sl sh as h) (fun _ _ _ _ => by simp) ?_ ?_ _ _ ⟨m0 cs, _, _, _, rfl, rfl, InvM.zero cs, by simp [m0], by simp [m0], by simp⟩
    · rintro env g ⟨m, a, b, c, rfl, rfl, i, hf, hst, e⟩
      rw [enum_len, List.length_map, List.drop_length] at e
      exact .inl ⟨m, a, b, c, rfl, i, e⟩
    · intro k hk e g i
      rw [enumD_at, List.getElem_map]
      exact judge5s n cs sl sh as h hl k (by simpa [enum_len] using hk) e g i
  rcases key with ⟨m, a, b, c, rfl, i, e⟩ | ⟨k, r, e', m, rfl, e⟩
  · rw [e]
    have := i.f0
    have k := fun f => fldL_ins (SH_ob cs sl sh h m).a1 f
    by_cases hf : m.front = 0
    · have hf2 : ¬(0 < m.front) := by omega
      simp [SE, k, l4, l6, hf, own5]
      exact gcD_down _ _ _ (by simp [D.lo])
    · have hf2 : 0 < m.front := by omega
      simp [SE, k, l4, l6, hf, hf2, own5]
      exact gcX_down _ _ _ (by simp [D.lo, los])
  · rw [e]
    simp
    exact gcX_down _ _ _ (by simp [D.lo, los])
section
variable (n : Nat) (s t u v w a b : D) (h : Hh)
theorem told_ok (e : den prog n 5 [s, t, u, v] h = .ok w h) : den prog (n + 1) 17 [s, t, u, v] h = .ok w h := by
  rw [w_run at17 n _ _ rfl]
  simp [f17, e, gcD_same]
theorem told_sch (e : den prog n 5 [s, t, u, v] h = .exc (2, [("number", a), ("reason", b)]) h) : den prog (n + 1) 17 [s, t, u, v] h = .ok (.tup [a, b]) h := by
  rw [w_run at17 n _ _ rfl]
  have q1 : ([("number", a), ("reason", b)] : List (Str × D)).lookup ("number" : Str) = some a := by kernel_rfl
  have q2 : ([("number", a), ("reason", b)] : List (Str × D)).lookup ("reason" : Str) = some b := by kernel_rfl
  simp [f17, e, gcD_same, ancOf, own5, own4, q1, q2]
theorem told_arg (e : den prog n 5 [s, t, u, v] h = .exc (1, [("reason", b)]) h) : den prog (n + 1) 17 [s, t, u, v] h = .ok (.tup [.str "argument", b]) h := by
  rw [w_run at17 n _ _ rfl]
  have q2 : ([("reason", b)] : List (Str × D)).lookup ("reason" : Str) = some b := by kernel_rfl
  simp [f17, e, gcD_same, ancOf, own5, own4, q2]
end
end K14
end
section
set_option maxRecDepth 100000
set_option linter.all false
namespace K14
open PySem Mi
/-- the law's dict in a heap whose first place is the tape -/
theorem At.head {cs : List Int} {sl : Int} {sh : Sh} {m : M} {q q2 q3 : Nat} {t : Hh} {o : O} (A : At cs sl sh m (q + 1) (q2 + 1) (q3 + 1) (o :: t)) (o' : O) : At cs sl sh m (q + 1) (q2 + 1) (q3 + 1) (o' :: t) :=
  ⟨by simpa using A.a1, by simpa using A.a2, by simpa using A.a3⟩
theorem next14 (n : Nat) (cs : List Int) (sl : Int) (sh : Sh) (m : M) (q q2 q3 : Nat) (o : O) (t : Hh) (i : InvM cs m) (h7 : cs.length ≤ 20) (s0 : 0 ≤ sl) (s1 : sl ≤ 8)
    (A : At cs sl sh m (q + 1) (q2 + 1) (q3 + 1) (o :: t)) (ho : Dr o) :
    ∃ a o', den prog (n + 2) 14 [.ref 0, .ref (q + 1)] (o :: t) = .ok (Ac.d a) (o' :: t) ∧ Dr o' := by
  rw [w_run at14 (n + 1) _ _ rfl]
  have k2 := fun o => ixD_dct (A.head o).a1 (.str "slots") (g2 cs sl sh m _ _)
  have k3 := fun o => ixD_dct (A.head o).a1 (.str "place") (g3 cs sl sh m _ _)
  have k4 := fun o => ixD_dct (A.head o).a1 (.str "front") (g4 cs sl sh m _ _)
  have k5 := fun o => ixD_dct (A.head o).a1 (.str "full") (g5 cs sl sh m _ _)
  have k7 := fun o => ixD_dct (A.head o).a1 (.str "shelf") (g7 cs sl sh m _ _)
  have k8 := fun o => ixD_dct (A.head o).a1 (.str "store") (g8 cs sl sh m _ _)
  have i7 := fun o => inD_dct (h := o :: t) (A.head o).a2
  have i8 (o : O) (i : Int) : inD (o :: t) (.int i) (.ref (q3 + 1)) = some (decide (i ∈ m.store)) := by rw [inD_lst (A.head o).a3]; exact inL_ints _ _
  have hr : rngD 0 9 1 = some ((List.range 9).map fun (k : Nat) => D.int k) := rng_ok 9 (by omega)
  have hr2 : rngD 0 25 1 = some ((List.range 25).map fun (k : Nat) => D.int k) := rng_ok 25 (by omega)
  simp [f14, hr]
  generalize hL : lcM _ _ _ _ _ _ _ _ = L
  obtain ⟨S1, rfl, hS1, hl1⟩ : ∃ S : List D, L = .ok S (o :: t) ∧ (∀ x ∈ S, ∃ a : Ac, x = a.d) ∧ S.length ≤ 9 := by
    rw [← hL, lcM_map (fun d => match d with | .int i => (getK m.full (.inl i)).isSome && decide (intV (getK m.full (.inl i)) < m.front) | _ => false) (fun d => .tup [.str "restore", d]) (by simp)]
    · refine ⟨_, rfl, ?_, ?_⟩
      · intro x hx
        simp only [List.mem_map, List.mem_filter] at hx
        obtain ⟨y, ⟨⟨k, _, rfl⟩, _⟩, rfl⟩ := hx
        exact ⟨.rest k, rfl⟩
      · rw [List.length_map]
        refine Nat.le_trans (List.length_filter_le _ _) ?_
        simp
    · intro d hd
      simp only [List.mem_map] at hd
      obtain ⟨k, _, rfl⟩ := hd
      refine ⟨_, rfl, ?_, fun _ => by simp [wipe]⟩
      cases e : (getK m.full (Sum.inl (k : Int))).isSome
      · simp [wipe, k5, i7, e]
      · have r5 := ixD_dct A.a2 (.int k) (d := .int (intV (getK m.full (.inl (k : Int))))) (by
          show some (getK m.full (.inl (k : Int))) = _
          rw [← getK_int i.fu e])
        simp [wipe, k5, k4, i7, e, r5]
  clear hL
  simp [hr2]
  generalize hL : lcM _ _ _ _ _ _ _ _ = L
  obtain ⟨S2, rfl, hS2, hl2⟩ : ∃ S : List D, L = .ok S (o :: t) ∧ (∀ x ∈ S, ∃ a : Ac, x = a.d) ∧ S.length ≤ 25 := by
    rw [← hL, lcM_map (fun d => match d with | .int i => decide (i ∈ m.store) && decide (i < m.front) | _ => false) (fun d => .tup [.str "fetch", d]) (by simp)]
    · refine ⟨_, rfl, ?_, ?_⟩
      · intro x hx
        simp only [List.mem_map, List.mem_filter] at hx
        obtain ⟨y, ⟨⟨k, _, rfl⟩, _⟩, rfl⟩ := hx
        exact ⟨.fetch k, rfl⟩
      · rw [List.length_map]
        refine Nat.le_trans (List.length_filter_le _ _) ?_
        simp
    · intro d hd
      simp only [List.mem_map] at hd
      obtain ⟨k, _, rfl⟩ := hd
      refine ⟨_, rfl, ?_, fun _ => by simp [wipe]⟩
      by_cases e : (k : Int) ∈ m.store <;> simp [wipe, k8, k4, i8, e]
  clear hL
  have add := addD_lst (o :: t) S1 S2 (Nat.le_trans (by omega : S1.length + S2.length ≤ 100) (sizeLine_ge (by omega)))
  obtain ⟨S, eS, hS, hl⟩ : ∃ S : List D, S1 ++ S2 = S ∧ (∀ x ∈ S, ∃ a : Ac, x = a.d) ∧ S.length ≤ 34 := by
    refine ⟨_, rfl, fun x hx => ?_, by simp; omega⟩
    rcases List.mem_append.mp hx with hx | hx
    · exact hS1 x hx
    · exact hS2 x hx
  rw [eS] at add
  have up (o' : O) (d : D) (a : Ac) (h : d = a.d) (ho : Dr o') : ∃ a o'', gcD (o :: t) d (o' :: t) = .ok (Ac.d a) (o'' :: t) ∧ Dr o'' := ⟨a, o', by rw [gcD_len _ _ _ (by simp), h], ho⟩
  have spot (hne : S ≠ []) (o : O) (ho : Dr o) : ∃ (r : Int) (o' : O) (a : Ac), den prog (n + 1) 7 [.ref 0, .int S.length] (o :: t) = .ok (.int r) (o' :: t) ∧ L2.atI S r = some a.d ∧ Dr o' := by
    have hp : 0 < S.length := List.length_pos_iff.mpr hne
    obtain ⟨r, o', e, a, b, c⟩ := draw n o t S.length ho (by omega) (by omega)
    obtain ⟨x, ex, hx⟩ := atI_in S r a b
    obtain ⟨i, rfl⟩ := hS x hx
    exact ⟨r, o', i, e, ex, c⟩
  by_cases c1 : m.pos < 0
  · obtain ⟨r1, o1, d1, a1, b1, ho1⟩ := draw n o t 24 ho (by omega) (by omega)
    by_cases c2 : r1 = 0
    · obtain ⟨r2, o2, d2, a2, b2, ho2⟩ := draw n o1 t 4 ho1 (by omega) (by omega)
      obtain ⟨a, _, ha⟩ := at_made [Ac.put, .keep 0, .turn, .adv 1] Ac.d r2 a2 (by simpa using b2)
      simp [Ad1, Ad2, Ad3, Ad4] at ha
      simp [add, k3, c1, d1, c2, d2, ha]
      exact up _ _ a rfl ho2
    · by_cases c3 : S = []
      · simp [add, k3, c1, d1, c2, c3]
        exact up _ _ (.rest 0) rfl ho1
      · obtain ⟨r2, o2, a, d2, e2, ho2⟩ := spot c3 o1 ho1
        simp [add, k3, c1, d1, c2, c3, d2, e2]
        exact up _ _ a rfl ho2
  obtain ⟨r1, o1, d1, a1, b1, ho1⟩ := draw n o t 9 ho (by omega) (by omega)
  simp [add, k3, c1, d1]
  by_cases c2 : r1 = 0 ∧ ¬S = []
  · obtain ⟨r2, o2, a, d2, e2, ho2⟩ := spot c2.2 o1 ho1
    simp [c2, d2, e2]
    exact up _ _ a rfl ho2
  simp [c2]
  by_cases c3 : r1 < 3 ∧ 0 < sl
  · obtain ⟨r, o', f1, f2, f3, f4⟩ := draw n o1 t sl ho1 c3.2 (by omega)
    simp [k2, c3, f1]
    exact up _ _ (.keep r) rfl f4
  simp [k2, c3, k7, isNone_sh]
  by_cases c4 : r1 < 5 ∧ ¬sh = none
  · simp [c4]
    exact up _ _ .put rfl ho1
  simp [c4, k3, k4]
  by_cases c5 : m.pos = m.front - 1 ∧ (¬S = [] ∨ m.front = 1 ∨ r1 = 8)
  · simp [c5]
    exact up _ _ .turn rfl ho1
  simp [c5]
  by_cases c6 : m.pos < m.front - 1
  · obtain ⟨r, o', f1, f2, f3, f4⟩ := draw n o1 t (m.front - 1 - m.pos) ho1 (by omega) (by have := i.p0; have := i.f1; omega)
    simp [k3, k4, c6, f1]
    exact up _ _ (.adv (1 + r)) rfl f4
  simp [c6, k3, k4, k7, isNone_sh]
  by_cases c7 : sh = none
  · simp [c7]
    exact up _ _ .turn rfl ho1
  · simp [c7]
    exact up _ _ .put rfl ho1
end K14
end
section
set_option maxRecDepth 100000
set_option linter.all false
namespace K14
open PySem Mi
theorem mul2 (h : Hh) (s : Str) : binD h .Mult (.tup [.str s]) (.int 2) = some (.tup [.str s, .str s]) := by
  show mulD h (.tup [.str s]) (.int 2) = _
  simp [mulD, repD, List.replicate]
theorem odd15 (n : Nat) (cs : List Int) (sl : Int) (sh : Sh) (m : M) (q q2 q3 : Nat) (o : O) (t : Hh)
    (A : At cs sl sh m (q + 1) (q2 + 1) (q3 + 1) (o :: t)) (ho : Dr o) :
    ∃ a o', den prog (n + 2) 15 [.ref 0, .ref (q + 1)] (o :: t) = .ok (Ac.d a) (o' :: t) ∧ Dr o' := by
  rw [w_run at15 (n + 1) _ _ rfl]
  have k2 := fun o => ixD_dct (A.head o).a1 (.str "slots") (g2 cs sl sh m _ _)
  have k3 := fun o => ixD_dct (A.head o).a1 (.str "place") (g3 cs sl sh m _ _)
  have k4 := fun o => ixD_dct (A.head o).a1 (.str "front") (g4 cs sl sh m _ _)
  have l1 (xs ys : List D) (h : Hh) (hl : xs.length + ys.length ≤ 100) := addD_lst h xs ys (Nat.le_trans hl (sizeLine_ge (by omega)))
  obtain ⟨r1, o1, d1, a1, b1, ho1⟩ := draw n o t 9 ho (by omega) (by omega)
  obtain ⟨r2, o2, d2, a2, b2, ho2⟩ := draw n o1 t 22 ho1 (by omega) (by omega)
  obtain ⟨r3, o3, d3, a3, b3, ho3⟩ := draw n o2 t 9 ho2 (by omega) (by omega)
  obtain ⟨r4, o4, d4, a4, b4, ho4⟩ := draw n o3 t 23 ho3 (by omega) (by omega)
  obtain ⟨a, _, ha⟩ := at_made [Ac.rest r1, .fetch r2, .put, .keep sl, .turn, .adv (if m.front - m.pos > 1 then m.front - m.pos else 1), .adv 0, .fetch (-1), .bad 0, .bad 1, .bad 2, .bad 3, .bad 4, .bad 5, .bad 6, .bad 7, .bad 8,
    .adv (if m.front - m.pos - 1 > 1 then m.front - m.pos - 1 else 1), .keep r3, .bad 9, .fetch 100000000000000000000, .bad 10, .bad 11] Ac.d r4 a4 (by simpa using b4)
  simp [Ad1, Ad2, Ad3, Ad4, Ad5, Ad6, Ab0, Ab1, Ab2, Ab3, Ab4, Ab5, Ab6, Ab7, Ab8, Ab9, Ab10, Ab11] at ha
  refine ⟨a, o4, ?_, ho4⟩
  simp [f15, k2, k3, k4, d1, d2, d3, l1, powOk, mul2, d4, ha]
  exact gcD_len _ _ _ (by simp)
end K14
end
section
set_option maxRecDepth 100000
set_option linter.all false
namespace K14
open PySem Mi
/-- the schedule under way: the tape, the law's dict, the rows -/
structure GS (q q2 q3 L : Nat) (cs : List Int) (sl : Int) (sh : Sh) (k : Nat) (m : M) (as : List Ac) (o : O) (t : Hh) : Prop where
  dr : Dr o
  inv : InvM cs m
  len : t.length = L + 1
  at' : At cs sl sh m (q + 1) (q2 + 1) (q3 + 1) (o :: t)
  a3 : t[L]? = some (.lst (as.map Ac.d))
  l1 : as.length ≤ k
  l2 : m.full.length ≤ as.length
  l3 : m.store.length ≤ as.length
def GE (q L : Nat) (odd : Int) (c4 c5 : Option D) : Mi.Env := [some (.ref 0), some (.ref (q + 1)), some (.ref (L + 1)), some (.int odd), c4, c5, none]
def GI (q q2 q3 L : Nat) (cs : List Int) (sl : Int) (sh : Sh) (odd : Int) (k : Nat) (e : Mi.Env) (g : Hh) : Prop := ∃ m as o t c4 c5, e = GE q L odd c4 c5 ∧ g = o :: t ∧ GS q q2 q3 L cs sl sh k m as o t
def GK (q q2 q3 L : Nat) (cs : List Int) (sl : Int) (sh : Sh) (odd : Int) (r : SR) : Prop := ∃ e g, r = .nx e g ∧ GI q q2 q3 L cs sl sh odd 410 e g
section
variable {q q2 q3 L : Nat} {cs : List Int} {sl : Int} {sh : Sh} {k k' : Nat} {m : M} {as : List Ac} {o : O} {t : Hh}
theorem GS.up (s : GS q q2 q3 L cs sl sh k m as o t) (h : k ≤ k') : GS q q2 q3 L cs sl sh k' m as o t := ⟨s.dr, s.inv, s.len, s.at', s.a3, Nat.le_trans s.l1 h, s.l2, s.l3⟩
/-- the rows grow -/
theorem GS.app (s : GS q q2 q3 L cs sl sh k m as o t) (h1 : q ≠ L) (h2 : q2 ≠ L) (h3 : q3 ≠ L) (a : Ac) (o' : O) (ho : Dr o') : GS q q2 q3 L cs sl sh (k + 1) m (as ++ [a]) o' (t.set L (.lst (as.map Ac.d ++ [a.d]))) := by
  have A := s.at'
  refine ⟨ho, s.inv, by simp [s.len], ⟨?_, ?_, ?_⟩, ?_, by have := s.l1; simp; omega, by have := s.l2; simp; omega, by have := s.l3; simp; omega⟩
  · have := A.a1
    simp only [List.getElem?_cons_succ] at this ⊢
    rw [List.getElem?_set_ne (Ne.symm h1)]; exact this
  · have := A.a2
    simp only [List.getElem?_cons_succ] at this ⊢
    rw [List.getElem?_set_ne (Ne.symm h2)]; exact this
  · have := A.a3
    simp only [List.getElem?_cons_succ] at this ⊢
    rw [List.getElem?_set_ne (Ne.symm h3)]; exact this
  · have := s.len
    simp [this]
theorem GS.perform (n : Nat) (s : GS q q2 q3 L cs sl sh k m as o t) (n2 : q ≠ q2) (n3 : q ≠ q3) (n4 : q2 ≠ q3) (h1 : q ≠ L) (h2 : q2 ≠ L) (h3 : q3 ≠ L) (hk : k ≤ 900) (a : Ac) (hr : reasonM sl sh m a = .non) (hF : m.full.length + 1 ≤ as.length) (hG : m.store.length + 1 ≤ as.length) :
    ∃ t', den prog (n + 1) 12 [.ref (q + 1), a.d] (o :: t) = .ok .non (o :: t') ∧ GS q q2 q3 L cs sl sh k (performM cs sh m a) as o t' := by
  obtain ⟨h', e, l, B, b3⟩ := perform12 n cs sl sh m _ _ _ (o :: t) a s.at' (by omega) (by omega) (by omega) s.inv (small_n (Nat.le_trans s.l2 s.l1) (by omega)) (small_n (Nat.le_trans s.l3 s.l1) (by omega)) hr
  have b0 := b3 0 (by omega) (by omega) (by omega)
  cases h' with
  | nil => simp at l
  | cons o' t' =>
    simp at b0 l
    subst b0
    have lp := len_perform cs sh m a
    refine ⟨t', e, s.dr, s.inv.perform a hr, by rw [l, s.len], B, ?_, s.l1, by omega, by omega⟩
    have := b3 (L + 1) (by omega) (by omega) (by omega)
    simp at this
    rw [this, s.a3]
end
theorem made16s (n : Nat) (q q2 q3 L : Nat) (cs : List Int) (sl : Int) (sh : Sh) (odd : Int) (h7 : cs.length ≤ 20) (s0 : 0 ≤ sl) (s1 : sl ≤ 8) (n2 : q ≠ q2) (n3 : q ≠ q3) (n4 : q2 ≠ q3) (h1 : q ≠ L) (h2 : q2 ≠ L) (h3 : q3 ≠ L) (hod : odd ≤ 1000)
    (k : Nat) (hk : k < 405) (e : Mi.Env) (g : Hh) (i : GI q q2 q3 L cs sl sh odd k e g) :
    ∃ e1, setT (.nm 4) (.int (k : Int)) e = some e1 ∧ Turn (GI q q2 q3 L cs sl sh odd (k + 1)) (GK q q2 q3 L cs sl sh odd) (ssems (den prog (n + 3)) prog b16_1 none e1 g) := by
  obtain ⟨m, as, o, t, c4, c5, rfl, rfl, s⟩ := i
  refine ⟨_, rfl, ?_⟩
  have k4 := fun o => ixD_dct (s.at'.head o).a1 (.str "front") (g4 cs sl sh m _ _)
  by_cases hf : m.front = 0
  · have z : GK q q2 q3 L cs sl sh odd (.nx (GE q L odd (some (.int k)) c5) (o :: t)) := ⟨_, _, rfl, m, as, o, t, _, _, rfl, rfl, s.up (by omega)⟩
    simp [b16_1, GE, k4, hf, Turn] at z ⊢
    exact z
  have leaf (a : Ac) (o' : O) (ho' : Dr o') : (∃ t', den prog (n + 3) 11 [.ref (q + 1), a.d] (o' :: t.set L (.lst (as.map Ac.d ++ [a.d]))) = .ok .non (o' :: t.set L (.lst (as.map Ac.d ++ [a.d])))
        ∧ den prog (n + 3) 12 [.ref (q + 1), a.d] (o' :: t.set L (.lst (as.map Ac.d ++ [a.d]))) = .ok .non (o' :: t') ∧ GI q q2 q3 L cs sl sh odd (k + 1) (GE q L odd (some (.int k)) (some a.d)) (o' :: t')) ∨
      (∃ r, den prog (n + 3) 11 [.ref (q + 1), a.d] (o' :: t.set L (.lst (as.map Ac.d ++ [a.d]))) = .ok (.str r) (o' :: t.set L (.lst (as.map Ac.d ++ [a.d])))
        ∧ GK q q2 q3 L cs sl sh odd (.nx (GE q L odd (some (.int k)) (some a.d)) (o' :: t.set L (.lst (as.map Ac.d ++ [a.d]))))) := by
    have s' := s.app h1 h2 h3 a o' ho'
    have w := reason11 n cs sl sh m _ _ _ (o' :: t.set L (.lst (as.map Ac.d ++ [a.d]))) a s'.at'
    by_cases hn : isNone (reasonM sl sh m a) = true
    · have hn' := isNone_iff.mp hn
      obtain ⟨t', p, s2⟩ := GS.perform (n + 2) s' n2 n3 n4 h1 h2 h3 (by omega) a hn' (by have := s.l2; simp; omega) (by have := s.l3; simp; omega)
      exact .inl ⟨t', by rw [w, hn'], p, _, _, _, _, _, _, rfl, rfl, s2⟩
    · obtain ⟨r, _, er⟩ := reasonM_str (sl := sl) (sh := sh) (m := m) (a := a) (by simpa using hn)
      exact .inr ⟨r, by rw [w, er], _, _, rfl, _, _, _, _, _, _, rfl, rfl, s'.up (by omega)⟩
  have bt (o : O) : bmT (o :: t) .append (.ref (L + 1)) = true := by rw [bmT_lst (xs := as.map Ac.d) (by simpa using s.a3)]; rfl
  have bd (o : O) (y : D) : bmD (o :: t) .append (.ref (L + 1)) [y] = some (.non, o :: t.set L (.lst (as.map Ac.d ++ [y]))) := by
    rw [bm_append (xs := as.map Ac.d) (by simpa using s.a3) (by rw [List.length_map]; exact small_n (k := k) s.l1 (by omega))]
    rfl
  obtain ⟨a, o1, d1, ho1⟩ := next14 (n + 1) cs sl sh m q q2 q3 o t s.inv h7 s0 s1 s.at' s.dr
  by_cases ho : 0 < odd
  · obtain ⟨r, o2, d2, a2, b2, ho2⟩ := draw (n + 2) o1 t odd ho1 ho (by omega)
    by_cases hr : r = 1
    · obtain ⟨a', o3, d3, ho3⟩ := odd15 (n + 1) cs sl sh m q q2 q3 o2 t (s.at'.head o2) ho2
      rcases leaf a' o3 ho3 with ⟨t', w1, w2, z⟩ | ⟨r, w1, z⟩
      · simp [b16_1, GE, k4, hf, Turn, d1, ho, d2, hr, d3, bt, bd, w1, w2, isNone] at z ⊢
        exact z
      · simp [b16_1, GE, k4, hf, Turn, d1, ho, d2, hr, d3, bt, bd, w1, isNone] at z ⊢
        exact z
    · rcases leaf a o2 ho2 with ⟨t', w1, w2, z⟩ | ⟨r, w1, z⟩
      · simp [b16_1, GE, k4, hf, Turn, d1, ho, d2, hr, bt, bd, w1, w2, isNone] at z ⊢
        exact z
      · simp [b16_1, GE, k4, hf, Turn, d1, ho, d2, hr, bt, bd, w1, isNone] at z ⊢
        exact z
  · rcases leaf a o1 ho1 with ⟨t', w1, w2, z⟩ | ⟨r, w1, z⟩
    · simp [b16_1, GE, k4, hf, Turn, d1, ho, bt, bd, w1, w2, isNone] at z ⊢
      exact z
    · simp [b16_1, GE, k4, hf, Turn, d1, ho, bt, bd, w1, isNone] at z ⊢
      exact z
def HI (q q2 q3 : Nat) (cs : List Int) (sl : Int) (sh : Sh) (odd : Int) (k : Nat) (e : Mi.Env) (g : Hh) : Prop :=
  ∃ m as o t v c4 c5 c6, e = [some (.ref 0), some (.ref (q + 1)), some v, some (.int odd), c4, c5, c6] ∧ g = o :: t ∧ Dr o ∧ At cs sl sh m (q + 1) (q2 + 1) (q3 + 1) (o :: t) ∧
    (∀ o lo hi, slcD (o :: t) v lo hi = some (.lst ((cutD as lo hi).map Ac.d))) ∧ (∀ o, lenD (o :: t) v = some as.length) ∧ (∀ o, iterD (o :: t) v = some (as.map Ac.d)) ∧ as.length ≤ 411 + k * 450
def HK (q q2 q3 : Nat) (cs : List Int) (sl : Int) (sh : Sh) (odd : Int) (r : SR) : Prop := ∃ e g, r = .nx e g ∧ HI q q2 q3 cs sl sh odd 1 e g
theorem HI.up {q q2 q3 : Nat} {cs : List Int} {sl : Int} {sh : Sh} {odd : Int} {k k' : Nat} {e : Mi.Env} {g : Hh} (i : HI q q2 q3 cs sl sh odd k e g) (h : k ≤ k') : HI q q2 q3 cs sl sh odd k' e g := by
  obtain ⟨m, as, o, t, v, c4, c5, c6, r1, r2, r3, r4, r5, r6, r7, r8⟩ := i
  exact ⟨m, as, o, t, v, c4, c5, c6, r1, r2, r3, r4, r5, r6, r7, by omega⟩
theorem made16t (n : Nat) (q q2 q3 : Nat) (cs : List Int) (sl : Int) (sh : Sh) (odd : Int) (k : Nat) (hk : k < 1) (e : Mi.Env) (g : Hh) (i : HI q q2 q3 cs sl sh odd k e g) :
    ∃ e1, setT (.nm 4) (.int (k : Int)) e = some e1 ∧ Turn (HI q q2 q3 cs sl sh odd (k + 1)) (HK q q2 q3 cs sl sh odd) (ssems (den prog (n + 3)) prog b16_2 none e1 g) := by
  obtain ⟨m, as, o, t, v, c4, c5, c6, rfl, rfl, ho, A, z1, z2, z3, hl⟩ := i
  refine ⟨_, rfl, ?_⟩
  obtain ⟨r, o1, d1, g1, g2, ho1⟩ := draw (n + 2) o t (as.length + 1) ho (by omega) (by omega)
  obtain ⟨a, o2, d2, ho2⟩ := odd15 (n + 1) cs sl sh m q q2 q3 o1 t (A.head o1) ho1
  obtain ⟨r2, o3, d3, g3, g4, ho3⟩ := draw (n + 2) o2 t 2 ho2 (by omega) (by omega)
  have l1 (xs ys : List D) (h : Hh) (hl : xs.length + ys.length ≤ 2000) := addD_lst h xs ys (Nat.le_trans hl (sizeLine_ge (by omega)))
  have c1 := cutD_len as none (some r)
  have c2 := cutD_len as (some (r + r2)) none
  have y : HI q q2 q3 cs sl sh odd (k + 1) [some (.ref 0), some (.ref (q + 1)), some (.lst ((cutD as none (some r) ++ a :: cutD as (some (r + r2)) none).map Ac.d)), some (.int odd), some (.int k), c5, some (.int r)] (o3 :: t) :=
    ⟨m, _, o3, t, _, _, _, _, rfl, rfl, ho3, A.head o3, fun o lo hi => by rw [slcD_lst, cutD_map], fun o => by simp, fun o => by simp, by simp; omega⟩
  have b1 (h : Hh) := l1 ((cutD as none (some r)).map Ac.d) [a.d] h (by simp; omega)
  have b2 (h : Hh) := l1 ((cutD as none (some r)).map Ac.d ++ [a.d]) ((cutD as (some (r + r2)) none).map Ac.d) h (by simp; omega)
  simp [b16_2, z1, z2, d1, d2, d3, b1, b2, Turn] at y ⊢
  exact y
end K14
end
section
set_option maxRecDepth 100000
set_option linter.all false
namespace K14
open PySem Mi
theorem made16 (n : Nat) (q q2 q3 : Nat) (cs : List Int) (sl : Int) (sh : Sh) (o : O) (t : Hh) (h7 : cs.length ≤ 20) (s0 : 0 ≤ sl) (s1 : sl ≤ 8) (n2 : q ≠ q2) (n3 : q ≠ q3) (n4 : q2 ≠ q3)
    (A : At cs sl sh (m0 cs) (q + 1) (q2 + 1) (q3 + 1) (o :: t)) (ho : Dr o) :
    ∃ (as : List Ac) (o' : O) (t' : Hh) (m : M), den prog (n + 4) 16 [.ref 0, .ref (q + 1)] (o :: t) = .ok (.tup (as.map Ac.d)) (o' :: t') ∧ Dr o' ∧ as.length ≤ 900 ∧ At cs sl sh m (q + 1) (q2 + 1) (q3 + 1) (o' :: t') := by
  rw [w_run at16 (n + 3) _ _ rfl]
  have q1 : q < t.length := by have := A.lt1; simp at this; exact this
  have q5 : q2 < t.length := by have := A.lt2; simp at this; exact this
  have q6 : q3 < t.length := by have := A.lt3; simp at this; exact this
  obtain ⟨r1, o1, d1, g1, g2, ho1⟩ := draw (n + 2) o (t ++ [.lst []]) 4 ho (by omega) (by omega)
  obtain ⟨odd, hodd, od1⟩ : ∃ v : Int, L2.atI [D.int 0, .int 0, .int 30, .int 12] r1 = some (.int v) ∧ v ≤ 1000 := by
    obtain ⟨a, ha, e⟩ := at_made [(0 : Int), 0, 30, 12] D.int r1 g1 (by simpa using g2)
    exact ⟨a, e, by simp at ha; omega⟩
  obtain ⟨r2, o2, d2, g3, g4, ho2⟩ := draw (n + 2) o1 (t ++ [.lst []]) 3 ho1 (by omega) (by omega)
  obtain ⟨w, hw, w0, w1⟩ : ∃ v : Int, L2.atI [D.int 400, .int 400, .int 30] r2 = some (.int v) ∧ 0 < v ∧ v ≤ 400 := by
    obtain ⟨a, ha, e⟩ := at_made [(400 : Int), 400, 30] D.int r2 g3 (by simpa using g4)
    exact ⟨a, e, by simp at ha; omega⟩
  obtain ⟨r3, o3, d3, g5, g6, ho3⟩ := draw (n + 2) o2 (t ++ [.lst []]) w ho2 (by omega) (by omega)
  have hr := rng_int (2 + r3) (by omega) (by omega)
  simp [f16, d1, hodd, d2, hw, d3, hr]
  generalize hL : loopM _ _ _ _ _ _ = L
  have key : GK q q2 q3 t.length cs sl sh odd L := by
    rw [← hL]
    refine loopM_n (2 + r3).toNat (GI q q2 q3 t.length cs sl sh odd) (GK q q2 q3 t.length cs sl sh odd) (fun _ _ _ _ => by simp) ?_ ?_ _ _ ?_
    · rintro env h ⟨m, as, o, t, c4, c5, r1, r2, s⟩
      exact ⟨_, _, rfl, m, as, o, t, c4, c5, r1, r2, s.up (by omega)⟩
    · intro k hk e g i
      exact made16s n q q2 q3 t.length cs sl sh odd h7 s0 s1 n2 n3 n4 (by omega) (by omega) (by omega) od1 k (by omega) e g i
    · refine ⟨m0 cs, [], o3, t ++ [.lst []], _, _, rfl, rfl, ho3, InvM.zero cs, by simp, ⟨?_, ?_, ?_⟩, by simp, by simp, by simp [m0], by simp [m0]⟩
      · have := A.a1
        simp only [List.getElem?_cons_succ] at this ⊢
        rw [List.getElem?_append_left q1]; exact this
      · have := A.a2
        simp only [List.getElem?_cons_succ] at this ⊢
        rw [List.getElem?_append_left q5]; exact this
      · have := A.a3
        simp only [List.getElem?_cons_succ] at this ⊢
        rw [List.getElem?_append_left q6]; exact this
  obtain ⟨_, _, rfl, m, as, o4, t4, c4, c5, rfl, rfl, s⟩ := key
  have k4 := fun o => ixD_dct (s.at'.head o).a1 (.str "front") (K14.g4 cs sl sh m _ _)
  have hF : ∃ (as' : List Ac) (o5 : O) (t5 : Hh), ssem (den prog (n + 3)) prog (match f16.body with | .cons _ (.cons _ (.cons _ (.cons s _))) => s | _ => .any) none (GE q t.length odd c4 c5) (o4 :: t4) = .nx (GE q t.length odd c4 c5) (o5 :: t5) ∧ Dr o5 ∧
      At cs sl sh m (q + 1) (q2 + 1) (q3 + 1) (o5 :: t5) ∧ t5[t.length]? = some (.lst (as'.map Ac.d)) ∧ as'.length ≤ 411 := by
    have hl := s.l1
    by_cases c1 : m.front = 0
    · obtain ⟨r, o5, e1, g7, g8, ho5⟩ := draw (n + 2) o4 t4 5 s.dr (by omega) (by omega)
      by_cases c2 : r = 0
      · obtain ⟨r', o6, e2, g9, g10, ho6⟩ := draw (n + 2) o5 t4 6 ho5 (by omega) (by omega)
        obtain ⟨a, _, ha⟩ := at_made [Ac.rest 0, .put, .turn, .fetch 0, .keep 0, .adv 1] Ac.d r' g9 (by simpa using g10)
        simp [Ad1, Ad2, Ad3, Ad4, Ad5, Ad6] at ha
        have s' := s.app (a := a) (by omega) (by omega) (by omega) o6 ho6
        have bt (o : O) : bmT (o :: t4) .append (.ref (t.length + 1)) = true := by rw [bmT_lst (xs := as.map Ac.d) (by simpa using s.a3)]; rfl
        have bd (o : O) (y : D) : bmD (o :: t4) .append (.ref (t.length + 1)) [y] = some (.non, o :: t4.set t.length (.lst (as.map Ac.d ++ [y]))) := by
          rw [bm_append (xs := as.map Ac.d) (by simpa using s.a3) (by rw [List.length_map]; exact small_n s.l1 (by omega))]
          rfl
        refine ⟨as ++ [a], o6, _, ?_, ho6, s'.at', s'.a3, by simp; omega⟩
        simp [f16, GE, k4, c1, e1, c2, e2, ha, bt, bd]
      · refine ⟨as, o5, t4, ?_, ho5, s.at'.head o5, s.a3, by omega⟩
        simp [f16, GE, k4, c1, e1, c2]
    · refine ⟨as, o4, t4, ?_, s.dr, s.at', s.a3, by omega⟩
      simp [f16, GE, k4, c1]
  obtain ⟨as', o5, t5, hx, ho5, A5, a5, hl5⟩ := hF
  simp only [f16] at hx
  rw [sbindL_nx, w_s1, hx, sbindL_nx]
  obtain ⟨r4, o6, d4, g7, g8, ho6⟩ := draw (n + 2) o5 t5 4 ho5 (by omega) (by omega)
  obtain ⟨v, hv, v0⟩ : ∃ v : Nat, L2.atI [D.int 0, .int 0, .int 0, .int 1] r4 = some (.int v) ∧ v ≤ 1 := by
    obtain ⟨a, ha, e⟩ := at_made [(0 : Nat), 0, 0, 1] (fun k : Nat => D.int k) r4 g7 (by simpa using g8)
    exact ⟨a, by simpa using e, by simp at ha; omega⟩
  have hr2 := rng_ok v (by omega)
  simp [GE, d4, hv, hr2]
  generalize hL2 : loopM _ _ _ _ _ _ = L2
  have key2 : HK q q2 q3 cs sl sh odd L2 := by
    rw [← hL2]
    have e3 (o : O) : (o :: t5)[t.length + 1]? = some (.lst (as'.map Ac.d)) := by simpa using a5
    refine loopM_n v (HI q q2 q3 cs sl sh odd) (HK q q2 q3 cs sl sh odd) (fun _ _ _ _ => by simp) ?_ ?_ _ _ ?_
    · intro env h i
      exact ⟨_, _, rfl, i.up v0⟩
    · intro k hk e g i
      exact made16t n q q2 q3 cs sl sh odd k (by omega) e g i
    · exact ⟨m, as', o6, t5, _, _, _, _, rfl, rfl, ho6, A5.head o6, fun o lo hi => by rw [slcD_ref (e3 o), cutD_map], fun o => by rw [lenD_ref (e3 o)]; simp, fun o => by rw [iterD_ref (e3 o)], by omega⟩
  obtain ⟨_, _, rfl, m', as, o6, t6, v, c4, c5, c6, rfl, rfl, ho6, A6, z1, z2, z3, hl⟩ := key2
  simp [z3]
  rcases gcD_or (o :: t) (.tup (as.map Ac.d)) (o6 :: t6) with e | e
  · exact ⟨as, o, t, e, ho, by omega, m0 cs, A⟩
  · exact ⟨as, o6, t6, e, ho6, by omega, m', A6⟩
end K14
end
section
set_option maxRecDepth 100000
set_option linter.all false
namespace K14
open PySem Mi
def dueS (c s sh : D) : Str := if okCosts c = false then "costs" else if okSlots s = false then "slots" else if okShelf sh = false then "shelf" else ""
theorem ixc (h : Hh) : indexD h (.lst [.str "costs", .str "slots", .str "shelf"]) (.str "costs") = some 0 := by kernel_rfl
theorem ixs (h : Hh) : indexD h (.lst [.str "costs", .str "slots", .str "shelf"]) (.str "slots") = some 1 := by kernel_rfl
theorem ixh (h : Hh) : indexD h (.lst [.str "costs", .str "slots", .str "shelf"]) (.str "shelf") = some 2 := by kernel_rfl
theorem mul21 (h : Hh) : binD h .Mult (.tup [.int 0]) (.int 21) = some (.tup (List.replicate 21 (.int 0))) := by
  show mulD h (.tup [.int 0]) (.int 21) = _
  simp [mulD, repD]
theorem bad_last {xs : List D} {b : D} (hb : okC b = false) : okCosts (.tup (xs ++ [b])) = false := by simp [okCosts, hb]
def RE (sc : D) (q : Nat) (due : Str) (c4 : Option D) (c s sh : D) (c8 : Option D) : Mi.Env := [some (.ref 0), some sc, some (.ref (q + 1)), some (.str due), c4, some c, some s, some sh, c8]
def RI (sc : D) (q : Nat) (t : Hh) (k : Nat) (e : Mi.Env) (g : Hh) : Prop := ∃ c s sh c4 c8 o, e = RE sc q (dueS c s sh) c4 c s sh c8 ∧ g = o :: t ∧ Dr o ∧ flat2 c = true ∧ flatD s = true ∧ flat2 sh = true ∧ (∀ xs, c = .tup xs → xs.length ≤ 40 + k) ∧ (0 < k → (okCosts c && okSlots s && okShelf sh) = false)
theorem isTup (c : D) (h : Hh) (hc : flat2 c = true) : isAnyD h [.tuple] c = some (match c with | .tup _ => true | _ => false) := by
  cases c <;> simp [flat2, flatD] at hc <;> simp [isAnyD, isD]
theorem refused18s (n : Nat) (sc : D) (q : Nat) (t : Hh) (k : Nat) (hk : k < 3) (e : Mi.Env) (g : Hh) (K : SR → Prop) (i : RI sc q t k e g) :
    ∃ e1, setT (.nm 4) (.int (k : Int)) e = some e1 ∧ Turn (RI sc q t (k + 1)) K (ssems (den prog (n + 1)) prog b18_1 none e1 g) := by
  obtain ⟨c, s, sh, c4, c8, o, rfl, rfl, ho, fc, fs, fh, hl, hk0⟩ := i
  refine ⟨_, rfl, ?_⟩
  obtain ⟨r, o1, d1, a1, b1, ho1⟩ := draw n o t 3 ho (by omega) (by omega)
  have r3 : r = 0 ∨ r = 1 ∨ r = 2 := by omega
  have ix (x y : Str) (b : Bool) : L2.atI [D.str x, .str y] (if b = true then 1 else 0) = some (.str (if b = true then y else x)) := by cases b <;> simp
  rcases r3 with rfl | rfl | rfl
  · -- the costs are spoilt
    obtain ⟨c', o2, ho2, ec, fc', bc', hl'⟩ : ∃ (c' : D) (o2 : O), Dr o2 ∧ (sem (den prog (n + 1)) prog none (match b18_1 with | .cons _ (.cons (.ife _ (.cons (.set _ e) _) _) _) => e | _ => .any) (RE sc q (dueS c s sh) (some (.int k)) c s sh (some (.int 0))) (o1 :: t) = .ok c' (o2 :: t)) ∧
        flat2 c' = true ∧ okCosts c' = false ∧ (∀ xs, c' = .tup xs → xs.length ≤ 40 + (k + 1)) := by
      have it := isTup c (o1 :: t) fc
      by_cases ht : ∃ xs, c = .tup xs
      · obtain ⟨xs, rfl⟩ := ht
        have hx := hl xs rfl
        have l1 (b : D) (h : Hh) := addD_tup h xs [b] (Nat.le_trans (by simp; omega : xs.length + [b].length ≤ 100) (sizeLine_ge (by omega)))
        obtain ⟨r, o2, d2, a2, b2, ho2⟩ := draw n o1 t 7 ho1 (by omega) (by omega)
        obtain ⟨w, ew, hw⟩ := atI_in [D.non, .tup (xs ++ [.int (-1)]), .tup (List.replicate 21 (.int 0)), .tup (xs ++ [.bl true]), .tup (xs ++ [.int 1000001]), .int 5, .tup (xs ++ [.non])] r a2 (by simpa using b2)
        have fx : ∀ b, flatD b = true → flat2 (.tup (xs ++ [b])) = true := fun b hb => by
          have : xs.all flatD = true := fc
          show (xs ++ [b]).all flatD = true
          rw [List.all_append, this]
          simp [hb]
        refine ⟨w, o2, ho2, ?_, ?_⟩
        · simp at ew
          simp [b18_1, RE, it, l1, mul21, d2, ew]
        · simp only [List.mem_cons, List.not_mem_nil, or_false] at hw
          rcases hw with rfl | rfl | rfl | rfl | rfl | rfl | rfl
          · exact ⟨rfl, rfl, fun _ z => nomatch z⟩
          · exact ⟨fx _ rfl, bad_last rfl, fun ys z => by cases z; simp; omega⟩
          · exact ⟨rfl, rfl, fun ys z => by cases z; simp; omega⟩
          · exact ⟨fx _ rfl, bad_last rfl, fun ys z => by cases z; simp; omega⟩
          · exact ⟨fx _ rfl, bad_last rfl, fun ys z => by cases z; simp; omega⟩
          · exact ⟨rfl, rfl, fun _ z => nomatch z⟩
          · exact ⟨fx _ rfl, bad_last rfl, fun ys z => by cases z; simp; omega⟩
      · have it2 : isAnyD (o1 :: t) [.tuple] c = some false := by
          rw [it]
          cases c <;> first | rfl | exact absurd ⟨_, rfl⟩ ht
        refine ⟨.non, o1, ho1, ?_, rfl, rfl, fun _ z => nomatch z⟩
        simp [b18_1, RE, it2]
    have z : RI sc q t (k + 1) (RE sc q "costs" (some (.int k)) c' s sh (some (.int 0))) (o2 :: t) := by
      refine ⟨c', s, sh, some (.int k), some (.int 0), o2, ?_, rfl, ho2, fc', fs, fh, hl', fun _ => by simp [bc']⟩
      simp [dueS, bc']
    simp only [b18_1] at ec
    have goal2 : Turn (RI sc q t (k + 1)) K (ssems (den prog (n + 1)) prog (match b18_1 with | .cons _ (.cons _ r) => r | _ => .nil) none (RE sc q (dueS c s sh) (some (.int k)) c' s sh (some (.int 0))) (o2 :: t)) := by
      have dd : dueS c s sh = "costs" ∨ dueS c s sh = "slots" ∨ dueS c s sh = "shelf" ∨ dueS c s sh = "" := by
        unfold dueS
        split
        · exact .inl rfl
        · split
          · exact .inr (.inl rfl)
          · split
            · exact .inr (.inr (.inl rfl))
            · exact .inr (.inr (.inr rfl))
      rcases dd with e | e | e | e <;> rw [e] <;> simp [b18_1, RE, eqD_str, ofStr_inj, bm_index (ixc _), bm_index (ixs _), bm_index (ixh _), Turn] at z ⊢ <;> exact z
    simp only [b18_1] at goal2
    simp [b18_1, RE, d1, -w_ifx] at ec goal2 ⊢
    rw [ec]
    simp
    exact goal2
  · -- the slots are spoilt
    obtain ⟨r, o2, d2, a2, b2, ho2⟩ := draw n o1 t 5 ho1 (by omega) (by omega)
    obtain ⟨w, ew, hw⟩ := atI_in [D.int (-1), .int 9, .bl true, .non, .str "1"] r a2 (by simpa using b2)
    have hw1 : flatD w = true ∧ okSlots w = false := by
      simp only [List.mem_cons, List.not_mem_nil, or_false] at hw
      rcases hw with rfl | rfl | rfl | rfl | rfl <;> exact ⟨rfl, rfl⟩
    have z : RI sc q t (k + 1) (RE sc q (dueS c w sh) (some (.int k)) c w sh (some (.int 1))) (o2 :: t) :=
      ⟨c, w, sh, some (.int k), some (.int 1), o2, rfl, rfl, ho2, fc, hw1.1, fh, fun xs e => Nat.le_succ_of_le (hl xs e), fun _ => by simp [hw1.2]⟩
    cases c1 : okCosts c
    · have e1 : dueS c s sh = "costs" := by simp [dueS, c1]
      have e2 : dueS c w sh = "costs" := by simp [dueS, c1]
      rw [e1]
      rw [e2] at z
      simp [b18_1, RE, d1, d2, ew, eqD_str, ofStr_inj, bm_index (ixc _), Turn] at z ⊢
      exact z
    · have e2 : dueS c w sh = "slots" := by simp [dueS, c1, hw1.2]
      rw [e2] at z
      have dd : dueS c s sh = "slots" ∨ dueS c s sh = "shelf" ∨ dueS c s sh = "" := by
        unfold dueS
        rw [if_neg (by rw [c1]; simp)]
        split
        · exact .inl rfl
        · split
          · exact .inr (.inl rfl)
          · exact .inr (.inr rfl)
      rcases dd with e | e | e <;> rw [e] <;> simp [b18_1, RE, d1, d2, ew, eqD_str, ofStr_inj, bm_index (ixs _), bm_index (ixh _), Turn] at z ⊢ <;> exact z
  · -- the shelf is spoilt
    obtain ⟨r, o2, d2, a2, b2, ho2⟩ := draw n o1 t 9 ho1 (by omega) (by omega)
    obtain ⟨w, ew, hw⟩ := atI_in [D.tup [], .tup [.int 1], .tup [.int 1, .int (-1)], .tup [.int 1, .bl true], .int 7, .tup [.int 1, .int 2, .int 3], .tup [.int 1000001, .int 0], .tup [.int 0, .non], .bl false] r a2 (by simpa using b2)
    have hw1 : flat2 w = true ∧ okShelf w = false := by
      simp only [List.mem_cons, List.not_mem_nil, or_false] at hw
      rcases hw with rfl | rfl | rfl | rfl | rfl | rfl | rfl | rfl | rfl <;> exact ⟨rfl, rfl⟩
    have z : RI sc q t (k + 1) (RE sc q (dueS c s w) (some (.int k)) c s w (some (.int 2))) (o2 :: t) :=
      ⟨c, s, w, some (.int k), some (.int 2), o2, rfl, rfl, ho2, fc, fs, hw1.1, fun xs e => Nat.le_succ_of_le (hl xs e), fun _ => by simp [hw1.2]⟩
    cases c1 : okCosts c
    · have e1 : dueS c s sh = "costs" := by simp [dueS, c1]
      have e2 : dueS c s w = "costs" := by simp [dueS, c1]
      rw [e1]
      rw [e2] at z
      simp [b18_1, RE, d1, d2, ew, eqD_str, ofStr_inj, bm_index (ixc _), Turn] at z ⊢
      exact z
    · cases c2 : okSlots s
      · have e1 : dueS c s sh = "slots" := by simp [dueS, c1, c2]
        have e2 : dueS c s w = "slots" := by simp [dueS, c1, c2]
        rw [e1]
        rw [e2] at z
        simp [b18_1, RE, d1, d2, ew, eqD_str, ofStr_inj, bm_index (ixs _), Turn] at z ⊢
        exact z
      · have e2 : dueS c s w = "shelf" := by simp [dueS, c1, c2, hw1.2]
        rw [e2] at z
        have dd : dueS c s sh = "shelf" ∨ dueS c s sh = "" := by
          unfold dueS
          rw [if_neg (by rw [c1]; simp), if_neg (by rw [c2]; simp)]
          split
          · exact .inl rfl
          · exact .inr rfl
        rcases dd with e | e <;> rw [e] <;> simp [b18_1, RE, d1, d2, ew, eqD_str, ofStr_inj, bm_index (ixh _), Turn] at z ⊢ <;> exact z
theorem told_bad (n : Nat) (g c s sh : D) (r : Str) (h : Hh) (e : den prog n 3 [c, s, sh, .int 20] h = .exc (1, [("reason", .str r)]) h) : den prog (n + 2) 17 [g, c, s, sh] h = .ok (.tup [.str "argument", .str r]) h := by
  refine told_arg _ _ _ _ _ _ _ ?_
  rw [w_run at5 _ _ _ rfl]
  simp [f5, sg0, e, gcX_same]
theorem dueS_plain (c s sh : D) (h : Hh) : eqD h (.tup [.str "argument", .str (dueS c s sh)]) (.tup [.str "argument", .str (dueS c s sh)]) = some true := by
  have e1 : PyData.strOk (dueS c s sh) = true := by
    unfold dueS
    split
    · exact strOk_of _
    · split
      · exact strOk_of _
      · split <;> exact strOk_of _
  have e2 : (dueS c s sh).cps.size ≤ 20 := by
    unfold dueS
    split
    · decide +kernel
    · split
      · decide +kernel
      · split <;> decide +kernel
  have e3 : (Str.ofString "argument").cps.size ≤ 20 := by decide +kernel
  refine eqD_self ⟨?_, ?_, ?_⟩
  · simp [leafD, leafDs, e1]
  · simp [szD, szDs]
    omega
  · simp [dpD, dpDs]
theorem refused18 (n : Nat) (cs : List Int) (sl : Int) (sh : Sh) (m : M) (q q2 q3 : Nat) (sc : D) (o : O) (t : Hh) (h7 : cs.length ≤ 20) (ok : (okCosts (.tup (cs.map .int)) && okSlots (.int sl) && okShelf (shD sh)) = true) (A : At cs sl sh m (q + 1) (q2 + 1) (q3 + 1) (o :: t)) (ho : Dr o) :
    ∃ o', den prog (n + 6) 18 [.ref 0, sc, .ref (q + 1)] (o :: t) = .ok (.bl true) (o' :: t) ∧ Dr o' := by
  rw [w_run at18 (n + 5) _ _ rfl]
  have k1 := ixD_dct A.a1 (.str "costs") (g1 cs sl sh m _ _)
  have k2 := ixD_dct A.a1 (.str "slots") (g2 cs sl sh m _ _)
  have k7 := ixD_dct A.a1 (.str "shelf") (g7 cs sl sh m _ _)
  obtain ⟨r1, o1, d1, a1, b1, ho1⟩ := draw (n + 4) o t 3 ho (by omega) (by omega)
  have hr := rng_int (1 + r1) (by omega) (by omega)
  simp [f18, k1, k2, k7, d1, hr]
  generalize hL : loopM _ _ _ _ _ _ = L
  have fsh : flat2 (shD sh) = true := by cases sh <;> rfl
  have fcs : flat2 (.tup (cs.map .int)) = true := by simp [flat2, flatD]
  have key : ∃ e g, L = .nx e g ∧ RI sc q t ((1 + r1).toNat) e g := by
    rw [← hL]
    refine loopM_n (1 + r1).toNat (RI sc q t) (fun L => ∃ e g, L = .nx e g ∧ RI sc q t ((1 + r1).toNat) e g) (fun _ _ _ _ => by simp) ?_ ?_ _ _ ?_
    · intro e g i
      exact ⟨_, _, rfl, i⟩
    · intro k hk e g i
      exact refused18s (n + 4) sc q t k (by omega) e g _ i
    · refine ⟨.tup (cs.map .int), .int sl, shD sh, none, none, o1, ?_, rfl, ho1, fcs, rfl, fsh, fun xs e => ?_, fun z => absurd z (by omega)⟩
      · have : dueS (.tup (cs.map .int)) (.int sl) (shD sh) = "" := by
          rw [Bool.and_eq_true, Bool.and_eq_true] at ok
          unfold dueS
          rw [if_neg (by rw [ok.1.1]; simp), if_neg (by rw [ok.1.2]; simp), if_neg (by rw [ok.2]; simp)]
        rw [this]
        rfl
      · cases e
        simp
        omega
  obtain ⟨_, _, rfl, c, s, sh', c4, c8, o2, rfl, rfl, ho2, fc, fs, fh, _, hb⟩ := key
  obtain ⟨r2, o3, d2, a2, b2, ho3⟩ := draw (n + 4) o2 t 2 ho2 (by omega) (by omega)
  obtain ⟨g, e3, hg⟩ := atI_in [sc, D.non] r2 a2 (by simpa using b2)
  have bad := hb (by omega)
  have due : dueD c s sh' = dueS c s sh' := by
    unfold dueD dueS
    by_cases c1 : okCosts c = false
    · rw [if_pos c1, if_pos c1]
    · rw [if_neg c1, if_neg c1]
      by_cases c2 : okSlots s = false
      · rw [if_pos c2, if_pos c2]
      · rw [if_neg c2, if_neg c2, if_pos]
        simpa [c1, c2] using bad
  have td := told_bad (n + 3) g c s sh' (dueS c s sh') (o3 :: t) (by rw [demand3 n c s sh' _ fc fs fh, bad, due]; rfl)
  refine ⟨o3, ?_, ho3⟩
  simp [RE, d2, e3, td, dueS_plain]
  exact gcD_len _ _ _ (by simp)
end K14
end
section
set_option maxRecDepth 100000
set_option linter.all false
namespace K14
open PySem Mi
def Cs (cs : List Int) : Prop := ∀ c ∈ cs, 0 ≤ c ∧ c ≤ 1000000
def ShOk : Sh → Prop
  | none => True
  | some (a, b) => 0 ≤ a ∧ a ≤ 1000000 ∧ 0 ≤ b ∧ b ≤ 1000000
theorem args8 (n : Nat) (o : O) (t : Hh) (ho : Dr o) : ∃ (cs : List Int) (sl : Int) (sh : Sh) (o' : O), den prog (n + 2) 8 [.ref 0, .int 20] (o :: t) = .ok (.ref (t.length + 3)) (o' :: (t ++ [.dct [], .lst [], .dct (mkM cs sl sh (m0 cs) (t.length + 1) (t.length + 2))])) ∧
    Dr o' ∧ cs.length ≤ 20 ∧ Cs cs ∧ 0 ≤ sl ∧ sl ≤ 8 ∧ ShOk sh := by
  rw [w_run at8 (n + 1) _ _ rfl]
  obtain ⟨r1, o1, d1, a1, b1, ho1⟩ := draw n o t 21 ho (by omega) (by omega)
  obtain ⟨r2, o2, d2, a2, b2, ho2⟩ := draw n o1 t 4 ho1 (by omega) (by omega)
  obtain ⟨G, eG, G0, G1⟩ : ∃ v : Int, L2.atI [D.int 2, .int 10, .int 1000001, .int 1] r2 = some (.int v) ∧ 0 < v ∧ v ≤ 1000001 := by
    obtain ⟨a, ha, e⟩ := at_made [(2 : Int), 10, 1000001, 1] D.int r2 a2 (by simpa using b2)
    exact ⟨a, e, by simp at ha; omega⟩
  have hr := rng_int r1 (by omega) (by omega)
  simp [f8, d1, d2, eG, hr]
  generalize hL : lcM _ _ _ _ _ _ _ _ = L
  obtain ⟨ys, h', rfl, ⟨o3, rfl, ho3⟩, py, ly⟩ : ∃ ys h', L = .ok ys h' ∧ (∃ o', h' = o' :: t ∧ Dr o') ∧ (∀ y ∈ ys, ∃ v, y = D.int v ∧ (0 ≤ v ∧ v ≤ 1000000)) ∧ ys.length = r1.toNat := by
    rw [← hL]
    obtain ⟨ys, h', e1, e2, e3, e4⟩ := lcM_all (g := []) (own := [7]) (t := .nm 7) (c := semT (den prog (n + 1)) prog none .nil) (e := sem (den prog (n + 1)) prog none (.call 7 (.cons (.var 0) (.cons (.var 3) .nil)))) (env := [some (.ref 0), some (.int 20), some (.int r1), some (.int G), none, none, none, none])
      (fun h => ∃ o', h = o' :: t ∧ Dr o') (fun y => ∃ v, y = D.int v ∧ (0 ≤ v ∧ v ≤ 1000000)) (fun _ _ => by simp) (fun _ _ => by simp) ((List.range r1.toNat).map fun (k : Nat) => D.int k) (by
        rintro d _ h ⟨o', rfl, ho'⟩
        obtain ⟨r, o4, d4, a4, b4, ho4⟩ := draw n o' t G ho' G0 (by omega)
        exact ⟨_, _, _, rfl, by simp [wipe, d4], ⟨o4, rfl, ho4⟩, r, rfl, a4, by omega⟩) (o2 :: t) ⟨o2, rfl, ho2⟩
    exact ⟨ys, h', e1, e2, e3, by simpa using e4⟩
  clear hL
  obtain ⟨cs, rfl, hcs⟩ := ints_of py
  have lc : cs.length = r1.toNat := by simpa using ly
  obtain ⟨r4, o4, d4, a4, b4, ho4⟩ := draw n o3 t 9 ho3 (by omega) (by omega)
  obtain ⟨r5, o5, d5, a5, b5, ho5⟩ := draw n o4 t 3 ho4 (by omega) (by omega)
  obtain ⟨r6, o6, d6, a6, b6, ho6⟩ := draw n o5 t 3 ho5 (by omega) (by omega)
  obtain ⟨sl, eS, S0, S1⟩ : ∃ v : Int, L2.atI [D.int r4, .int r5, .int 0] r6 = some (.int v) ∧ 0 ≤ v ∧ v ≤ 8 := by
    obtain ⟨a, ha, e⟩ := at_made [r4, r5, 0] D.int r6 a6 (by simpa using b6)
    exact ⟨a, e, by simp at ha; omega⟩
  obtain ⟨r7, o7, d7, a7, b7, ho7⟩ := draw n o6 t 3 ho6 (by omega) (by omega)
  have er : r1 = (cs.length : Int) := by rw [lc]; omega
  have up (sh : Sh) (o' : O) : gcD (o :: t) (.ref (t.length + 1 + 1 + 1)) (o' :: (t ++ [.dct [], .lst [], .dct (mkM cs sl sh (m0 cs) (t.length + 1) (t.length + 2))])) = .ok (.ref (t.length + 3)) (o' :: (t ++ [.dct [], .lst [], .dct (mkM cs sl sh (m0 cs) (t.length + 1) (t.length + 2))])) := by
    rw [gcD_up _ _ _ (by simp [D.lo]; omega)]
  by_cases c1 : 0 < r7
  · obtain ⟨r8, o8, d8, a8, b8, ho8⟩ := draw n o7 t G ho7 G0 (by omega)
    obtain ⟨r9, o9, d9, a9, b9, ho9⟩ := draw n o8 t 3 ho8 (by omega) (by omega)
    obtain ⟨G2, eG2, G20, G21⟩ : ∃ v : Int, L2.atI [D.int 3, .int G, .int 1] r9 = some (.int v) ∧ 0 < v ∧ v ≤ 1000001 := by
      obtain ⟨a, ha, e⟩ := at_made [(3 : Int), G, 1] D.int r9 a9 (by simpa using b9)
      exact ⟨a, e, by simp at ha; omega⟩
    obtain ⟨r10, o10, d10, a10, b10, ho10⟩ := draw n o9 t G2 ho9 G20 (by omega)
    have e := begun cs sl (some (r8, r10)) (o10 :: t)
    simp [shD] at e
    refine ⟨cs, sl, some (r8, r10), o10, ?_, ho10, by omega, hcs, S0, S1, ⟨a8, by omega, a10, by omega⟩⟩
    simp [d4, d5, d6, eS, d7, c1, d8, d9, eG2, d10, er, e]
    exact up (some (r8, r10)) o10
  · have e := begun cs sl none (o7 :: t)
    simp [shD] at e
    refine ⟨cs, sl, none, o7, ?_, ho7, by omega, hcs, S0, S1, trivial⟩
    simp [d4, d5, d6, eS, d7, c1, er, e]
    exact up none o7
end K14
end
section
set_option maxRecDepth 100000
set_option linter.all false
namespace K14
open PySem Mi
theorem sh_bound {sh : Sh} (h : ShOk sh) : 0 ≤ shA sh ∧ shA sh ≤ 1000000 ∧ 0 ≤ shB sh ∧ shB sh ≤ 1000000 := by
  cases sh with
  | none => simp [shA, shB]
  | some p => exact h
theorem cost_perform {cs : List Int} {sh : Sh} (hc : Cs cs) (h7 : cs.length ≤ 20) (hs : ShOk sh) (m : M) (a : Ac) : m.cost ≤ (performM cs sh m a).cost ∧ (performM cs sh m a).cost ≤ m.cost + 20000000 := by
  have b := sh_bound hs
  cases a with
  | adv i =>
    have := sum_le (fun x : Int => x) 1000000 (cutD cs (some m.pos) (some (m.pos + i))) fun x hx => hc x (cutD_sub _ _ _ x hx)
    have := cutD_len cs (some m.pos) (some (m.pos + i))
    simp only [List.map_id'] at *
    simp only [performM]
    omega
  | _ => simp only [performM]; omega
theorem cost_run {cs : List Int} {sh : Sh} (hc : Cs cs) (h7 : cs.length ≤ 20) (hs : ShOk sh) (sl : Int) : ∀ (as : List Ac) (k : Nat) (m m' : M), runM cs sl sh k m as = .inr m' → m.cost ≤ m'.cost ∧ m'.cost ≤ m.cost + 20000000 * as.length
  | [], k, m, m', e => by
    cases e
    simp
  | a :: as, k, m, m', e => by
    rw [runM] at e
    split at e
    · have h1 := cost_perform hc h7 hs m a
      have h2 := cost_run hc h7 hs sl as _ _ _ e
      simp only [List.length_cons, Int.natCast_add, Int.mul_add]
      omega
    · cases e
/-- an answer -/
def An (v : D) : Prop := (∃ c : Int, v = .int c ∧ 0 ≤ c ∧ c ≤ 20000000000) ∨ ∃ (k : Int) (s : Str), v = .tup [.int k, .str s] ∧ -1 ≤ k ∧ k ≤ 1000 ∧ (s ∈ reasons ∨ s = "unfinished")
theorem An_plain {v : D} (h : An v) (hh : Hh) : Plain (rd hh v) := by
  rcases h with ⟨c, rfl, a, b⟩ | ⟨k, s, rfl, a, b, hs⟩
  · exact ⟨by simp [leafD]; omega, by simp [szD], by simp [dpD]⟩
  · have e : PyData.strOk s = true ∧ s.cps.size ≤ 20 := by
      have : s ∈ (["unfinished", "form", "done", "slot", "shelf", "empty", "nowhere", "beyond", "turn"] : List Str) := by
        rcases hs with hs | hs
        · simp [reasons] at hs ⊢; simp [hs]
        · simp [hs]
      clear hs
      simp only [List.mem_cons, List.not_mem_nil, or_false] at this
      rcases this with rfl | rfl | rfl | rfl | rfl | rfl | rfl | rfl | rfl <;> decide +kernel
    refine ⟨?_, ?_, by simp [dpD, dpDs]⟩
    · simp [leafD, leafDs, e.1]; omega
    · have := e.2; simp [szD, szDs]; omega
theorem endM_An {cs : List Int} {sh : Sh} (hc : Cs cs) (h7 : cs.length ≤ 20) (hs : ShOk sh) (sl : Int) (as : List Ac) (hl : as.length ≤ 900) : An (endM as.length (runM cs sl sh 0 (m0 cs) as)) := by
  rcases runM_is cs sl sh as 0 (m0 cs) (InvM.zero cs) with ⟨m', e, i⟩ | ⟨j, s, h1, e, l⟩
  · rw [e]
    simp only [endM]
    have := cost_run hc h7 hs sl as 0 _ _ e
    simp only [m0] at this
    split
    · exact .inr ⟨_, _, rfl, by omega, by omega, .inr rfl⟩
    · exact .inl ⟨_, rfl, by omega, by omega⟩
  · rw [e]
    exact .inr ⟨_, _, rfl, by omega, by omega, .inl h1⟩
theorem all_ok {cs : List Int} {sh : Sh} {sl : Int} (hc : Cs cs) (h7 : cs.length ≤ 20) (hs : ShOk sh) (s0 : 0 ≤ sl) (s1 : sl ≤ 8) : (okCosts (.tup (cs.map .int)) && okSlots (.int sl) && okShelf (shD sh)) = true := by
  have e1 : okCosts (.tup (cs.map .int)) = true := by
    simp [okCosts, h7, okC]
    exact hc
  have e2 : okSlots (.int sl) = true := by simp [okSlots, s0, s1]
  have e3 : okShelf (shD sh) = true := by
    cases sh with
    | none => rfl
    | some p =>
      obtain ⟨a, b⟩ := p
      obtain ⟨h1, h2, h3, h4⟩ := hs
      simp [okShelf, shD, okC, h1, h2, h3, h4]
  rw [e1, e2, e3]
  rfl
theorem flat_sh (sh : Sh) : flat2 (shD sh) = true := by cases sh <;> rfl
theorem flat_cs (cs : List Int) : flat2 (.tup (cs.map .int)) = true := by simp [flat2, flatD]
section
variable {cs : List Int} {sh : Sh} {sl : Int} (hc : Cs cs) (h7 : cs.length ≤ 20) (hs : ShOk sh) (s0 : 0 ≤ sl) (s1 : sl ≤ 8)
include hc h7 hs s0 s1
theorem demand_ok (n : Nat) (h : Hh) : den prog (n + 3) 3 [.tup (cs.map .int), .int sl, shD sh, .int 20] h = .ok .non h := by
  rw [demand3 n _ _ _ h (flat_cs cs) rfl (flat_sh sh), all_ok hc h7 hs s0 s1]
  rfl
theorem told_as (n : Nat) (as : List Ac) (h : Hh) (hl : as.length ≤ 900) :
    den prog (n + 8) 17 [.tup (as.map Ac.d), .tup (cs.map .int), .int sl, shD sh] h = .ok (endM as.length (runM cs sl sh 0 (m0 cs) as)) h := by
  have j := judge5 n cs sl sh as h (fun h => demand_ok hc h7 hs s0 s1 (n + 3) h) hl
  rcases runM_is cs sl sh as 0 (m0 cs) (InvM.zero cs) with ⟨m', e, i⟩ | ⟨k, s, h1, e, l⟩
  · rw [e] at j ⊢
    simp only [endM] at j ⊢
    split
    · next c => rw [if_pos c] at j; exact told_sch _ _ _ _ _ _ _ _ j
    · next c => rw [if_neg c] at j; exact told_ok _ _ _ _ _ _ _ j
  · rw [e] at j ⊢
    exact told_sch _ _ _ _ _ _ _ _ j
theorem told_no (n : Nat) (s : D) (h : Hh) (hd : s = .non ∨ s = .int 5 ∨ s = .str "turn") : den prog (n + 8) 17 [s, .tup (cs.map .int), .int sl, shD sh] h = .ok (.tup [.int (-1), .str "form"]) h := by
  refine told_sch _ _ _ _ _ _ _ _ ?_
  rw [w_run at5 _ _ _ rfl]
  have d := demand_ok hc h7 hs s0 s1 (n + 3) h
  rcases hd with rfl | rfl | rfl <;> simp [f5, sg0, d, isAnyD, isD, own5, gcX_same]
def Sch (s : D) : Prop := (∃ as : List Ac, s = .tup (as.map Ac.d) ∧ as.length ≤ 900) ∨ s = .non ∨ s = .int 5 ∨ s = .str "turn"
theorem both (n : Nat) (s : D) (h : Hh) (hd : Sch s) (qa x y : Nat) (mm : M) (ha : h[qa]? = some (.dct (mkM cs sl sh mm x y))) :
    ∃ v, An v ∧ den prog (n + 8) 17 [s, .tup (cs.map .int), .int sl, shD sh] h = .ok v h ∧ den prog (n + 8) 13 [.ref qa, s] h = .ok v h := by
  rcases hd with ⟨as, rfl, hl⟩ | hd
  · exact ⟨_, endM_An hc h7 hs sl as hl, told_as hc h7 hs s0 s1 n as h hl, judged13 (n + 4) cs sl sh as h hl qa x y mm ha⟩
  · exact ⟨_, .inr ⟨-1, "form", rfl, by omega, by omega, .inl (by simp [reasons])⟩, told_no hc h7 hs s0 s1 n s h hd, judged_no (n + 4) cs sl sh s h qa x y mm ha hd⟩
end
def ZI (ns : List Int) (k : Nat) (e : Mi.Env) (g : Hh) : Prop := ∃ c2 c3 c4 c5 c6 o t, e = [some (.scr ns), some (.ref 0), c2, c3, c4, c5, c6] ∧ g = o :: t ∧ Dr o
def ZK (ns : List Int) (r : SR) : Prop := ∃ e g, r = .nx e g ∧ ZI ns 0 e g
theorem main19s (ns : List Int) (k : Nat) (e : Mi.Env) (g : Hh) (i : ZI ns k e g) :
    ∃ e1, setT (.nm 2) (.int (k : Int)) e = some e1 ∧ Turn (ZI ns (k + 1)) (ZK ns) (ssems (den prog 11) prog b19_1 none e1 g) := by
  obtain ⟨c2, c3, c4, c5, c6, o, t, rfl, rfl, ho⟩ := i
  refine ⟨_, rfl, ?_⟩
  obtain ⟨cs, sl, sh, o1, d1, ho1, h7, hc, s0, s1, hs⟩ := args8 9 o t ho
  have A1 : At cs sl sh (m0 cs) (t.length + 2 + 1) (t.length + 1) (t.length + 1 + 1) (o1 :: (t ++ [.dct [], .lst [], .dct (mkM cs sl sh (m0 cs) (t.length + 1) (t.length + 2))])) :=
    ⟨by simp [List.getElem?_append_right], by simp [m0], by simp [m0, List.getElem?_append_right]⟩
  obtain ⟨as, o5, t5, m5, d5, ho5, hl, A5⟩ := made16 7 (t.length + 2) t.length (t.length + 1) cs sl sh o1 _ h7 s0 s1 (by omega) (by omega) (by omega) A1 ho1
  obtain ⟨r6, o6, d6, a6, b6, ho6⟩ := draw 10 o5 t5 16 ho5 (by omega) (by omega)
  have fin (s : D) (o : O) (ho : Dr o) (hd : Sch s) : ∃ v, ∃ o' : O, den prog 11 17 [s, .tup (cs.map .int), .int sl, shD sh] (o :: t5) = .ok v (o :: t5) ∧ den prog 11 13 [.ref (t.length + 3), s] (o :: t5) = .ok v (o :: t5)
      ∧ eqD (o :: t5) v v = some true ∧ (∃ x, biD (o :: t5) .repr [v] = some (.str x)) ∧ den prog 11 18 [.ref 0, s, .ref (t.length + 3)] (o :: t5) = .ok (.bl true) (o' :: t5) ∧ Dr o' ∧
      ixD (o :: t5) (.ref (t.length + 3)) (.str "costs") = some (.tup (cs.map .int)) ∧ ixD (o :: t5) (.ref (t.length + 3)) (.str "slots") = some (.int sl) ∧ ixD (o :: t5) (.ref (t.length + 3)) (.str "shelf") = some (shD sh) := by
    have A := A5.head o
    obtain ⟨v, hv, q1, q2⟩ := both hc h7 hs s0 s1 3 s (o :: t5) hd _ _ _ m5 A.a1
    obtain ⟨o', q3, q4⟩ := refused18 5 cs sl sh m5 (t.length + 2) t.length (t.length + 1) s o t5 h7 (all_ok hc h7 hs s0 s1) A ho
    exact ⟨v, o', q1, q2, eqD_self (An_plain hv _), repr_some (An_plain hv _), q3, q4, ixD_dct A.a1 (.str "costs") (g1 ..), ixD_dct A.a1 (.str "slots") (g2 ..), ixD_dct A.a1 (.str "shelf") (g7 ..)⟩
  by_cases c : r6 = 0
  · obtain ⟨r7, o7, d7, a7, b7, ho7⟩ := draw 10 o6 t5 5 ho6 (by omega) (by omega)
    obtain ⟨s, e2, hsm⟩ := atI_in [D.non, .int 5, .str "turn", .tup [.str "turn"], .tup [.tup [.str "turn"], .non]] r7 a7 (by simpa using b7)
    have hd : Sch s := by
      simp only [List.mem_cons, List.not_mem_nil, or_false] at hsm
      rcases hsm with rfl | rfl | rfl | rfl | rfl
      · exact .inr (.inl rfl)
      · exact .inr (.inr (.inl rfl))
      · exact .inr (.inr (.inr rfl))
      · exact .inl ⟨[.bad 12], rfl, by simp⟩
      · exact .inl ⟨[.turn, .bad 5], rfl, by simp⟩
    obtain ⟨v, o8, q1, q2, q3, ⟨x, q4⟩, q5, ho8, x1, x2, x3⟩ := fin s o7 ho7 hd
    have z : ZI ns (k + 1) [some (.scr ns), some (.ref 0), some (.int k), some (.ref (t.length + 3)), some s, some v, some v] (o8 :: t5) := ⟨_, _, _, _, _, _, _, rfl, rfl, ho8⟩
    simp [b19_1, d1, d5, d6, c, d7, e2, x1, x2, x3, q1, q2, q3, q4, q5, eqD_str, Turn] at z ⊢
    exact z
  · obtain ⟨v, o8, q1, q2, q3, ⟨x, q4⟩, q5, ho8, x1, x2, x3⟩ := fin (.tup (as.map Ac.d)) o6 ho6 (.inl ⟨as, rfl, hl⟩)
    have z : ZI ns (k + 1) [some (.scr ns), some (.ref 0), some (.int k), some (.ref (t.length + 3)), some (.tup (as.map Ac.d)), some v, some v] (o8 :: t5) := ⟨_, _, _, _, _, _, _, rfl, rfl, ho8⟩
    simp [b19_1, d1, d5, d6, c, x1, x2, x3, q1, q2, q3, q4, q5, eqD_str, Turn] at z ⊢
    exact z
theorem main (ns : List Int) (hn : ns.length ≤ 63) : ∃ h, den prog 12 19 [.scr ns] [] = .ok (.bl true) h := by
  rw [w_run at19 11 _ _ rfl]
  obtain ⟨o, d1, ho⟩ := start_ok (P := prog) (f := 6) rfl 10 ns
  have hr : rngD 0 3 1 = some ((List.range 3).map fun (k : Nat) => D.int k) := rng_ok 3 (by omega)
  simp [f19, d1, hr]
  generalize hL : loopM _ _ _ _ _ _ = L
  have key : ZK ns L := by
    rw [← hL]
    refine loopM_n 3 (ZI ns) (ZK ns) (fun _ _ _ _ => by simp) ?_ ?_ _ _ ⟨_, _, _, _, _, _, _, rfl, rfl, ho⟩
    · intro env h i
      exact ⟨_, _, rfl, i⟩
    · intro k _ e g i
      exact main19s ns k e g i
  obtain ⟨_, _, rfl, c2, c3, c4, c5, c6, o', t, rfl, rfl, _⟩ := key
  simp
  rcases gcD_or [] (.bl true) (o' :: t) with e | e <;> exact ⟨_, e⟩
end K14
end
open PySem PySem.W PyProof.Rows
set_option Elab.async false
theorem Mi.len3 {α : Type} {xs : List α} (h : xs.length = 3) : ∃ a b c, xs = [a, b, c] := by
  match xs, h with
  | [a, b, c], _ => exact ⟨a, b, c, rfl⟩
set_option maxRecDepth 100000 in
set_option maxHeartbeats 0 in
theorem PySem.Challenge.cw_countermarch_k14_whole_costs_of_any_sche_holds : PySem.Challenge.rw_countermarch_k14_whole_costs_of_any_sche.Holds := by
  w_on; o_law; k_headLK; (case hw => w_witness2)
  k_fill
  refine Mi.walk_true (n := 63) (k := 12) (P := K14.prog) (f := 19) (y := PySem.Str.ofString "script") (by decide +kernel) (by decide +kernel) rfl ⟨rfl, by decide, by decide⟩ (fun w h Y => PySem.W.kIn_of Y) ?S K14.main
  case S =>
    intro w mg fa h KX G hmg
    have hB : Mi.statB (L2.KOf KX) PySem.Challenge.rw_countermarch_k14_whole_costs_of_any_sche.prog K14.prog K14.own = true := by kernel_rfl
    obtain ⟨S, e1, e2⟩ := Mi.stat_of (w := w) KX G hB (by
      intro g sg hs
      match g, hs with
      | 0, hs =>
        cases hs
        refine Mi.sig_of (by kernel_rfl) fun s us ws X h1 h2 => ?_
        obtain ⟨a, b, c, rfl⟩ := Mi.len3 h1
        cases ws with
        | cons => cases h2
        | nil => exact PySem.W.kp_binds X fun S => by kernel_rfl
      | n + 1, hs => simp [K14.prog] at hs)
    refine ⟨K14.own, S, K14.f19, rfl, ?_, ?_, rfl⟩
    · have := (S.top 19 K14.f19 rfl rfl).1.symm.trans hmg
      simpa using this
    · rw [e2]
      kernel_rfl
