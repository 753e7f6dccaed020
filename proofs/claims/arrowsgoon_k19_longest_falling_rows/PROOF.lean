import PyProof.Rows.All
import HandS.ForExc
import HandS.ForMost
import HandS.IsInst
import HandS.CallSlots
import HandS.Conv
import HandS.TryMany
import HandS.Style
import KE.DataCmp
import KE.SortData
import HandS.TupAny
import HandS.Deep
import HandS.Text
import HandS.Strs
import HandS.SetFor
import HandS.ExcOwn
import HandS.WordsExc
import HandS.Ends
import PySem.Challenge.RW_arrowsgoon_k19_longest_falling_rows
set_option linter.all false
set_option maxRecDepth 100000
set_option maxHeartbeats 4000000
-- ZCore
namespace Z
open PySem
/-! # Values, objects, heaps -/
inductive Val where
  | non | bl (b : Bool) | int (i : Int) | str (x : Str) | tup (vs : List Val) | loc (d i : Nat)
  deriving Inhabited
mutual
def Val.beq : Val → Val → Bool
  | .non, .non => true
  | .bl a, .bl b => a == b
  | .int a, .int b => a == b
  | .str a, .str b => decide (a = b)
  | .tup a, .tup b => Val.beqs a b
  | .loc d i, .loc e j => d == e && i == j
  | _, _ => false
def Val.beqs : List Val → List Val → Bool
  | [], [] => true
  | a :: x, b :: y => Val.beq a b && Val.beqs x y
  | _, _ => false
end
mutual
theorem Val.beq_eq : ∀ (a b : Val), Val.beq a b = true → a = b
  | .non, .non, _ => rfl
  | .bl a, .bl b, h => by simp [Val.beq] at h; rw [h]
  | .int a, .int b, h => by simp [Val.beq] at h; rw [h]
  | .str a, .str b, h => by simp [Val.beq] at h; rw [h]
  | .tup a, .tup b, h => by simp only [Val.beq] at h; rw [Val.beqs_eq a b h]
  | .loc d i, .loc e j, h => by simp [Val.beq] at h; rw [h.1, h.2]
  | .non, .bl _, h | .non, .int _, h | .non, .str _, h | .non, .tup _, h | .non, .loc _ _, h
  | .bl _, .non, h | .bl _, .int _, h | .bl _, .str _, h | .bl _, .tup _, h | .bl _, .loc _ _, h
  | .int _, .non, h | .int _, .bl _, h | .int _, .str _, h | .int _, .tup _, h | .int _, .loc _ _, h
  | .str _, .non, h | .str _, .bl _, h | .str _, .int _, h | .str _, .tup _, h | .str _, .loc _ _, h
  | .tup _, .non, h | .tup _, .bl _, h | .tup _, .int _, h | .tup _, .str _, h | .tup _, .loc _ _, h
  | .loc _ _, .non, h | .loc _ _, .bl _, h | .loc _ _, .int _, h | .loc _ _, .str _, h | .loc _ _, .tup _, h => by simp [Val.beq] at h
theorem Val.beqs_eq : ∀ (a b : List Val), Val.beqs a b = true → a = b
  | [], [], _ => rfl
  | a :: x, b :: y, h => by
    simp only [Val.beqs, Bool.and_eq_true] at h
    rw [Val.beq_eq a b h.1, Val.beqs_eq x y h.2]
  | [], _ :: _, h | _ :: _, [], h => by simp [Val.beqs] at h
end
mutual
theorem Val.beq_refl : ∀ a : Val, Val.beq a a = true
  | .non => rfl
  | .bl a => by simp [Val.beq]
  | .int a => by simp [Val.beq]
  | .str a => by simp [Val.beq]
  | .tup a => by simp only [Val.beq]; exact Val.beqs_refl a
  | .loc d i => by simp [Val.beq]
theorem Val.beqs_refl : ∀ a : List Val, Val.beqs a a = true
  | [] => rfl
  | a :: x => by simp only [Val.beqs, Bool.and_eq_true]; exact ⟨Val.beq_refl a, Val.beqs_refl x⟩
end
instance : DecidableEq Val := fun a b =>
  if h : Val.beq a b = true then isTrue (Val.beq_eq a b h) else isFalse fun e => h (e ▸ Val.beq_refl a)
/-- at most the depth d is named -/
def Val.okAt (d : Nat) : Val → Bool
  | .loc e _ => decide (e ≤ d)
  | .tup vs => okAts d vs
  | _ => true
where okAts (d : Nat) : List Val → Bool
  | [] => true
  | v :: vs => Val.okAt d v && okAts d vs
/-- only depths below d -/
def Val.under (d : Nat) : Val → Bool
  | .loc e _ => decide (e < d)
  | .tup vs => unders d vs
  | _ => true
where unders (d : Nat) : List Val → Bool
  | [] => true
  | v :: vs => Val.under d v && unders d vs
/-- what stands at a location: a list, a list that is only read, a dict with flat keys, a dict with tuple keys, a set of ints -/
inductive Ob where
  | lst (vs : List Val) | ro (vs : List Val) | dK (kvs : List (Val × Val)) | dT (kvs : List (Val × Val)) | set (vs : List Val)
  deriving DecidableEq, Inhabited
def Ob.okAt (d : Nat) : Ob → Bool
  | .lst vs => vs.all (Val.okAt d)
  | .ro vs => vs.all (Val.okAt d)
  | .dK kvs => kvs.all fun p => p.1.okAt d && p.2.okAt d
  | .dT kvs => kvs.all fun p => p.1.okAt d && p.2.okAt d
  | .set vs => vs.all (Val.okAt d)
/-- the regions, the newest first -/
abbrev Hs := List (List Ob)
def get : Hs → Nat → Nat → Option Ob
  | [], _, _ => none
  | r :: rest, d, i => if d = rest.length then r[i]? else get rest d i
def put : Hs → Nat → Nat → Ob → Hs
  | [], _, _, _ => []
  | r :: rest, d, i, o => if d = rest.length then r.set i o :: rest else r :: put rest d i o
/-! # Results -/
inductive Res (α : Type) where
  | ok (a : α) (h : Hs) | exc (c : Nat) (vs : List Val) (h : Hs) | bad
abbrev M (α : Type) := Hs → Res α
def ret {α : Type} (a : α) : M α := fun h => .ok a h
def bad {α : Type} : M α := fun _ => .bad
def bnd {α β : Type} (x : M α) (f : α → M β) : M β := fun h => match x h with
  | .ok a h' => f a h'
  | .exc c vs h' => .exc c vs h'
  | .bad => .bad
def wp {α : Type} (x : Res α) (Q : α → Hs → Prop) (E : Nat → List Val → Hs → Prop) : Prop := match x with
  | .ok a h => Q a h
  | .exc c vs h => E c vs h
  | .bad => False
theorem wp_bnd {α β : Type} {x : M α} {f : α → M β} {h : Hs} {Q : β → Hs → Prop} {E : Nat → List Val → Hs → Prop} :
    wp (bnd x f h) Q E ↔ wp (x h) (fun a h' => wp (f a h') Q E) E := by
  unfold bnd
  cases x h <;> exact Iff.rfl
theorem wp_ret {α : Type} {a : α} {h : Hs} {Q : α → Hs → Prop} {E : Nat → List Val → Hs → Prop} : wp (ret a h) Q E ↔ Q a h := Iff.rfl
theorem wp_bad {α : Type} {h : Hs} {Q : α → Hs → Prop} {E : Nat → List Val → Hs → Prop} : wp ((bad : M α) h) Q E ↔ False := Iff.rfl
theorem wp_mono {α : Type} {x : Res α} {Q Q' : α → Hs → Prop} {E E' : Nat → List Val → Hs → Prop} (w : wp x Q E) (hQ : ∀ a h, Q a h → Q' a h) (hE : ∀ c vs h, E c vs h → E' c vs h) : wp x Q' E' := by
  cases x with
  | ok a h => exact hQ _ _ w
  | exc c vs h => exact hE _ _ _ w
  | bad => exact w
/-- no error may leave -/
def noExc {α : Type} (x : M α) : M α := fun h => match x h with
  | .ok a h' => .ok a h'
  | _ => .bad
theorem wp_noExc {α : Type} {x : M α} {h : Hs} {Q : α → Hs → Prop} {E : Nat → List Val → Hs → Prop} : wp (noExc x h) Q E ↔ wp (x h) Q fun _ _ _ => False := by
  unfold noExc
  cases x h <;> exact Iff.rfl
def guard (b : Bool) : M Unit := fun h => if b then .ok () h else .bad
def guardH (p : Hs → Bool) : M Unit := fun h => if p h then .ok () h else .bad
def alloc (o : Ob) : M Val := fun h => match h with
  | r :: rest => .ok (.loc rest.length r.length) ((r ++ [o]) :: rest)
  | [] => .bad
def rd : Val → M Ob
  | .loc d i => fun h => match get h d i with
    | some o => .ok o h
    | none => .bad
  | _ => bad
def wr (d i : Nat) (o : Ob) : M Unit := fun h => if o.okAt d && (get h d i).isSome then .ok () (put h d i o) else .bad
def SL : Nat := 16777216
/-! # Operations -/
inductive Bop where | add | sub | mul | fdiv | mod | pow | shl | shr | band | bor | bxor
  deriving DecidableEq
inductive Cop where | eq | ne | lt | le | gt | ge | is | isnot | isin | notin
  deriving DecidableEq
inductive Ty where | int | bool | str | tuple | list | dict
  deriving DecidableEq
/-- the items of a list or tuple -/
def itemsOf : Val → M (List Val)
  | .tup vs => ret vs
  | .loc d i => bnd (rd (.loc d i)) fun o => match o with
    | .lst vs => ret vs
    | .ro vs => ret vs
    | _ => bad
  | _ => bad
def lim : Int := 18446744073709551616
def binop : Bop → Val → Val → M Val
  | .add, .int i, .int j => ret (.int (i + j))
  | .add, .str x, .str y => bnd (guard (decide (x.length + y.length ≤ SL))) fun _ => ret (.str (x ++ y))
  | .add, .tup xs, .tup ys => bnd (guard (decide (xs.length + ys.length ≤ SL))) fun _ => ret (.tup (xs ++ ys))
  | .add, .loc d i, .loc e j => bnd (rd (.loc d i)) fun o => bnd (rd (.loc e j)) fun u => match o, u with
    | .lst xs, .lst ys => bnd (guard (decide (xs.length + ys.length ≤ SL))) fun _ => alloc (.lst (xs ++ ys))
    | _, _ => bad
  | .sub, .int i, .int j => ret (.int (i - j))
  | .mul, .int i, .int j => bnd (guard (decide ((-lim < i ∧ i < lim) ∨ (-lim < j ∧ j < lim)))) fun _ => ret (.int (i * j))
  | .mul, .loc d i, .int k => bnd (rd (.loc d i)) fun o => match o with
    | .lst xs => bnd (guard (decide (0 ≤ k ∧ k ≤ 16777216 ∧ xs.length * k.toNat ≤ SL))) fun _ => alloc (.lst (List.replicate k.toNat xs).flatten)
    | _ => bad
  | .fdiv, .int i, .int j => bnd (guard (decide (0 < j ∧ j < 1073741824))) fun _ => ret (.int (i / j))
  | .mod, .int i, .int j => bnd (guard (decide (0 < j))) fun _ => ret (.int (i % j))
  | .pow, .int i, .int j => bnd (guard (decide (0 ≤ j ∧ j ≤ 1000000 ∧ -lim < i ∧ i < lim))) fun _ => ret (.int (i ^ j.toNat))
  | .shl, .int i, .int j => bnd (guard (decide (0 ≤ j ∧ j ≤ 1000000 ∧ -lim < i ∧ i < lim))) fun _ => ret (.int (i * 2 ^ j.toNat))
  | .shr, .int i, .int j => bnd (guard (decide (0 ≤ j))) fun _ => ret (.int (i / 2 ^ j.toNat))
  | .band, .int i, .int j => ret (.int (Builtin.bitAnd i j))
  | .bor, .int i, .int j => ret (.int (Builtin.bitOr i j))
  | .bxor, .int i, .int j => ret (.int (Builtin.bitXor i j))
  | _, _, _ => bad
/-- x op= y: whole numbers alone -/
def augop (op : Bop) (x y : Val) : M Val := match x, y with
  | .int i, .int j => match op with
    | .pow => bad
    | _ => binop op (.int i) (.int j)
  | _, _ => bad
/-! == over data: lists by what they hold -/
mutual
def datV (g : Nat → Nat → Option PyData) : Val → Option PyData
  | .non => some .none
  | .bl b => some (.bool b)
  | .int i => some (.int i)
  | .str x => some (.str x)
  | .tup vs => (datVs g vs).map .tuple
  | .loc d i => g d i
def datVs (g : Nat → Nat → Option PyData) : List Val → Option (List PyData)
  | [] => some []
  | v :: vs => (datV g v).bind fun d => (datVs g vs).map fun ds => d :: ds
end
/-- the data at a location, through n lists -/
def datL (h : Hs) : Nat → Nat → Nat → Option PyData
  | 0, _, _ => none
  | n + 1, d, i => match get h d i with
    | some (.lst vs) => (datVs (datL h n) vs).map .list
    | some (.ro vs) => (datVs (datL h n) vs).map .list
    | _ => none
def dat (h : Hs) (v : Val) : Option PyData := datV (datL h 6) v
def dats (h : Hs) (vs : List Val) : Option (List PyData) := datVs (datL h 6) vs
def Val.flat : Val → Bool
  | .non => true
  | .bl _ => true
  | .int _ => true
  | .str _ => true
  | _ => false
def eqFlat : Val → Val → Bool
  | .non, .non => true
  | .bl a, .bl b => a == b
  | .bl a, .int j => decide ((if a then 1 else 0) = j)
  | .int i, .bl b => decide (i = (if b then 1 else 0))
  | .int i, .int j => decide (i = j)
  | .str x, .str y => decide (x = y)
  | _, _ => false
/-- x == y -/
def eqVal (x y : Val) : M Bool := fun h =>
  if x.flat && y.flat then .ok (eqFlat x y) h
  else match dat h x, dat h y with
    | some a, some b => if SeqAt.shaped a && SeqAt.shaped b then .ok (PyData.eqv a b) h else .bad
    | _, _ => .bad
mutual
/-- a < b, place by place -/
def ltD : PyData → PyData → Bool
  | .bool a, .bool b => !a && b
  | .int i, .int j => decide (i < j)
  | .str x, .str y => decide (x.cps.toList < y.cps.toList)
  | .list xs, .list ys => ltDs xs ys
  | .tuple xs, .tuple ys => ltDs xs ys
  | _, _ => false
def ltDs : List PyData → List PyData → Bool
  | _, [] => false
  | [], _ :: _ => true
  | x :: xs, y :: ys => if PyData.eqv x y then ltDs xs ys else ltD x y
end
def notNone : PyData → Bool
  | .none => false
  | _ => true
/-- x < y -/
def ltVal (x y : Val) : M Bool := fun h => match x, y with
  | .int i, .int j => .ok (decide (i < j)) h
  | x, y => match dat h x, dat h y with
    | some a, some b => if SeqAt.shaped a && SeqAt.shaped b && W.alike a b && W.alike b a && notNone a && notNone b then .ok (ltD a b) h else .bad
    | _, _ => .bad
def Val.key : Val → Bool
  | .int _ => true
  | .str _ => true
  | _ => false
/-- a dict's key as it may stand: flat, or a tuple of flat ones -/
def Val.keyT : Val → Bool
  | .tup vs => vs.all Val.key
  | _ => false
def look (kvs : List (Val × Val)) (k : Val) : Option Val := match kvs with
  | [] => none
  | p :: r => if p.1 = k then some p.2 else look r k
def putKV (kvs : List (Val × Val)) (k v : Val) : List (Val × Val) :=
  if (kvs.any fun p => decide (p.1 = k)) = true then kvs.map (fun p => if p.1 = k then (p.1, v) else p) else kvs ++ [(k, v)]
def delKV (kvs : List (Val × Val)) (k : Val) : List (Val × Val) := match kvs with
  | [] => []
  | p :: r => if p.1 = k then r else p :: delKV r k
/-- x in a row of values -/
def anyEq (x : Val) (ys : List Val) : M Bool := fun h =>
  if x.flat && ys.all Val.flat then .ok (ys.any fun y => eqFlat y x) h
  else match dat h x, dats h ys with
    | some a, some bs => if SeqAt.shaped a && bs.all SeqAt.shaped then .ok (bs.any fun b => PyData.eqv b a) h else .bad
    | _, _ => .bad
def inVal (x y : Val) : M Bool := match y with
  | .tup vs => anyEq x vs
  | .str z => match x with
    | .str c => ret (!(Builtin.Str.occurrences z c 0 z.length 1).isEmpty)
    | _ => bad
  | .loc d i => bnd (rd (.loc d i)) fun o => match o with
    | .lst vs => anyEq x vs
    | .ro vs => anyEq x vs
    | .dK kvs => bnd (guard x.key) fun _ => ret (look kvs x).isSome
    | .dT kvs => bnd (guard x.keyT) fun _ => ret (look kvs x).isSome
    | .set vs => match x with
      | .int k => ret (decide (.int k ∈ vs))
      | _ => bad
  | _ => bad
def cmpop : Cop → Val → Val → M Val
  | .eq, x, y => bnd (eqVal x y) fun b => ret (.bl b)
  | .ne, x, y => bnd (eqVal x y) fun b => ret (.bl (!b))
  | .lt, x, y => bnd (ltVal x y) fun b => ret (.bl b)
  | .gt, x, y => bnd (ltVal y x) fun b => ret (.bl b)
  | .le, x, y => bnd (ltVal y x) fun b => ret (.bl (!b))
  | .ge, x, y => bnd (ltVal x y) fun b => ret (.bl (!b))
  | .is, x, .non => ret (.bl (decide (x = .non)))
  | .is, x, .bl b => ret (.bl (decide (x = .bl b)))
  | .isnot, x, .non => ret (.bl (!decide (x = .non)))
  | .isnot, x, .bl b => ret (.bl (!decide (x = .bl b)))
  | .isin, x, y => bnd (inVal x y) fun b => ret (.bl b)
  | .notin, x, y => bnd (inVal x y) fun b => ret (.bl (!b))
  | _, _, _ => bad
def truth : Val → M Bool
  | .bl b => ret b
  | .non => ret false
  | .int i => ret (i != 0)
  | .str x => bnd (guard (decide (x.length ≤ SL))) fun _ => ret (x.length != 0)
  | .tup vs => ret (!vs.isEmpty)
  | .loc d i => bnd (rd (.loc d i)) fun o => match o with
    | .lst vs => ret (!vs.isEmpty)
    | .ro vs => ret (!vs.isEmpty)
    | .dK kvs => ret (!kvs.isEmpty)
    | _ => bad
/-- the place that an index means -/
def place (n : Nat) (i : Int) : Option Nat := if 0 ≤ i then (if i < n then some i.toNat else none) else if -(n : Int) ≤ i then some (i + n).toNat else none
def nth {α : Type} (xs : List α) (i : Int) : Option α := match place xs.length i with
  | some j => xs[j]?
  | none => none
def optM {α : Type} : Option α → M α
  | some a => ret a
  | none => bad
def item (a i : Val) : M Val := match a, i with
  | .tup vs, .int i => optM (nth vs i)
  | .str x, .int i => bnd (guard (decide (x.length ≤ SL))) fun _ => match nth x.cps.toList i with
    | some c => ret (.str ⟨#[c]⟩)
    | none => bad
  | .loc d j, i => bnd (rd (.loc d j)) fun o => match o, i with
    | .lst vs, .int i => optM (nth vs i)
    | .ro vs, .int i => optM (nth vs i)
    | .dK kvs, k => bnd (guard k.key) fun _ => optM (look kvs k)
    | .dT kvs, k => bnd (guard k.keyT) fun _ => optM (look kvs k)
    | _, _ => bad
  | _, _ => bad
def sIx (n d : Nat) : Option Int → Nat
  | none => d
  | some i => if i < 0 then (i + n).toNat else min i.toNat n
def cut {α : Type} (xs : List α) (lo hi : Option Int) : List α := (xs.drop (sIx xs.length 0 lo)).take (sIx xs.length xs.length hi - sIx xs.length 0 lo)
/-- a slice's part: told, or left out -/
def partV (out : Bool) (v : Val) : M (Option Int) := if out then ret none else match v with
  | .int i => ret (some i)
  | _ => bad
def sliceP (a : Val) (l u : Option Int) : M Val := match a with
  | .tup vs => ret (.tup (cut vs l u))
  | .str x => bnd (guard (decide (x.length ≤ SL))) fun _ => ret (.str ⟨(cut x.cps.toList l u).toArray⟩)
  | .loc d i => bnd (rd (.loc d i)) fun o => match o with
    | .lst vs => alloc (.lst (cut vs l u))
    | .ro vs => alloc (.lst (cut vs l u))
    | _ => bad
  | _ => bad
def backwards (a : Val) : M Val := match a with
  | .loc d i => bnd (rd (.loc d i)) fun o => match o with
    | .lst vs => alloc (.lst vs.reverse)
    | .ro vs => alloc (.lst vs.reverse)
    | _ => bad
  | _ => bad
/-- o[i] = v -/
def store (a i v : Val) : M Unit := match a with
  | .loc d j => bnd (rd (.loc d j)) fun o => match o, i with
    | .lst vs, .int i => match place vs.length i with
      | some k => wr d j (.lst (vs.set k v))
      | none => bad
    | .dK kvs, k => bnd (guard (k.key && decide (kvs.length < SL))) fun _ => wr d j (.dK (putKV kvs k v))
    | .dT kvs, k => bnd (guard (k.keyT && decide (kvs.length < SL))) fun _ => wr d j (.dT (putKV kvs k v))
    | _, _ => bad
  | _ => bad
/-! # Built-in functions and methods -/
inductive Bi where
  | len | abs | int | tuple | list | sorted | min | max | sum | all | any | dict | isinst (ts : List Ty) | listRange | tupleRange | sortedSet | lenSet | bool
  deriving DecidableEq
inductive Me where
  | append | pop | extend | index | dget | remove | count
  deriving DecidableEq
def isTy : Ty → Val → M Bool
  | .int, .int _ => ret true
  | .int, .bl _ => ret true
  | .bool, .bl _ => ret true
  | .str, .str _ => ret true
  | .tuple, .tup _ => ret true
  | .list, .loc d i => bnd (rd (.loc d i)) fun o => match o with
    | .lst _ => ret true
    | .ro _ => ret true
    | .dK _ => ret false
    | .dT _ => ret false
    | _ => bad
  | .dict, .loc d i => bnd (rd (.loc d i)) fun o => match o with
    | .lst _ => ret false
    | .ro _ => ret false
    | .dK _ => ret true
    | .dT _ => ret true
    | _ => bad
  | _, .loc d i => bnd (rd (.loc d i)) fun o => match o with
    | .set _ => bad
    | _ => ret false
  | _, _ => ret false
def anyTy : List Ty → Val → M Bool
  | [], _ => ret false
  | t :: ts, v => bnd (isTy t v) fun b => if b then ret true else anyTy ts v
def intsOf : List Val → Option (List Int)
  | [] => some []
  | .int i :: r => match intsOf r with
    | some is => some (i :: is)
    | none => none
  | _ :: _ => none
def boolsOf : List Val → Option (List Bool)
  | [] => some []
  | .bl b :: r => match boolsOf r with
    | some bs => some (b :: bs)
    | none => none
  | _ :: _ => none
def maxI : Int → List Int → Int
  | m, [] => m
  | m, x :: r => maxI (if x > m then x else m) r
def minI : Int → List Int → Int
  | m, [] => m
  | m, x :: r => minI (if x < m then x else m) r
/-- the data of a value that names no location -/
def datP (v : Val) : PyData := (datV (fun _ _ => none) v).getD .none
def sortV (vs : List Val) : List Val := vs.mergeSort (W.dataLe false datP)
def Val.full : Val → Bool
  | .tup (_ :: _) => true
  | _ => false
def Val.single : Val → Bool
  | .int _ => true
  | .str _ => true
  | .bl _ => true
  | _ => false
/-- values that may be sorted together -/
def sortOk (vs : List Val) : Bool := (vs.all Val.full || vs.all Val.single) && vs.all (fun v => (datV (fun _ _ => none) v).isSome && SeqAt.shaped (datP v)) && vs.all fun v => vs.all fun w => W.alike (datP v) (datP w)
def rangeV (a b : Int) : List Val := (List.range (b - a).toNat).map fun (k : Nat) => .int (a + (k : Int))
/-- each number once -/
def dedupI : List Int → List Int
  | [] => []
  | v :: r => v :: (dedupI r).filter fun w => decide (w ≠ v)
def sortI (is : List Int) : List Int := is.mergeSort fun a b => decide (a ≤ b)
def builtin (b : Bi) (vs : List Val) : M Val := match b, vs with
  | .len, [.str x] => bnd (guard (decide (x.length ≤ SL))) fun _ => ret (.int x.length)
  | .len, [.tup xs] => ret (.int xs.length)
  | .len, [.loc d i] => bnd (rd (.loc d i)) fun o => match o with
    | .lst xs => ret (.int xs.length)
    | .ro xs => ret (.int xs.length)
    | .dK kvs => ret (.int kvs.length)
    | .dT kvs => ret (.int kvs.length)
    | _ => bad
  | .abs, [.int i] => ret (.int (if i < 0 then -i else i))
  | .int, [.int i] => ret (.int i)
  | .int, [.bl b] => ret (.int (if b then 1 else 0))
  | .bool, [.bl b] => ret (.bl b)
  | .bool, [.int i] => ret (.bl (i != 0))
  | .tuple, [.tup xs] => ret (.tup xs)
  | .tuple, [v] => bnd (itemsOf v) fun xs => ret (.tup xs)
  | .list, [v] => bnd (itemsOf v) fun xs => alloc (.lst xs)
  | .listRange, [.int b] => bnd (guard (decide (0 ≤ b ∧ b ≤ 16777216))) fun _ => alloc (.lst (rangeV 0 b))
  | .listRange, [.int a, .int b] => bnd (guard (decide (0 ≤ a ∧ a ≤ 16777216 ∧ 0 ≤ b ∧ b ≤ 16777216))) fun _ => alloc (.lst (rangeV a b))
  | .tupleRange, [.int b] => bnd (guard (decide (0 ≤ b ∧ b ≤ 16777216))) fun _ => ret (.tup (rangeV 0 b))
  | .tupleRange, [.int a, .int b] => bnd (guard (decide (0 ≤ a ∧ a ≤ 16777216 ∧ 0 ≤ b ∧ b ≤ 16777216))) fun _ => ret (.tup (rangeV a b))
  | .sorted, [v] => bnd (itemsOf v) fun xs => bnd (guard (sortOk xs)) fun _ => alloc (.lst (sortV xs))
  | .sortedSet, [v] => bnd (itemsOf v) fun xs => match intsOf xs with
    | some is => bnd (guard (decide (is.length ≤ 60))) fun _ => alloc (.lst ((sortI (dedupI is)).map Val.int))
    | none => bad
  | .min, [.int i, .int j] => ret (.int (if j < i then j else i))
  | .max, [.int i, .int j] => ret (.int (if j > i then j else i))
  | .max, [.loc d i] => bnd (itemsOf (.loc d i)) fun xs => match intsOf xs with
    | some (x :: r) => ret (.int (maxI x r))
    | _ => bad
  | .min, [.loc d i] => bnd (itemsOf (.loc d i)) fun xs => match intsOf xs with
    | some (x :: r) => ret (.int (minI x r))
    | _ => bad
  | .sum, [.loc d i] => bnd (itemsOf (.loc d i)) fun xs => match intsOf xs with
    | some is => ret (.int is.sum)
    | none => bad
  | .all, [.loc d i] => bnd (itemsOf (.loc d i)) fun xs => match boolsOf xs with
    | some bs => ret (.bl (bs.all id))
    | none => bad
  | .any, [.loc d i] => bnd (itemsOf (.loc d i)) fun xs => match boolsOf xs with
    | some bs => ret (.bl (bs.any id))
    | none => bad
  | .isinst ts, [v] => bnd (anyTy ts v) fun b => ret (.bl b)
  | _, _ => bad
/-- the first place of x -/
def firstAt (x : Val) (ys : List Val) : M Nat := fun h =>
  if x.flat && ys.all Val.flat then match ys.findIdx? fun y => eqFlat y x with
    | some n => .ok n h
    | none => .bad
  else match dat h x, dats h ys with
    | some a, some bs => if SeqAt.shaped a && bs.all SeqAt.shaped then match bs.findIdx? fun b => PyData.eqv b a with
        | some n => .ok n h
        | none => .bad
      else .bad
    | _, _ => .bad
/-- what a method hangs on -/
inductive Kd where
  | lst | tup | dic
  deriving DecidableEq
def supp : Kd → Me → Bool
  | .lst, .append => true
  | .lst, .pop => true
  | .lst, .extend => true
  | .lst, .index => true
  | .tup, .index => true
  | .dic, .dget => true
  | _, _ => false
def kdOf (m : Me) : Val → M Kd
  | .tup _ => bnd (guard (supp .tup m)) fun _ => ret .tup
  | .loc d i => bnd (rd (.loc d i)) fun o => match o with
    | .lst _ => bnd (guard (supp .lst m)) fun _ => ret .lst
    | .ro _ => bnd (guard (supp .lst m)) fun _ => ret .lst
    | .dK _ => bnd (guard (supp .dic m)) fun _ => ret .dic
    | _ => bad
  | _ => bad
def ownItems : Val → M (List Val)
  | .tup vs => ret vs
  | .loc d i => bnd (rd (.loc d i)) fun o => match o with
    | .lst vs => ret vs
    | _ => bad
  | _ => bad
def methL (m : Me) (d i : Nat) (vs : List Val) : M Val := bnd (rd (.loc d i)) fun o => match m, o, vs with
  | .append, .lst xs, [v] => bnd (guard (decide (xs.length < SL))) fun _ => bnd (wr d i (.lst (xs ++ [v]))) fun _ => ret .non
  | .extend, .lst xs, [v] => bnd (ownItems v) fun ys => bnd (guard (decide (xs.length + ys.length ≤ SL))) fun _ => bnd (wr d i (.lst (xs ++ ys))) fun _ => ret .non
  | .pop, .lst xs, [] => match xs.getLast? with
    | some y => bnd (wr d i (.lst xs.dropLast)) fun _ => ret y
    | none => bad
  | .pop, .lst xs, [.int k] => match place xs.length k with
    | some j => match xs[j]? with
      | some y => bnd (wr d i (.lst (xs.eraseIdx j))) fun _ => ret y
      | none => bad
    | none => bad
  | .index, .lst xs, [v] => bnd (firstAt v xs) fun n => ret (.int n)
  | .index, .ro xs, [v] => bnd (firstAt v xs) fun n => ret (.int n)
  | _, _, _ => bad
def methD (m : Me) (d i : Nat) (vs : List Val) : M Val := bnd (rd (.loc d i)) fun o => match m, o, vs with
  | .dget, .dK kvs, [k] => bnd (guard k.key) fun _ => ret ((look kvs k).getD .non)
  | .dget, .dK kvs, [k, x] => bnd (guard k.key) fun _ => ret ((look kvs k).getD x)
  | _, _, _ => bad
def meth (m : Me) (k : Kd) (a : Val) (vs : List Val) : M Val := match k, a with
  | .lst, .loc d i => methL m d i vs
  | .tup, .tup xs => match m, vs with
    | .index, [v] => bnd (firstAt v xs) fun n => ret (.int n)
    | _, _ => bad
  | .dic, .loc d i => methD m d i vs
  | _, _ => bad
/-! # The syntax -/
inductive T where
  | nm (i : Nat) | tp (ts : List T)
mutual
inductive E where
  | var (i : Nat) | con (v : Val)
  | bin (op : Bop) (a b : E) | cmp (op : Cop) (a b : E) | chain (op op2 : Cop) (a b c : E)
  | neg (a : E) | inv (a : E) | not (a : E) | and (a b : E) | or (a b : E) | ifx (c a b : E)
  | idx (a i : E) | sl (a lo hi : E) | rev (a : E)
  | lst (es : List E) | tup (es : List E) | dctK (ks vs : List E) | dctT
  | call (f : Nat) (es : List E) | bi (b : Bi) (es : List E) | me (m : Me) (o : E) (es : List E)
  | comp (elt : E) (t : T) (it : I) (cond : List E) (own : List Nat)
  | comp2 (elt : E) (t : T) (it : I) (cond : List E) (t2 : T) (it2 : I) (cond2 : List E) (own own2 : List Nat)
  | dcomp (k v : E) (t : T) (it : I) (own : List Nat)
inductive I where
  | seq (e : E) | rng1 (a : E) | rng2 (a b : E) | rng3 (a b c : E) | enum (e : E) | zip (a b : E) | items (e : E) | vals (e : E)
end
inductive S where
  | asg (t : T) (e : E) | par (i j : Nat) (a b : E) | sub (o i e : E) | aug (x : Nat) (op : Bop) (e : E) | augs (o i : E) (op : Bop) (e : E)
  | ex (e : E) | ret (e : E) | retn | iff (c : E) (a b : List S) | for_ (t : T) (it : I) (body : List S) | while_ (c : E) (body : List S)
  | raise (c : Nat) (es : List E) | try_ (body : List S) (hs : List (List Nat × List S)) | brk | cont | pass
/-- a row of values to walk, and the objects that must stand still -/
structure It where
  items : List Val
  src : List (Nat × Nat × Ob)
def still (h : Hs) : List (Nat × Nat × Ob) → Bool
  | [] => true
  | (d, i, o) :: r => decide (get h d i = some o) && still h r
abbrev Zt := List (Option Val)
/-! a target takes a value -/
mutual
def bindT : T → Val → Zt → M Zt
  | .nm i, v, σ => ret (σ.set i (some v))
  | .tp ts, v, σ => match v with
    | .tup vs => bindTs ts vs σ
    | _ => bad
def bindTs : List T → List Val → Zt → M Zt
  | [], [], σ => ret σ
  | t :: ts, v :: vs, σ => bnd (bindT t v σ) fun σ' => bindTs ts vs σ'
  | _, _, _ => bad
end
def wipe (σ : Zt) : List Nat → Zt
  | [] => σ
  | i :: is => (wipe σ is).set i none
/-- walk: what is made of each item, left out where none -/
def walk (src : List (Nat × Nat × Ob)) (f : Val → M (List Val)) : List Val → M (List Val)
  | [] => bnd (guardH fun h => still h src) fun _ => ret []
  | x :: xs => bnd (guardH fun h => still h src) fun _ => bnd (f x) fun o => bnd (walk src f xs) fun ys => ret (o ++ ys)
def seqIt (v : Val) : M It := match v with
  | .tup vs => ret ⟨vs, []⟩
  | .loc d i => bnd (rd (.loc d i)) fun o => match o with
    | .lst vs => ret ⟨vs, [(d, i, o)]⟩
    | .ro vs => ret ⟨vs, [(d, i, o)]⟩
    | _ => bad
  | _ => bad
def numbered : Nat → List Val → List Val
  | _, [] => []
  | n, v :: r => .tup [.int n, v] :: numbered (n + 1) r
def pairs : List Val → List Val → List Val
  | a :: x, b :: y => .tup [a, b] :: pairs x y
  | _, _ => []
def rangeC (a c : Int) : Nat → List Val
  | 0 => []
  | n + 1 => .int a :: rangeC (a + c) c n
def cntC (a b c : Int) : Nat := if 0 < c then ((b - a + c - 1) / c).toNat else if c < 0 then ((a - b - c - 1) / (-c)).toNat else 0
def andV (x : Val) (k : M Val) : M Val := match x with
  | .bl true => k
  | .bl false => ret (.bl false)
  | _ => bad
def orV (x : Val) (k : M Val) : M Val := match x with
  | .bl true => ret (.bl true)
  | .bl false => k
  | _ => bad
def negV : Val → M Val
  | .int i => ret (.int (-i))
  | _ => bad
def invV : Val → M Val
  | .int i => ret (.int (Builtin.bitNot i))
  | _ => bad
def zipKV : List Val → List Val → List (Val × Val) → List (Val × Val)
  | k :: ks, v :: vs, acc => zipKV ks vs (putKV acc k v)
  | _, _, acc => acc
def E.isNon : E → Bool
  | .con .non => true
  | _ => false
section
variable (C : Nat → List Val → M Val)
mutual
def evalE : E → Zt → M Val
  | .var i, σ => match σ[i]? with
    | some (some v) => ret v
    | _ => bad
  | .con v, _ => ret v
  | .bin op a b, σ => bnd (evalE a σ) fun x => bnd (evalE b σ) fun y => binop op x y
  | .cmp op a b, σ => bnd (evalE a σ) fun x => bnd (evalE b σ) fun y => cmpop op x y
  | .chain op op2 a b c, σ => bnd (evalE a σ) fun x => bnd (evalE b σ) fun y => bnd (cmpop op x y) fun z => andV z (bnd (evalE c σ) fun w => cmpop op2 y w)
  | .neg a, σ => bnd (evalE a σ) negV
  | .inv a, σ => bnd (evalE a σ) invV
  | .not a, σ => bnd (evalE a σ) fun x => bnd (truth x) fun b => ret (.bl (!b))
  | .and a b, σ => bnd (evalE a σ) fun x => andV x (evalE b σ)
  | .or a b, σ => bnd (evalE a σ) fun x => orV x (evalE b σ)
  | .ifx c a b, σ => bnd (evalE c σ) fun x => bnd (truth x) fun t => if t then evalE a σ else evalE b σ
  | .idx a i, σ => bnd (evalE a σ) fun x => bnd (evalE i σ) fun y => item x y
  | .sl a lo hi, σ => bnd (evalE a σ) fun x => bnd (evalE lo σ) fun l => bnd (partV lo.isNon l) fun l => bnd (evalE hi σ) fun u => bnd (partV hi.isNon u) fun u => sliceP x l u
  | .rev a, σ => bnd (evalE a σ) backwards
  | .lst es, σ => bnd (evalEs es σ) fun vs => alloc (.lst vs)
  | .tup es, σ => bnd (evalEs es σ) fun vs => ret (.tup vs)
  | .dctK ks vs, σ => bnd (evalEs ks σ) fun kl => bnd (evalEs vs σ) fun vl => bnd (guard (kl.all Val.key && decide (kl.length = vl.length))) fun _ => alloc (.dK (zipKV kl vl []))
  | .dctT, _ => alloc (.dT [])
  | .call f es, σ => bnd (evalEs es σ) fun vs => C f vs
  | .bi b es, σ => bnd (evalEs es σ) fun vs => builtin b vs
  | .me m o es, σ => bnd (evalE o σ) fun a => bnd (kdOf m a) fun k => bnd (evalEs es σ) fun vs => meth m k a vs
  | .comp elt t it cond own, σ => bnd (evalI it σ) fun J =>
      bnd (noExc (walk J.src (fun x => bnd (bindT t x (wipe σ own)) fun σ2 => bnd (evalC cond σ2) fun b => if b then bnd (evalE elt σ2) fun y => ret [y] else ret []) J.items)) fun ys => bnd (guard (decide (ys.length ≤ SL))) fun _ => alloc (.lst ys)
  | .comp2 elt t it cond t2 it2 cond2 own own2, σ => bnd (evalI it σ) fun J =>
      bnd (noExc (walk J.src (fun x => bnd (bindT t x (wipe σ own)) fun σ2 => bnd (evalC cond σ2) fun b => if b then
          bnd (evalI it2 σ2) fun J2 => walk J2.src (fun x2 => bnd (bindT t2 x2 (wipe σ2 own2)) fun σ3 => bnd (evalC cond2 σ3) fun b2 => if b2 then bnd (evalE elt σ3) fun y => ret [y] else ret []) J2.items
        else ret []) J.items)) fun ys => bnd (guard (decide (ys.length ≤ SL))) fun _ => alloc (.lst ys)
  | .dcomp k v t it own, σ => bnd (evalI it σ) fun J =>
      bnd (walk J.src (fun x => bnd (bindT t x (wipe σ own)) fun σ2 => bnd (evalE k σ2) fun y => bnd (evalE v σ2) fun z => ret [y, z]) J.items) fun ys => bad
def evalEs : List E → Zt → M (List Val)
  | [], _ => ret []
  | e :: es, σ => bnd (evalE e σ) fun v => bnd (evalEs es σ) fun vs => ret (v :: vs)
/-- at most one test -/
def evalC : List E → Zt → M Bool
  | [], _ => ret true
  | e :: _, σ => bnd (evalE e σ) truth
def evalI : I → Zt → M It
  | .seq e, σ => bnd (evalE e σ) seqIt
  | .rng1 a, σ => bnd (evalE a σ) fun x => match x with
    | .int n => bnd (guard (decide (-16777216 ≤ n ∧ n ≤ 16777216))) fun _ => ret ⟨rangeV 0 n, []⟩
    | _ => bad
  | .rng2 a b, σ => bnd (evalE a σ) fun x => bnd (evalE b σ) fun y => match x, y with
    | .int m, .int n => bnd (guard (decide (-16777216 ≤ m ∧ m ≤ 16777216 ∧ -16777216 ≤ n ∧ n ≤ 16777216))) fun _ => ret ⟨rangeV m n, []⟩
    | _, _ => bad
  | .rng3 a b c, σ => bnd (evalE a σ) fun x => bnd (evalE b σ) fun y => bnd (evalE c σ) fun z => match x, y, z with
    | .int m, .int n, .int k => bnd (guard (decide (-16777216 ≤ m ∧ m ≤ 16777216 ∧ -16777216 ≤ n ∧ n ≤ 16777216 ∧ k ≠ 0 ∧ -1000000 ≤ k ∧ k ≤ 1000000))) fun _ => ret ⟨rangeC m k (cntC m n k), []⟩
    | _, _, _ => bad
  | .enum e, σ => bnd (evalE e σ) fun v => bnd (seqIt v) fun J => ret ⟨numbered 0 J.items, J.src⟩
  | .zip a b, σ => bnd (evalE a σ) fun x => bnd (evalE b σ) fun y => bnd (seqIt x) fun J => bnd (seqIt y) fun J2 => ret ⟨pairs J.items J2.items, J.src ++ J2.src⟩
  | .items e, σ => bnd (evalE e σ) fun v => bnd (rd v) fun o => match v, o with
    | .loc d i, .dK kvs => ret ⟨kvs.map fun p => .tup [p.1, p.2], [(d, i, o)]⟩
    | _, _ => bad
  | .vals e, σ => bnd (evalE e σ) fun v => bnd (rd v) fun o => match v, o with
    | .loc d i, .dK kvs => ret ⟨kvs.map (·.2), [(d, i, o)]⟩
    | _, _ => bad
end
end
/-- how a statement ends -/
inductive Out where
  | nx (σ : Zt) | bk (σ : Zt) | ct (σ : Zt) | rt (v : Val) | xc (c : Nat) (vs : List Val) (σ : Zt)
abbrev SM := Hs → Option (Out × Hs)
def fin (o : Out) : SM := fun h => some (o, h)
def fail : SM := fun _ => none
/-- an expression, then what comes behind it -/
def ev {α : Type} (σ : Zt) (x : M α) (k : α → SM) : SM := fun h => match x h with
  | .ok a h' => k a h'
  | .exc c vs h' => some (.xc c vs σ, h')
  | .bad => none
def sq (x : SM) (k : Zt → SM) : SM := fun h => match x h with
  | some (.nx σ, h') => k σ h'
  | r => r
/-- no error may leave -/
def calmS (x : SM) : SM := fun h => match x h with
  | some (.xc _ _ _, _) => none
  | r => r
def wps (r : Option (Out × Hs)) (Q : Out → Hs → Prop) : Prop := match r with
  | some (o, h) => Q o h
  | none => False
theorem wps_ev {α : Type} {σ : Zt} {x : M α} {k : α → SM} {h : Hs} {Q : Out → Hs → Prop} :
    wps (ev σ x k h) Q ↔ wp (x h) (fun a h' => wps (k a h') Q) (fun c vs h' => Q (.xc c vs σ) h') := by
  unfold ev
  cases x h <;> exact Iff.rfl
/-- what a block wants behind a statement -/
def thenQ (k : Zt → SM) (Q : Out → Hs → Prop) : Out → Hs → Prop
  | .nx σ, h => wps (k σ h) Q
  | o, h => Q o h
theorem wps_sq {x : SM} {k : Zt → SM} {h : Hs} {Q : Out → Hs → Prop} : wps (sq x k h) Q ↔ wps (x h) (thenQ k Q) := by
  unfold sq
  cases e : x h with
  | none => exact Iff.rfl
  | some p =>
    obtain ⟨o, h'⟩ := p
    cases o <;> exact Iff.rfl
theorem wps_fin {o : Out} {h : Hs} {Q : Out → Hs → Prop} : wps (fin o h) Q ↔ Q o h := Iff.rfl
theorem wps_fail {h : Hs} {Q : Out → Hs → Prop} : wps (fail h) Q ↔ False := Iff.rfl
theorem wps_mono {r : Option (Out × Hs)} {Q Q' : Out → Hs → Prop} (w : wps r Q) (hQ : ∀ o h, Q o h → Q' o h) : wps r Q' := by
  cases r with
  | none => exact w
  | some p => exact hQ _ _ w
theorem wps_calm {x : SM} {h : Hs} {Q : Out → Hs → Prop} (w : wps (calmS x h) Q) : wps (x h) fun o h' => (∀ c vs σ, o ≠ .xc c vs σ) ∧ Q o h' := by
  unfold calmS at w
  cases e : x h with
  | none => rw [e] at w; exact w
  | some p =>
    obtain ⟨o, h'⟩ := p
    rw [e] at w
    cases o with
    | xc c vs σ => exact w.elim
    | nx _ => exact ⟨fun _ _ _ z => (by cases z), w⟩
    | bk _ => exact ⟨fun _ _ _ z => (by cases z), w⟩
    | ct _ => exact ⟨fun _ _ _ z => (by cases z), w⟩
    | rt _ => exact ⟨fun _ _ _ z => (by cases z), w⟩
/-- turns of a while loop, at most -/
def WF : Nat := 1000000000
def stillS (σ : Zt) (src : List (Nat × Nat × Ob)) (k : SM) : SM := fun h => if still h src then k h else none
/-- behind a loop's turn -/
def turnS (x : SM) (k : Zt → SM) : SM := fun h => match x h with
  | some (.nx σ, h') => k σ h'
  | some (.ct σ, h') => k σ h'
  | some (.bk σ, h') => some (.nx σ, h')
  | r => r
def turnQ (k : Zt → SM) (Q : Out → Hs → Prop) : Out → Hs → Prop
  | .nx σ, h => wps (k σ h) Q
  | .ct σ, h => wps (k σ h) Q
  | .bk σ, h => Q (.nx σ) h
  | o, h => Q o h
theorem wps_turn {x : SM} {k : Zt → SM} {h : Hs} {Q : Out → Hs → Prop} : wps (turnS x k h) Q ↔ wps (x h) (turnQ k Q) := by
  unfold turnS
  cases e : x h with
  | none => exact Iff.rfl
  | some p =>
    obtain ⟨o, h'⟩ := p
    cases o <;> exact Iff.rfl
def loopF (src : List (Nat × Nat × Ob)) (body : Val → Zt → SM) : List Val → Zt → SM
  | [], σ => stillS σ src (fin (.nx σ))
  | x :: xs, σ => stillS σ src (turnS (body x σ) (loopF src body xs))
def loopW (c : Zt → M Bool) (body : Zt → SM) : Nat → Zt → SM
  | 0, _ => fail
  | n + 1, σ => ev σ (c σ) fun b => if b then turnS (body σ) (loopW c body n) else fin (.nx σ)
section
variable (C : Nat → List Val → M Val)
mutual
def exec : S → Zt → SM
  | .asg t e, σ => ev σ (bnd (evalE C e σ) fun v => bindT t v σ) fun σ' => fin (.nx σ')
  | .par i j a b, σ => ev σ (evalE C a σ) fun x => ev σ (evalE C b σ) fun y => fin (.nx ((σ.set i (some x)).set j (some y)))
  | .sub o i e, σ => ev σ (evalE C e σ) fun v => ev σ (evalE C o σ) fun a => ev σ (evalE C i σ) fun k => ev σ (store a k v) fun _ => fin (.nx σ)
  | .aug x op e, σ => ev σ (evalE C (.var x) σ) fun v => ev σ (evalE C e σ) fun w => ev σ (augop op v w) fun z => fin (.nx (σ.set x (some z)))
  | .augs o i op e, σ => ev σ (evalE C o σ) fun a => ev σ (evalE C i σ) fun k => ev σ (item a k) fun v => ev σ (evalE C e σ) fun w => ev σ (augop op v w) fun z => ev σ (store a k z) fun _ => fin (.nx σ)
  | .ex e, σ => ev σ (evalE C e σ) fun _ => fin (.nx σ)
  | .ret e, σ => ev σ (evalE C e σ) fun v => fin (.rt v)
  | .retn, _ => fin (.rt .non)
  | .iff c a b, σ => ev σ (bnd (evalE C c σ) truth) fun t => if t then execs a σ else execs b σ
  | .for_ t it body, σ => ev σ (evalI C it σ) fun J => loopF J.src (fun x σ => ev σ (bindT t x σ) fun σ' => execs body σ') J.items σ
  | .while_ c body, σ => loopW (fun σ => bnd (evalE C c σ) truth) (fun σ => execs body σ) WF σ
  | .raise c es, σ => ev σ (evalEs C es σ) fun vs => fin (.xc c vs σ)
  | .try_ body hs, σ => fun h => match execs body σ h with
    | some (.xc c vs σ', h') => handle hs c vs σ' h'
    | r => r
  | .brk, σ => fin (.bk σ)
  | .cont, σ => fin (.ct σ)
  | .pass, σ => fin (.nx σ)
def execs : List S → Zt → SM
  | [], σ => fin (.nx σ)
  | s :: r, σ => sq (exec s σ) fun σ' => execs r σ'
def handle : List (List Nat × List S) → Nat → List Val → Zt → SM
  | [], c, vs, σ => fin (.xc c vs σ)
  | (cs, b) :: r, c, vs, σ => if c ∈ cs then calmS (execs b σ) else handle r c vs σ
end
end
/-! # Calls -/
inductive Mode where
  | drop | keep
  deriving DecidableEq
structure Fd where
  np : Nat
  n : Nat
  mode : Mode
  body : List S
def startZ (n : Nat) (vs : List Val) : Zt := vs.map some ++ List.replicate (n - vs.length) none
mutual
def shiftV (D n : Nat) : Val → Val
  | .loc d i => if d = D then .loc (D - 1) (n + i) else .loc d i
  | .tup vs => .tup (shiftVs D n vs)
  | v => v
def shiftVs (D n : Nat) : List Val → List Val
  | [] => []
  | v :: vs => shiftV D n v :: shiftVs D n vs
end
def shiftO (D n : Nat) : Ob → Ob
  | .lst vs => .lst (shiftVs D n vs)
  | .ro vs => .ro (shiftVs D n vs)
  | .dK kvs => .dK (kvs.map fun p => (shiftV D n p.1, shiftV D n p.2))
  | .dT kvs => .dT (kvs.map fun p => (shiftV D n p.1, shiftV D n p.2))
  | .set vs => .set (shiftVs D n vs)
/-- what a def hands back: its region goes, or is laid behind the caller's -/
def leave (m : Mode) (v : Val) : M Val := fun h => match h with
  | [] => .bad
  | r :: rest => match m with
    | .drop => if v.under rest.length then .ok v rest else .bad
    | .keep => match rest with
      | [] => .bad
      | r0 :: rest0 => .ok (shiftV rest.length r0.length v) ((r0 ++ r.map (shiftO rest.length r0.length)) :: rest0)
/-- an error leaves a def -/
def leaveX (c : Nat) (es : List Val) : M Val := fun h => match h with
  | [] => .bad
  | _ :: rest => if es.all (Val.under rest.length) then .exc c es rest else .bad
def endOf (m : Mode) : Out → M Val
  | .nx _ => leave m .non
  | .rt v => leave m v
  | .xc c vs _ => leaveX c vs
  | _ => bad
def callN (tbl : List Fd) : Nat → Nat → List Val → M Val
  | 0, _, _ => bad
  | k + 1, f, vs => fun h => match tbl[f]? with
    | none => .bad
    | some d => if vs.length = d.np then match execs (callN tbl k) d.body (startZ d.n vs) ([] :: h) with
        | some (o, h') => endOf d.mode o h'
        | none => .bad
      else .bad
end Z
-- ZS1
namespace Z
open PySem PySem.Spec PyProof.Rows L2
/-! # What stands for what -/
abbrev Rho := List (List Addr)
def rget : Rho → Nat → Nat → Option Addr
  | [], _, _ => none
  | r :: rest, d, i => if d = rest.length then r[i]? else rget rest d i
/-- an object without names of its own -/
def BareO (o : PySem.Obj) : Prop := o.dict = none ∧ o.slots = #[]
/-- a tuple, known to its object, that has no dict of its own -/
def TupD (H : Hp) (a : Addr) (xs : List V) : Prop := ∃ o : PySem.Obj, H a = some (.frz o (.tup xs)) ∧ BareO o
theorem TupD.sq {K : PySem.W.Frag} {H : Hp} {a : Addr} {xs : List V} (t : TupD H a xs) : SqT K H a xs := let ⟨o, h, _⟩ := t; .inl (.inr ⟨o, h⟩)
mutual
def RepV (ρ : Rho) (H : Hp) : Val → V → Prop
  | .non, w => w = .non
  | .bl b, w => w = .bl b
  | .int i, w => w = .int i
  | .str x, w => w = .str x
  | .tup vs, w => ∃ a xs, w = .ref a ∧ TupD H a xs ∧ RepVs ρ H vs xs
  | .loc d i, w => ∃ a, w = .ref a ∧ rget ρ d i = some a
def RepVs (ρ : Rho) (H : Hp) : List Val → List V → Prop
  | [], xs => xs = []
  | v :: vs, xs => ∃ x r, xs = x :: r ∧ RepV ρ H v x ∧ RepVs ρ H vs r
end
/-- all tuples stay -/
def TupX (H H' : Hp) : Prop := ∀ a xs, TupD H a xs → TupD H' a xs
theorem TupX.refl (H : Hp) : TupX H H := fun _ _ h => h
theorem TupX.trans {H H1 H2 : Hp} (a : TupX H H1) (b : TupX H1 H2) : TupX H H2 := fun x o h => b x o (a x o h)
/-- all places stay -/
def RX (ρ ρ' : Rho) : Prop := ∀ d i a, rget ρ d i = some a → rget ρ' d i = some a
theorem RX.refl (ρ : Rho) : RX ρ ρ := fun _ _ _ h => h
theorem RX.trans {ρ ρ1 ρ2 : Rho} (a : RX ρ ρ1) (b : RX ρ1 ρ2) : RX ρ ρ2 := fun x i o h => b x i o (a x i o h)
mutual
theorem RepV.mono {ρ ρ' : Rho} {H H' : Hp} (r : RX ρ ρ') (t : TupX H H') : ∀ (v : Val) (w : V), RepV ρ H v w → RepV ρ' H' v w
  | .non, _, h => h
  | .bl _, _, h => h
  | .int _, _, h => h
  | .str _, _, h => h
  | .tup vs, w, h => by
    simp only [RepV] at h ⊢
    obtain ⟨a, xs, e, h1, h2⟩ := h
    exact ⟨a, xs, e, t _ _ h1, RepVs.mono r t vs xs h2⟩
  | .loc d i, w, h => by
    simp only [RepV] at h ⊢
    obtain ⟨a, e, h1⟩ := h
    exact ⟨a, e, r _ _ _ h1⟩
theorem RepVs.mono {ρ ρ' : Rho} {H H' : Hp} (r : RX ρ ρ') (t : TupX H H') : ∀ (vs : List Val) (ws : List V), RepVs ρ H vs ws → RepVs ρ' H' vs ws
  | [], _, h => h
  | v :: vs, ws, h => by
    simp only [RepVs] at h ⊢
    obtain ⟨x, q, e, h1, h2⟩ := h
    exact ⟨x, q, e, RepV.mono r t v x h1, RepVs.mono r t vs q h2⟩
end
section
variable {ρ : Rho} {H : Hp}
theorem repV_non {w : V} : RepV ρ H .non w ↔ w = .non := by simp only [RepV]
theorem repV_bl {b : Bool} {w : V} : RepV ρ H (.bl b) w ↔ w = .bl b := by simp only [RepV]
theorem repV_int {i : Int} {w : V} : RepV ρ H (.int i) w ↔ w = .int i := by simp only [RepV]
theorem repV_str {x : Str} {w : V} : RepV ρ H (.str x) w ↔ w = .str x := by simp only [RepV]
theorem repV_tup {vs : List Val} {w : V} : RepV ρ H (.tup vs) w ↔ ∃ a xs, w = .ref a ∧ TupD H a xs ∧ RepVs ρ H vs xs := by simp only [RepV]
theorem repV_loc {d i : Nat} {w : V} : RepV ρ H (.loc d i) w ↔ ∃ a, w = .ref a ∧ rget ρ d i = some a := by simp only [RepV]
theorem repVs_nil {ws : List V} : RepVs ρ H [] ws ↔ ws = [] := by simp only [RepVs]
theorem repVs_cons {v : Val} {vs : List Val} {ws : List V} : RepVs ρ H (v :: vs) ws ↔ ∃ x r, ws = x :: r ∧ RepV ρ H v x ∧ RepVs ρ H vs r := by simp only [RepVs]
theorem RepVs.cons' {v : Val} {vs : List Val} {w : V} {ws : List V} (h : RepV ρ H v w) (t : RepVs ρ H vs ws) : RepVs ρ H (v :: vs) (w :: ws) := repVs_cons.mpr ⟨w, ws, rfl, h, t⟩
theorem RepVs.nil' : RepVs ρ H [] [] := repVs_nil.mpr rfl
theorem RepVs.length : ∀ {vs : List Val} {ws : List V}, RepVs ρ H vs ws → ws.length = vs.length
  | [], _, h => by rw [repVs_nil.mp h]; rfl
  | v :: vs, _, h => by
    obtain ⟨x, r, rfl, _, t⟩ := repVs_cons.mp h
    simp [RepVs.length t]
theorem RepVs.get : ∀ {vs : List Val} {ws : List V} {i : Nat} {v : Val}, RepVs ρ H vs ws → vs[i]? = some v → ∃ w, ws[i]? = some w ∧ RepV ρ H v w
  | [], _, _, _, _, e => by simp at e
  | u :: vs, _, 0, v, h, e => by
    obtain ⟨x, r, rfl, q, _⟩ := repVs_cons.mp h
    simp at e; subst e
    exact ⟨x, rfl, q⟩
  | u :: vs, _, i + 1, v, h, e => by
    obtain ⟨x, r, rfl, _, t⟩ := repVs_cons.mp h
    obtain ⟨w, h1, h2⟩ := RepVs.get (i := i) (v := v) t (by simpa using e)
    exact ⟨w, by simpa using h1, h2⟩
theorem RepVs.append : ∀ {vs us : List Val} {ws xs : List V}, RepVs ρ H vs ws → RepVs ρ H us xs → RepVs ρ H (vs ++ us) (ws ++ xs)
  | [], _, _, _, h, t => by rw [repVs_nil.mp h]; exact t
  | v :: vs, _, _, _, h, t => by
    obtain ⟨x, r, rfl, q, k⟩ := repVs_cons.mp h
    exact .cons' q (RepVs.append k t)
theorem RepVs.set : ∀ {vs : List Val} {ws : List V} (i : Nat) {v : Val} {w : V}, RepVs ρ H vs ws → RepV ρ H v w → RepVs ρ H (vs.set i v) (ws.set i w)
  | [], _, _, _, _, h, _ => by rw [repVs_nil.mp h]; exact .nil'
  | u :: vs, _, 0, v, w, h, q => by
    obtain ⟨x, r, rfl, _, k⟩ := repVs_cons.mp h
    exact .cons' q k
  | u :: vs, _, i + 1, v, w, h, q => by
    obtain ⟨x, r, rfl, y, k⟩ := repVs_cons.mp h
    exact .cons' y (RepVs.set i k q)
theorem RepVs.take : ∀ {vs : List Val} {ws : List V} (n : Nat), RepVs ρ H vs ws → RepVs ρ H (vs.take n) (ws.take n)
  | [], _, n, h => by rw [repVs_nil.mp h]; simpa using RepVs.nil'
  | v :: vs, ws, 0, h => by simpa using RepVs.nil'
  | v :: vs, _, n + 1, h => by
    obtain ⟨x, r, rfl, y, k⟩ := repVs_cons.mp h
    exact .cons' y (RepVs.take n k)
theorem RepVs.drop : ∀ {vs : List Val} {ws : List V} (n : Nat), RepVs ρ H vs ws → RepVs ρ H (vs.drop n) (ws.drop n)
  | [], _, n, h => by rw [repVs_nil.mp h]; simpa using RepVs.nil'
  | v :: vs, ws, 0, h => by simpa using h
  | v :: vs, _, n + 1, h => by
    obtain ⟨x, r, rfl, y, k⟩ := repVs_cons.mp h
    exact RepVs.drop n k
theorem RepVs.eraseIdx : ∀ {vs : List Val} {ws : List V} (n : Nat), RepVs ρ H vs ws → RepVs ρ H (vs.eraseIdx n) (ws.eraseIdx n)
  | [], _, n, h => by rw [repVs_nil.mp h]; simpa using RepVs.nil'
  | v :: vs, _, 0, h => by
    obtain ⟨x, r, rfl, y, k⟩ := repVs_cons.mp h
    exact k
  | v :: vs, _, n + 1, h => by
    obtain ⟨x, r, rfl, y, k⟩ := repVs_cons.mp h
    exact .cons' y (RepVs.eraseIdx n k)
theorem RepVs.reverse : ∀ {vs : List Val} {ws : List V}, RepVs ρ H vs ws → RepVs ρ H vs.reverse ws.reverse
  | [], _, h => by rw [repVs_nil.mp h]; exact .nil'
  | v :: vs, _, h => by
    obtain ⟨x, r, rfl, y, k⟩ := repVs_cons.mp h
    rw [List.reverse_cons, List.reverse_cons]
    exact (RepVs.reverse k).append (.cons' y .nil')
theorem RepVs.dropLast {vs : List Val} {ws : List V} (h : RepVs ρ H vs ws) : RepVs ρ H vs.dropLast ws.dropLast := by
  rw [List.dropLast_eq_take, List.dropLast_eq_take, h.length]
  exact h.take _
theorem RepVs.ints : ∀ {ns : List Int} {ws : List V}, RepVs ρ H (ns.map Val.int) ws → ws = ns.map V.int
  | [], _, h => repVs_nil.mp h
  | n :: ns, _, h => by
    obtain ⟨x, r, rfl, q, t⟩ := repVs_cons.mp h
    rw [repV_int.mp q, RepVs.ints t]; rfl
theorem RepVs.bls : ∀ {ns : List Bool} {ws : List V}, RepVs ρ H (ns.map Val.bl) ws → ws = ns.map V.bl
  | [], _, h => repVs_nil.mp h
  | n :: ns, _, h => by
    obtain ⟨x, r, rfl, q, t⟩ := repVs_cons.mp h
    rw [repV_bl.mp q, RepVs.bls t]; rfl
theorem RepVs.of_ints : ∀ ns : List Int, RepVs ρ H (ns.map Val.int) (ns.map V.int)
  | [] => .nil'
  | n :: ns => .cons' (repV_int.mpr rfl) (RepVs.of_ints ns)
end
/-! # Keys -/
def keyV : Key → Val
  | .inl i => .int i
  | .inr x => .str x
theorem keyV_inj {a b : Key} (h : keyV a = keyV b) : a = b := by
  cases a <;> cases b <;> simp [keyV] at h <;> rw [h]
theorem keyVs_inj : ∀ {a b : List Key}, a.map keyV = b.map keyV → a = b
  | [], [], _ => rfl
  | [], _ :: _, h | _ :: _, [], h => by simp at h
  | x :: r, y :: t, h => by
    simp only [List.map_cons, List.cons.injEq] at h
    rw [keyV_inj h.1, keyVs_inj h.2]
theorem key_is {v : Val} (h : v.key = true) : ∃ k, v = keyV k := by
  cases v with
  | int i => exact ⟨.inl i, rfl⟩
  | str x => exact ⟨.inr x, rfl⟩
  | _ => simp [Val.key] at h
theorem keys_are : ∀ {vs : List Val}, vs.all Val.key = true → ∃ ks : List Key, vs = ks.map keyV
  | [], _ => ⟨[], rfl⟩
  | v :: vs, h => by
    simp only [List.all_cons, Bool.and_eq_true] at h
    obtain ⟨k, rfl⟩ := key_is h.1
    obtain ⟨ks, rfl⟩ := keys_are h.2
    exact ⟨k :: ks, rfl⟩
theorem repV_key {ρ : Rho} {H : Hp} {k : Key} {w : V} : RepV ρ H (keyV k) w ↔ w = kV k := by
  cases k <;> simp [keyV, kV, RepV]
theorem repVs_key {ρ : Rho} {H : Hp} : ∀ {ks : List Key} {ws : List V}, RepVs ρ H (ks.map keyV) ws → ws = ks.map kV
  | [], _, h => repVs_nil.mp h
  | k :: ks, _, h => by
    obtain ⟨x, r, rfl, q, t⟩ := repVs_cons.mp h
    rw [repV_key.mp q, repVs_key t]; rfl
/-! # Objects and heaps -/
def KRep (ρ : Rho) (H : Hp) : List (Val × Val) → List (Key × V) → Prop := Paired fun p q => p.1 = keyV q.1 ∧ RepV ρ H p.2 q.2
def TRep (ρ : Rho) (H : Hp) : List (Val × Val) → List (List Key × V) → Prop := Paired fun p q => p.1 = .tup (q.1.map keyV) ∧ RepV ρ H p.2 q.2
/-- a list that is never written -/
def RoL (K : PySem.W.Frag) (H : Hp) (a : Addr) (xs : List V) : Prop := (∃ o : PySem.Obj, H a = some (.frz o (.lst xs))) ∨
  ∃ (o : PySem.Obj) (its : Array Value) (n : Nat), K.lookup a = some o ∧ o.cls = .type "list" ∧ o.dict = none ∧ o.data = .seq its n ∧ its.size ≤ sizeLine ∧ Vals xs its.toList
theorem RoL.sq {K : PySem.W.Frag} {H : Hp} {a : Addr} {xs : List V} (h : RoL K H a xs) : SqL K H a xs := by
  rcases h with ⟨o, h⟩ | h
  · exact .inl (.inr ⟨o, h⟩)
  · exact .inr h
def ObRep (K : PySem.W.Frag) (ρ : Rho) (H : Hp) (a : Addr) : Ob → Prop
  | .lst vs => ∃ xs, H a = some (.lst xs) ∧ RepVs ρ H vs xs
  | .ro vs => ∃ xs, RoL K H a xs ∧ RepVs ρ H vs xs
  | .dK kvs => ∃ ws, H a = some (.dK ws) ∧ KRep ρ H kvs ws
  | .dT _ => False
  | .set _ => False
def Ob.isRo : Ob → Bool
  | .ro _ => true
  | _ => false
structure RelH (K : PySem.W.Frag) (ρ : Rho) (hs : Hs) (H : Hp) : Prop where
  ne : ρ ≠ []
  shape : ρ.map List.length = hs.map List.length
  ob : ∀ d i o, get hs d i = some o → ∃ a, rget ρ d i = some a ∧ ObRep K ρ H a o
  wf : ∀ d i o, get hs d i = some o → o.okAt d = true
  inj : ∀ d i o e j u a, get hs d i = some o → get hs e j = some u → o.isRo = false → u.isRo = false → rget ρ d i = some a → rget ρ e j = some a → d = e ∧ i = j
def RelS (ρ : Rho) (H : Hp) (σz : Zt) (σ : L2.St) : Prop := σz.length = σ.length ∧ ∀ (i : Nat) v, σz[i]? = some (some v) → ∃ w, σ[i]? = some (some w) ∧ RepV ρ H v w
theorem RelS.mono {ρ ρ' : Rho} {H H' : Hp} {σz : Zt} {σ : L2.St} (h : RelS ρ H σz σ) (r : RX ρ ρ') (t : TupX H H') : RelS ρ' H' σz σ :=
  ⟨h.1, fun i v e => let ⟨w, h1, h2⟩ := h.2 i v e; ⟨w, h1, RepV.mono r t _ _ h2⟩⟩
theorem RelS.set {ρ : Rho} {H : Hp} {σz : Zt} {σ : L2.St} (h : RelS ρ H σz σ) (i : Nat) {v : Val} {w : V} (r : RepV ρ H v w) : RelS ρ H (σz.set i (some v)) (σ.set i (some w)) := by
  refine ⟨by simp [h.1], fun j u e => ?_⟩
  by_cases hj : i = j
  · subst hj
    by_cases hl : i < σz.length
    · rw [List.getElem?_set_self hl] at e
      cases e
      exact ⟨w, List.getElem?_set_self (by rw [← h.1]; exact hl), r⟩
    · rw [List.getElem?_eq_none (by simpa using hl)] at e
      cases e
  · rw [List.getElem?_set_ne hj] at e
    obtain ⟨w', h1, h2⟩ := h.2 j u e
    exact ⟨w', by rw [List.getElem?_set_ne hj]; exact h1, h2⟩
theorem RelS.unset {ρ : Rho} {H : Hp} {σz : Zt} {σ : L2.St} (h : RelS ρ H σz σ) (i : Nat) : RelS ρ H (σz.set i none) (σ.set i none) := by
  refine ⟨by simp [h.1], fun j u e => ?_⟩
  by_cases hj : i = j
  · subst hj
    by_cases hl : i < σz.length
    · rw [List.getElem?_set_self hl] at e; cases e
    · rw [List.getElem?_eq_none (by simpa using hl)] at e; cases e
  · rw [List.getElem?_set_ne hj] at e
    obtain ⟨w', h1, h2⟩ := h.2 j u e
    exact ⟨w', by rw [List.getElem?_set_ne hj]; exact h1, h2⟩
theorem RelS.wipe {ρ : Rho} {H : Hp} {σz : Zt} {σ : L2.St} (h : RelS ρ H σz σ) : ∀ is : List Nat, RelS ρ H (wipe σz is) (L2.wipe σ is)
  | [] => h
  | i :: is => (RelS.wipe h is).unset i
theorem rget_len {ρ : Rho} : ∀ {d i : Nat} {a : Addr}, rget ρ d i = some a → d < ρ.length := by
  induction ρ with
  | nil => intro d i a h; simp [rget] at h
  | cons r rest ih =>
    intro d i a h
    unfold rget at h
    split at h
    · rename_i e; subst e; simp
    · have := ih h; simp; omega
theorem get_len {hs : Hs} : ∀ {d i : Nat} {o : Ob}, get hs d i = some o → d < hs.length := by
  induction hs with
  | nil => intro d i a h; simp [get] at h
  | cons r rest ih =>
    intro d i a h
    unfold get at h
    split at h
    · rename_i e; subst e; simp
    · have := ih h; simp; omega
theorem RelH.len {K : PySem.W.Frag} {ρ : Rho} {hs : Hs} {H : Hp} (h : RelH K ρ hs H) : ρ.length = hs.length := by
  have := congrArg List.length h.shape
  simpa using this
/-! depths -/
mutual
theorem RepV.okAt {ρ : Rho} {H : Hp} {D : Nat} (hD : ρ.length = D + 1) : ∀ (v : Val) (w : V), RepV ρ H v w → v.okAt D = true
  | .non, _, _ => rfl
  | .bl _, _, _ => rfl
  | .int _, _, _ => rfl
  | .str _, _, _ => rfl
  | .tup vs, w, h => by
    obtain ⟨a, xs, _, _, h2⟩ := repV_tup.mp h
    exact RepVs.okAts hD vs xs h2
  | .loc d i, w, h => by
    obtain ⟨a, _, h1⟩ := repV_loc.mp h
    have := rget_len h1
    simp [Val.okAt]; omega
theorem RepVs.okAts {ρ : Rho} {H : Hp} {D : Nat} (hD : ρ.length = D + 1) : ∀ (vs : List Val) (ws : List V), RepVs ρ H vs ws → Val.okAt.okAts D vs = true
  | [], _, _ => rfl
  | v :: vs, ws, h => by
    obtain ⟨x, r, rfl, q, t⟩ := repVs_cons.mp h
    simp only [Val.okAt.okAts, Bool.and_eq_true]
    exact ⟨RepV.okAt hD v x q, RepVs.okAts hD vs r t⟩
end
theorem okAts_all {D : Nat} : ∀ vs : List Val, Val.okAt.okAts D vs = vs.all (Val.okAt D)
  | [] => rfl
  | v :: vs => by simp only [Val.okAt.okAts, List.all_cons, okAts_all vs]
theorem RepVs.okAll {ρ : Rho} {H : Hp} {D : Nat} (hD : ρ.length = D + 1) {vs : List Val} {ws : List V} (h : RepVs ρ H vs ws) : vs.all (Val.okAt D) = true := by
  rw [← okAts_all]; exact RepVs.okAts hD vs ws h
theorem unders_all {D : Nat} : ∀ vs : List Val, Val.under.unders D vs = vs.all (Val.under D)
  | [] => rfl
  | v :: vs => by simp only [Val.under.unders, List.all_cons, unders_all vs]
mutual
theorem Val.okAt_mono {D D' : Nat} (h : D ≤ D') : ∀ v : Val, v.okAt D = true → v.okAt D' = true
  | .non, _ => rfl
  | .bl _, _ => rfl
  | .int _, _ => rfl
  | .str _, _ => rfl
  | .tup vs, q => Val.okAts_mono h vs q
  | .loc d i, q => by simp [Val.okAt] at q ⊢; omega
theorem Val.okAts_mono {D D' : Nat} (h : D ≤ D') : ∀ vs : List Val, Val.okAt.okAts D vs = true → Val.okAt.okAts D' vs = true
  | [], _ => rfl
  | v :: vs, q => by
    simp only [Val.okAt.okAts, Bool.and_eq_true] at q ⊢
    exact ⟨Val.okAt_mono h v q.1, Val.okAts_mono h vs q.2⟩
end
/-! ## an object changes, an object is new -/
theorem KRep.mono {ρ ρ' : Rho} {H H' : Hp} (r : RX ρ ρ') (t : TupX H H') {kvs : List (Val × Val)} {ws : List (Key × V)} (h : KRep ρ H kvs ws) : KRep ρ' H' kvs ws := by
  induction h with
  | nil => exact .nil
  | cons h1 _ ih => exact .cons ⟨h1.1, RepV.mono r t _ _ h1.2⟩ ih
theorem TRep.mono {ρ ρ' : Rho} {H H' : Hp} (r : RX ρ ρ') (t : TupX H H') {kvs : List (Val × Val)} {ws : List (List Key × V)} (h : TRep ρ H kvs ws) : TRep ρ' H' kvs ws := by
  induction h with
  | nil => exact .nil
  | cons h1 _ ih => exact .cons ⟨h1.1, RepV.mono r t _ _ h1.2⟩ ih
/-- the object at a is as it was -/
theorem ObRep.mono {K : PySem.W.Frag} {ρ ρ' : Rho} {H H' : Hp} {a : Addr} (r : RX ρ ρ') (t : TupX H H') (ha : ∀ u, H a = some u → H' a = some u) : ∀ {o : Ob}, ObRep K ρ H a o → ObRep K ρ' H' a o
  | .lst vs, ⟨xs, h1, h2⟩ => ⟨xs, ha _ h1, RepVs.mono r t _ _ h2⟩
  | .ro vs, ⟨xs, h1, h2⟩ => ⟨xs, by
      rcases h1 with ⟨o, h⟩ | h
      · exact .inl ⟨o, ha _ h⟩
      · exact .inr h, RepVs.mono r t _ _ h2⟩
  | .dK kvs, ⟨ws, h1, h2⟩ => ⟨ws, ha _ h1, KRep.mono r t h2⟩
  | .dT _, h => h
  | .set _, h => h
theorem ObRep.tracked {K : PySem.W.Frag} {ρ : Rho} {H : Hp} {a : Addr} : ∀ {o : Ob}, ObRep K ρ H a o → o.isRo = false → ∃ u, H a = some u ∧ Mut (some u)
  | .lst vs, ⟨xs, h1, _⟩, _ => ⟨_, h1, True.intro⟩
  | .ro vs, _, e => by simp [Ob.isRo] at e
  | .dK kvs, ⟨ws, h1, _⟩, _ => ⟨_, h1, True.intro⟩
  | .dT _, h, _ => h.elim
  | .set _, h, _ => h.elim
theorem tupX_upd {H : Hp} {p : Addr} {o : HO} (h : ∀ u, H p = some u → ∀ ob xs, u ≠ .frz ob (.tup xs)) : TupX H (upd H p o) := fun a xs t => by
  obtain ⟨ob, e, d⟩ := t
  have : a ≠ p := fun z => h _ (by rw [← z]; exact e) ob xs rfl
  exact ⟨ob, by rw [upd_ne this]; exact e, d⟩
theorem tupX_new {H : Hp} {p : Addr} {o : HO} (h : H p = none) : TupX H (upd H p o) := tupX_upd fun u e => by rw [h] at e; cases e
theorem tupX_mut {H : Hp} {p : Addr} {o : HO} (h : Mut (H p)) : TupX H (upd H p o) := tupX_upd fun u e ob xs z => by rw [e, z] at h; exact h
/-- the same heap, otherwise tracked: a new thing that is not told -/
theorem RelH.side {K : PySem.W.Frag} {ρ : Rho} {hs : Hs} {H : Hp} {p : Addr} {o : HO} (R : RelH K ρ hs H) (h : H p = none) : RelH K ρ hs (upd H p o) :=
  ⟨R.ne, R.shape, fun d i u e => by
    obtain ⟨a, h1, h2⟩ := R.ob d i u e
    exact ⟨a, h1, ObRep.mono (RX.refl _) (tupX_new h) (fun v hv => by rw [upd_ne (ne_of_none hv h)]; exact hv) h2⟩, R.wf, R.inj⟩
/-- growth of the newest region -/
def Grow (ρ ρ' : Rho) : Prop := ∃ r t rest, ρ = r :: rest ∧ ρ' = (r ++ t) :: rest
theorem Grow.refl {r : List Addr} {rest : Rho} : Grow (r :: rest) (r :: rest) := ⟨r, [], rest, rfl, by simp⟩
theorem Grow.self {ρ : Rho} {D : Nat} (h : ρ.length = D + 1) : Grow ρ ρ := by
  cases ρ with
  | nil => simp at h
  | cons r rest => exact Grow.refl
theorem Grow.trans {ρ ρ1 ρ2 : Rho} (a : Grow ρ ρ1) (b : Grow ρ1 ρ2) : Grow ρ ρ2 := by
  obtain ⟨r, t, rest, rfl, rfl⟩ := a
  obtain ⟨r', t', rest', e, rfl⟩ := b
  cases e
  exact ⟨r, t ++ t', rest, rfl, by simp⟩
theorem Grow.left {ρ ρ' : Rho} (a : Grow ρ ρ') : Grow ρ ρ := by
  obtain ⟨r, t, rest, rfl, rfl⟩ := a
  exact Grow.refl
theorem Grow.rx {ρ ρ' : Rho} (g : Grow ρ ρ') : RX ρ ρ' := by
  obtain ⟨r, t, rest, rfl, rfl⟩ := g
  intro d i a h
  unfold rget at h ⊢
  split
  · rename_i e
    rw [if_pos e] at h
    have hl : i < r.length := (List.getElem?_eq_some_iff.mp h).1
    rw [List.getElem?_append_left hl]; exact h
  · rename_i e
    rw [if_neg e] at h; exact h
theorem Grow.len {ρ ρ' : Rho} (g : Grow ρ ρ') : ρ'.length = ρ.length := by
  obtain ⟨r, t, rest, rfl, rfl⟩ := g
  simp
theorem get_cons {r : List Ob} {rest : Hs} {d i : Nat} : get (r :: rest) d i = if d = rest.length then r[i]? else get rest d i := rfl
theorem rget_cons {r : List Addr} {rest : Rho} {d i : Nat} : rget (r :: rest) d i = if d = rest.length then r[i]? else rget rest d i := rfl
/-- a new object -/
theorem RelH.new {K : PySem.W.Frag} {r : List Addr} {rest : Rho} {q : List Ob} {hs : Hs} {H : Hp} {p : Addr} {u : HO} {o : Ob} (R : RelH K (r :: rest) (q :: hs) H) (hp : H p = none)
    (ho : ObRep K ((r ++ [p]) :: rest) (upd H p u) p o) (ok : o.okAt hs.length = true) : RelH K ((r ++ [p]) :: rest) ((q ++ [o]) :: hs) (upd H p u) := by
  have hl : r.length = q.length := by have := R.shape; simp only [List.map_cons, List.cons.injEq] at this; exact this.1
  have hn : rest.length = hs.length := by have := R.len; simpa using this
  have g : Grow (r :: rest) ((r ++ [p]) :: rest) := ⟨r, [p], rest, rfl, rfl⟩
  have old : ∀ d i w, get ((q ++ [o]) :: hs) d i = some w → (get (q :: hs) d i = some w) ∨ (d = hs.length ∧ i = q.length ∧ w = o) := fun d i w e => by
    rw [get_cons] at e
    by_cases hd : d = hs.length
    · rw [if_pos hd] at e
      by_cases hi : i < q.length
      · rw [List.getElem?_append_left hi] at e
        exact .inl (by rw [get_cons, if_pos hd]; exact e)
      · rw [List.getElem?_append_right (by omega)] at e
        have : i - q.length = 0 := by
          have h1 := (List.getElem?_eq_some_iff.mp e).1
          simp at h1; omega
        rw [this] at e
        simp at e
        exact .inr ⟨hd, by omega, e.symm⟩
    · rw [if_neg hd] at e
      exact .inl (by rw [get_cons, if_neg hd]; exact e)
  have stay : ∀ a w, H a = some w → upd H p u a = some w := fun a w e => by rw [upd_ne (ne_of_none e hp)]; exact e
  have newAt : rget ((r ++ [p]) :: rest) hs.length q.length = some p := by
    rw [rget_cons, if_pos hn.symm, ← hl]; simp
  refine ⟨by simp, by have := R.shape; simp only [List.map_cons, List.cons.injEq] at this ⊢; exact ⟨by simp [this.1], this.2⟩, fun d i w e => ?_, fun d i w e => ?_, fun d i w e' j v a h1 h2 n1 n2 a1 a2 => ?_⟩
  · rcases old d i w e with e | ⟨rfl, rfl, rfl⟩
    · obtain ⟨a, h1, h2⟩ := R.ob d i w e
      exact ⟨a, g.rx _ _ _ h1, ObRep.mono g.rx (tupX_new hp) (stay a) h2⟩
    · exact ⟨p, newAt, ho⟩
  · rcases old d i w e with e | ⟨rfl, rfl, rfl⟩
    · exact R.wf d i w e
    · exact ok
  · rcases old d i w h1 with h1 | ⟨rfl, rfl, ew⟩
    · rcases old e' j v h2 with h2 | ⟨rfl, rfl, ev⟩
      · obtain ⟨a', b1, _⟩ := R.ob d i w h1
        obtain ⟨a'', b2, _⟩ := R.ob e' j v h2
        have c1 := g.rx _ _ _ b1
        have c2 := g.rx _ _ _ b2
        rw [a1] at c1; cases c1
        rw [a2] at c2; cases c2
        exact R.inj d i w e' j v _ h1 h2 n1 n2 b1 b2
      · obtain ⟨a', b1, b3⟩ := R.ob d i w h1
        have c1 := g.rx _ _ _ b1
        rw [a1] at c1; cases c1
        rw [a2] at newAt; cases newAt
        obtain ⟨x, hx, _⟩ := b3.tracked n1
        rw [hp] at hx; cases hx
    · rcases old e' j v h2 with h2 | ⟨rfl, rfl, ev⟩
      · obtain ⟨a', b1, b3⟩ := R.ob e' j v h2
        have c1 := g.rx _ _ _ b1
        rw [a2] at c1; cases c1
        rw [a1] at newAt; cases newAt
        obtain ⟨x, hx, _⟩ := b3.tracked n2
        rw [hp] at hx; cases hx
      · exact ⟨rfl, rfl⟩
theorem get_put {o : Ob} : ∀ {hs : Hs} {d i : Nat} {e j : Nat} {w : Ob}, get (put hs d i o) e j = some w → (get hs e j = some w ∧ ¬ (e = d ∧ j = i)) ∨ (e = d ∧ j = i ∧ w = o ∧ ∃ u, get hs d i = some u) := by
  intro hs
  induction hs with
  | nil => intro d i e j w h; simp [put, get] at h
  | cons r rest ih =>
    intro d i e j w h
    unfold put at h
    have len : ∀ (hs : Hs) (d i : Nat), (put hs d i o).length = hs.length := by
      intro hs; induction hs with
      | nil => intros; rfl
      | cons r t ih => intro d i; unfold put; split <;> simp [ih]
    split at h
    · rename_i hd
      rw [get_cons] at h
      by_cases he : e = rest.length
      · rw [if_pos he] at h
        by_cases hj : i = j
        · subst hj
          by_cases hl : i < r.length
          · rw [List.getElem?_set_self hl] at h
            cases h
            exact .inr ⟨he.trans hd.symm, rfl, rfl, r[i], by rw [get_cons, if_pos hd]; exact List.getElem?_eq_getElem hl⟩
          · rw [List.getElem?_eq_none (by simpa using hl)] at h; cases h
        · rw [List.getElem?_set_ne hj] at h
          exact .inl ⟨by rw [get_cons, if_pos he]; exact h, fun z => hj z.2.symm⟩
      · rw [if_neg he] at h
        exact .inl ⟨by rw [get_cons, if_neg he]; exact h, fun z => he (z.1.trans hd)⟩
    · rename_i hd
      rw [get_cons, len] at h
      by_cases he : e = rest.length
      · rw [if_pos he] at h
        exact .inl ⟨by rw [get_cons, if_pos he]; exact h, fun z => hd (z.1.symm.trans he)⟩
      · rw [if_neg he] at h
        rcases ih h with ⟨h1, h2⟩ | ⟨h1, h2, h3, u, h4⟩
        · exact .inl ⟨by rw [get_cons, if_neg he]; exact h1, h2⟩
        · exact .inr ⟨h1, h2, h3, u, by rw [get_cons, if_neg hd]; exact h4⟩
theorem put_shape {o : Ob} : ∀ {hs : Hs} {d i : Nat}, (put hs d i o).map List.length = hs.map List.length := by
  intro hs
  induction hs with
  | nil => intros; rfl
  | cons r t ih => intro d i; unfold put; split <;> simp [ih]
/-- an object changes -/
theorem RelH.put {K : PySem.W.Frag} {ρ : Rho} {hs : Hs} {H : Hp} {p : Addr} {u : HO} {d i : Nat} {o o' : Ob} (R : RelH K ρ hs H) (hg : get hs d i = some o) (hr : rget ρ d i = some p) (hn : o.isRo = false)
    (ho : ObRep K ρ (upd H p u) p o') (ok : o'.okAt d = true) (hn' : o'.isRo = false) : RelH K ρ (put hs d i o') (upd H p u) ∧ TupX H (upd H p u) := by
  obtain ⟨a, ha, hb⟩ := R.ob d i o hg
  rw [hr] at ha; cases ha
  obtain ⟨x, hx, mx⟩ := hb.tracked hn
  have tx : TupX H (upd H p u) := tupX_mut (by rw [hx]; exact mx)
  refine ⟨⟨R.ne, R.shape.trans put_shape.symm, fun e j w q => ?_, fun e j w q => ?_, fun e j w e' j' v b h1 h2 n1 n2 a1 a2 => ?_⟩, tx⟩
  · rcases get_put q with ⟨q, ne⟩ | ⟨rfl, rfl, rfl, _⟩
    · obtain ⟨b, h1, h2⟩ := R.ob e j w q
      refine ⟨b, h1, ?_⟩
      by_cases hw : w.isRo = true
      · -- a list that is only read
        cases w with
        | ro vs =>
          obtain ⟨xs, g1, g2⟩ := h2
          refine ⟨xs, ?_, RepVs.mono (RX.refl _) tx _ _ g2⟩
          rcases g1 with ⟨ob, h⟩ | h
          · have hbp : b ≠ p := fun z => by
              subst z
              rw [hx] at h; cases h; exact mx.elim
            exact .inl ⟨ob, by rw [upd_ne hbp]; exact h⟩
          · exact .inr h
        | lst _ => simp [Ob.isRo] at hw
        | dK _ => simp [Ob.isRo] at hw
        | dT _ => simp [Ob.isRo] at hw
        | set _ => simp [Ob.isRo] at hw
      · have hbp : b ≠ p := fun z => by
          subst z
          exact ne (R.inj e j w d i o _ q hg (by simpa using hw) hn h1 hr)
        exact ObRep.mono (RX.refl _) tx (fun v hv => by rw [upd_ne hbp]; exact hv) h2
    · exact ⟨p, hr, ho⟩
  · rcases get_put q with ⟨q, _⟩ | ⟨rfl, rfl, rfl, _⟩
    · exact R.wf e j w q
    · exact ok
  · rcases get_put h1 with ⟨q1, m1⟩ | ⟨rfl, rfl, rfl, _⟩
    · rcases get_put h2 with ⟨q2, m2⟩ | ⟨rfl, rfl, rfl, _⟩
      · exact R.inj e j w e' j' v b q1 q2 n1 n2 a1 a2
      · exact R.inj e j w _ _ o b q1 hg n1 hn a1 a2
    · rcases get_put h2 with ⟨q2, m2⟩ | ⟨rfl, rfl, rfl, _⟩
      · exact R.inj _ _ o e' j' v b hg q2 hn n2 a1 a2
      · exact ⟨rfl, rfl⟩
theorem RelH.self {K : PySem.W.Frag} {ρ : Rho} {hs : Hs} {H : Hp} (R : RelH K ρ hs H) : Grow ρ ρ := by
  cases ρ with
  | nil => exact absurd rfl R.ne
  | cons r rest => exact Grow.refl
end Z
-- ZS2
namespace Z
open PySem PySem.Spec PyProof.Rows L2
/-! # What is wanted behind a value -/
/-- told as an object that may change -/
def Told (ρ : Rho) (hs : Hs) (a : Addr) : Prop := ∃ d i o, get hs d i = some o ∧ o.isRo = false ∧ rget ρ d i = some a
/-- from one state to a later one -/
structure Stp (ρ : Rho) (hs : Hs) (H : Hp) (ρ' : Rho) (hs' : Hs) (H' : Hp) : Prop where
  grow : Grow ρ ρ'
  tup : TupX H H'
  kp : ∀ a u, H a = some u → ¬ Told ρ hs a → H' a = some u ∧ ¬ Told ρ' hs' a
theorem Stp.trans {ρ ρ1 ρ2 : Rho} {hs hs1 hs2 : Hs} {H H1 H2 : Hp} (a : Stp ρ hs H ρ1 hs1 H1) (b : Stp ρ1 hs1 H1 ρ2 hs2 H2) : Stp ρ hs H ρ2 hs2 H2 :=
  ⟨a.grow.trans b.grow, a.tup.trans b.tup, fun x u e n => let ⟨h1, h2⟩ := a.kp x u e n; b.kp x u h1 h2⟩
theorem Stp.rx {ρ ρ1 : Rho} {hs hs1 : Hs} {H H1 : Hp} (a : Stp ρ hs H ρ1 hs1 H1) : RX ρ ρ1 := a.grow.rx
theorem RelH.refl {K : PySem.W.Frag} {ρ : Rho} {hs : Hs} {H : Hp} (R : RelH K ρ hs H) : Stp ρ hs H ρ hs H := ⟨R.self, TupX.refl _, fun _ _ e n => ⟨e, n⟩⟩
theorem RelH.untold {K : PySem.W.Frag} {ρ : Rho} {hs : Hs} {H : Hp} (R : RelH K ρ hs H) {p : Addr} (h : H p = none) : ¬ Told ρ hs p := fun ⟨d, i, o, h1, h2, h3⟩ => by
  obtain ⟨a, e, b⟩ := R.ob d i o h1
  rw [h3] at e; cases e
  obtain ⟨u, e, _⟩ := b.tracked h2
  rw [h] at e; cases e
/-- a thing that is not told -/
theorem RelH.sideS {K : PySem.W.Frag} {ρ : Rho} {hs : Hs} {H : Hp} {p : Addr} {o : HO} (R : RelH K ρ hs H) (h : H p = none) : Stp ρ hs H ρ hs (upd H p o) :=
  ⟨R.self, tupX_new h, fun a u e n => ⟨by rw [upd_ne (ne_of_none e h)]; exact e, n⟩⟩
theorem stp_new {K : PySem.W.Frag} {r : List Addr} {rest : Rho} {q : List Ob} {hs : Hs} {H : Hp} {p : Addr} {u : HO} {o : Ob} (R : RelH K (r :: rest) (q :: hs) H) (hp : H p = none) :
    Stp (r :: rest) (q :: hs) H ((r ++ [p]) :: rest) ((q ++ [o]) :: hs) (upd H p u) := by
  have hl : r.length = q.length := by have := R.shape; simp only [List.map_cons, List.cons.injEq] at this; exact this.1
  have hn : rest.length = hs.length := by have := R.len; simpa using this
  refine ⟨⟨r, [p], rest, rfl, rfl⟩, tupX_new hp, fun a v e n => ⟨by rw [upd_ne (ne_of_none e hp)]; exact e, fun ⟨d, i, w, h1, h2, h3⟩ => ?_⟩⟩
  rw [get_cons] at h1
  rw [rget_cons] at h3
  by_cases hd : d = hs.length
  · rw [if_pos hd] at h1
    rw [if_pos (hd.trans hn.symm)] at h3
    by_cases hi : i < q.length
    · rw [List.getElem?_append_left hi] at h1
      rw [List.getElem?_append_left (by omega)] at h3
      exact n ⟨d, i, w, by rw [get_cons, if_pos hd]; exact h1, h2, by rw [rget_cons, if_pos (hd.trans hn.symm)]; exact h3⟩
    · rw [List.getElem?_append_right (by omega)] at h3
      have h4 := (List.getElem?_eq_some_iff.mp h3).1
      simp at h4
      have : i - r.length = 0 := by omega
      rw [this] at h3
      simp at h3
      subst h3
      rw [hp] at e; cases e
  · rw [if_neg hd] at h1
    rw [if_neg (fun z => hd (z.trans hn))] at h3
    exact n ⟨d, i, w, by rw [get_cons, if_neg hd]; exact h1, h2, by rw [rget_cons, if_neg (fun z => hd (z.trans hn))]; exact h3⟩
theorem RelH.putS {K : PySem.W.Frag} {ρ : Rho} {hs : Hs} {H : Hp} {p : Addr} {u : HO} {d i : Nat} {o o' : Ob} (R : RelH K ρ hs H) (hg : get hs d i = some o) (hr : rget ρ d i = some p) (hn : o.isRo = false)
    (ho : ObRep K ρ (upd H p u) p o') (ok : o'.okAt d = true) (hn' : o'.isRo = false) : RelH K ρ (Z.put hs d i o') (upd H p u) ∧ Stp ρ hs H ρ (Z.put hs d i o') (upd H p u) := by
  obtain ⟨R1, t⟩ := R.put hg hr hn ho ok hn'
  refine ⟨R1, R.self, t, fun a v e n => ⟨?_, fun ⟨d', i', w, h1, h2, h3⟩ => ?_⟩⟩
  · have : a ≠ p := fun z => n ⟨d, i, o, hg, hn, by rw [z]; exact hr⟩
    rw [upd_ne this]; exact e
  · rcases get_put h1 with ⟨h1, _⟩ | ⟨rfl, rfl, rfl, _⟩
    · exact n ⟨d', i', w, h1, h2, h3⟩
    · exact n ⟨_, _, o, hg, hn, h3⟩
def PV (K : PySem.W.Frag) (ρ : Rho) (hs : Hs) (H : Hp) (Q : VK) : Val → Hs → Prop := fun v hs' => ∀ ρ' H' w, Stp ρ hs H ρ' hs' H' → RelH K ρ' hs' H' → RepV ρ' H' v w → Q w H'
section
variable {K : PySem.W.Frag} {ρ ρ' : Rho} {hs hs' hs2 : Hs} {H H' : Hp} {Q : VK} {v : Val} {w : V}
theorem PV.here (h : PV K ρ hs H Q v hs) (R : RelH K ρ hs H) (r : RepV ρ H v w) : Q w H := h ρ H w R.refl R r
theorem PV.on (h : PV K ρ hs H Q v hs2) (s : Stp ρ hs H ρ' hs' H') : PV K ρ' hs' H' Q v hs2 := fun ρ2 H2 w s2 R r => h ρ2 H2 w (s.trans s2) R r
theorem RelH.okD (R : RelH K ρ hs H) : ρ.length = (hs.length - 1) + 1 := by
  have h1 := R.len
  have h2 : 0 < ρ.length := List.length_pos_iff.mpr R.ne
  omega
/-- a new tuple -/
theorem PV.tup {vs : List Val} {xs : List V} {p : Addr} {ob : PySem.Obj} (h : PV K ρ hs H Q (.tup vs) hs) (R : RelH K ρ hs H) (r : RepVs ρ H vs xs) (hp : H p = none) (hd : BareO ob) : Q (.ref p) (upd H p (.frz ob (.tup xs))) := by
  have t : TupX H (upd H p (.frz ob (.tup xs))) := tupX_new hp
  exact h ρ _ _ (R.sideS hp) (R.side hp) (repV_tup.mpr ⟨p, xs, rfl, ⟨ob, upd_same, hd⟩, RepVs.mono (RX.refl _) t _ _ r⟩)
/-- a new object -/
theorem wp_alloc {o : Ob} {P : Val → Hs → Prop} {E : Nat → List Val → Hs → Prop} : wp (alloc o hs) P E → ∃ q rest, hs = q :: rest ∧ P (.loc rest.length q.length) ((q ++ [o]) :: rest) := by
  unfold alloc
  cases hs with
  | nil => intro h; exact h.elim
  | cons q rest => intro h; exact ⟨q, rest, rfl, h⟩
theorem alloc_new {o : Ob} {p : Addr} {u : HO} {E : Nat → List Val → Hs → Prop} (h : wp (alloc o hs) (PV K ρ hs H Q) E) (R : RelH K ρ hs H) (hp : H p = none)
    (ho : ∀ ρ', RX ρ ρ' → TupX H (upd H p u) → ObRep K ρ' (upd H p u) p o) (ok : ∀ D, ρ.length = D + 1 → o.okAt D = true) : Q (.ref p) (upd H p u) := by
  obtain ⟨q, rest, rfl, h⟩ := wp_alloc h
  cases ρ with
  | nil => exact absurd rfl R.ne
  | cons r rr =>
    have hl : r.length = q.length := by have := R.shape; simp only [List.map_cons, List.cons.injEq] at this; exact this.1
    have hn : rr.length = rest.length := by have := R.len; simpa using this
    have g : Grow (r :: rr) ((r ++ [p]) :: rr) := ⟨r, [p], rr, rfl, rfl⟩
    have t : TupX H (upd H p u) := tupX_new hp
    refine h _ _ _ (stp_new R hp) (R.new hp (ho _ g.rx t) (ok _ (by simp [hn]))) (repV_loc.mpr ⟨p, rfl, ?_⟩)
    rw [rget_cons, if_pos hn.symm, ← hl]
    simp
theorem alloc_lst {vs : List Val} {xs : List V} {p : Addr} {E : Nat → List Val → Hs → Prop} (h : wp (alloc (.lst vs) hs) (PV K ρ hs H Q) E) (R : RelH K ρ hs H) (r : RepVs ρ H vs xs) (hp : H p = none) : Q (.ref p) (upd H p (.lst xs)) :=
  alloc_new h R hp (fun ρ' x t => ⟨xs, upd_same, RepVs.mono x t _ _ r⟩) fun D hD => by
    show (List.all _ _) = true
    exact RepVs.okAll hD r
theorem wp_rd {P : Ob → Hs → Prop} {E : Nat → List Val → Hs → Prop} {d i : Nat} : wp (rd (.loc d i) hs) P E → ∃ o, get hs d i = some o ∧ P o hs := by
  unfold rd
  intro h
  cases e : get hs d i with
  | none => simp only [e, wp] at h
  | some o => simp only [e, wp] at h; exact ⟨o, rfl, h⟩
theorem wp_rd0 {P : Ob → Hs → Prop} {E : Nat → List Val → Hs → Prop} : wp (rd v hs) P E → ∃ d i o, v = .loc d i ∧ get hs d i = some o ∧ P o hs := by
  cases v with
  | loc d i => intro h; obtain ⟨o, h1, h2⟩ := wp_rd h; exact ⟨d, i, o, rfl, h1, h2⟩
  | _ => intro h; exact h.elim
theorem wp_guard {b : Bool} {P : Unit → Hs → Prop} {E : Nat → List Val → Hs → Prop} : wp (guard b hs) P E → b = true ∧ P () hs := by
  unfold guard
  cases b with
  | true => intro h; exact ⟨rfl, h⟩
  | false => intro h; exact h.elim
theorem wp_wr {o : Ob} {P : Unit → Hs → Prop} {E : Nat → List Val → Hs → Prop} {d i : Nat} : wp (wr d i o hs) P E → o.okAt d = true ∧ (∃ u, get hs d i = some u) ∧ P () (put hs d i o) := by
  unfold wr
  intro h
  by_cases c : (o.okAt d && (get hs d i).isSome) = true
  · rw [if_pos c] at h
    rw [Bool.and_eq_true] at c
    exact ⟨c.1, Option.isSome_iff_exists.mp c.2, h⟩
  · rw [if_neg c] at h; exact h.elim
theorem wp_optM {α : Type} {o : Option α} {P : α → Hs → Prop} {E : Nat → List Val → Hs → Prop} : wp (optM o hs) P E → ∃ a, o = some a ∧ P a hs := by
  cases o with
  | none => intro h; exact h.elim
  | some a => intro h; exact ⟨a, rfl, h⟩
/-- a location that stands for an address -/
theorem RelH.at {d i : Nat} {o : Ob} (R : RelH K ρ hs H) (r : RepV ρ H (.loc d i) w) (g : get hs d i = some o) : ∃ a, w = .ref a ∧ rget ρ d i = some a ∧ ObRep K ρ H a o := by
  obtain ⟨a, e, h1⟩ := repV_loc.mp r
  obtain ⟨b, h2, h3⟩ := R.ob d i o g
  rw [h1] at h2; cases h2
  exact ⟨a, e, h1, h3⟩
end
/-! # Rules by values -/
def den1 (K : PySem.W.Frag) (f : Val → M Val) : V → Hp → VK → Prop := fun x H Q => ∃ ρ hs vx, RelH K ρ hs H ∧ RepV ρ H vx x ∧ ∃ E, wp (f vx hs) (PV K ρ hs H Q) E
def den2 (K : PySem.W.Frag) (f : Val → Val → M Val) : R2 := fun x y H Q => ∃ ρ hs vx vy, RelH K ρ hs H ∧ RepV ρ H vx x ∧ RepV ρ H vy y ∧ ∃ E, wp (f vx vy hs) (PV K ρ hs H Q) E
def denL (K : PySem.W.Frag) (f : List Val → M Val) : List V → Hp → VK → Prop := fun xs H Q => ∃ ρ hs vs, RelH K ρ hs H ∧ RepVs ρ H vs xs ∧ ∃ E, wp (f vs hs) (PV K ρ hs H Q) E
theorem SL_eq : SL = sizeLine := by rw [sizeLine_eq]; rfl
theorem guard_true {b : Bool} {hs : Hs} (h : b = true) : guard b hs = .ok () hs := by unfold guard; rw [if_pos h]
section
variable {X : Cx}
theorem inv_tupF {pins : List (Addr × PySem.Obj)} {σ : L2.St} {H : Hp} {s : Shared} {xs : List V} {us : List Value} {t' : Nat} (I : Inv X pins σ H s) (r : Vals xs us) (z : xs.length ≤ sizeLine) :
    Inv X pins σ (upd H s.heap.objs.size (.frz { cls := .type "tuple", data := .seq us.toArray } (.tup xs))) { s with heap := s.heap.push { cls := .type "tuple", data := .seq us.toArray }, toks := t' } :=
  I.laid (fun b u e => Heap.get?_push_of_some _ e) (Nat.le_refl _) ⟨Heap.get?_push_size _ rfl, z, us, r, ⟨_, Heap.get?_push_size _ rfl, rfl, _, rfl⟩⟩
/-- a tuple that is laid: the end of a rule -/
theorem end_tup {pins : List (Addr × PySem.Obj)} {σ : L2.St} {H : Hp} {s : Shared} {xs : List V} {us : List Value} {Q : VK} (I : Inv X pins σ H s) (r : Vals xs us) (z : xs.length ≤ sizeLine)
    (q : ∀ p ob, H p = none → BareO ob → Q (.ref p) (upd H p (.frz ob (.tup xs)))) : EP X pins σ Q (.ref s.heap.objs.size) { s with heap := s.heap.push { cls := .type "tuple", data := .seq us.toArray } } :=
  ⟨.ref s.heap.objs.size, _, inv_tupF (t' := s.toks) I r z, rfl, q _ _ (I.hok.fresh (Nat.le_refl _)) ⟨rfl, rfl⟩⟩
/-! ## binary operators -/
theorem cat_nil {prog : Program} {w : World} {A : Around} {E : Value → Shared → Prop} {s : Shared} {t b : Addr} {ws : List Value} {Q : Value → Shared → Prop} (ht : IsTup s.heap t ([] : List Value).toArray) (hb : IsTup s.heap b ws.toArray)
    (h : Q (.ref b) s) : wpAny (model prog w) A (binaryOp .Add (.ref t) (.ref b)) Q E s := by
  obtain ⟨⟨cls, dd, data, sl⟩, ho, hc, n, hd⟩ := id ht
  obtain ⟨⟨cls2, dd2, data2, sl2⟩, ho2, hc2, n2, hd2⟩ := id hb
  simp only at hc hd hc2 hd2
  subst hc hd hc2 hd2
  exact concat_meets ⟨_, ho, rfl⟩ ⟨_, ho2, rfl⟩ noFill_tuple_add seq_tuple_add PySem.F.slot_tuple_add PySem.F.entry_tuple_add (PySem.F.args_tuple_add_2 _ _)
      (tuple_addW0 t b _ ws.toArray n n2 dd dd2 sl sl2 (by simp)) ⟨ho, ho2, h⟩
theorem op_catF : OpR X (binaryOp .Add) (fun x y H Q => ∃ a b xs ys, x = .ref a ∧ y = .ref b ∧ SqT X.K H a xs ∧ SqT X.K H b ys ∧ xs.length + ys.length ≤ sizeLine ∧
    (xs = [] → Q (.ref b) H) ∧ (xs ≠ [] → ys = [] → Q (.ref a) H) ∧ (∀ p ob, H p = none → BareO ob → Q (.ref p) (upd H p (.frz ob (.tup (xs ++ ys)))))) := by
  intro pins s σ H x y v u Q I rx ry h
  obtain ⟨a, b, xs, ys, rfl, rfl, ha, hb, hz, q0, q1, q2⟩ := h
  cases rx
  cases ry
  obtain ⟨its, r1, p1, _⟩ := I.tuple ha
  obtain ⟨its2, r2, p2, _⟩ := I.tuple hb
  by_cases hx : xs = []
  · have e : its = [] := r1.nil_iff.mpr hx
    subst e
    exact cat_nil p1 p2 ⟨.ref b, H, I, rfl, q0 hx⟩
  · refine HT.cat_tup p1 p2 (fun z => hx (r1.nil_iff.mp z)) (fun z => ⟨.ref a, H, I, rfl, q1 hx (r2.nil_iff.mp z)⟩) (fun z => ?_) (by rw [← r1.length, ← r2.length]; exact hz)
    exact end_tup I (r1.append r2) (by rw [List.length_append]; exact hz) q2
theorem reps_flatten {ρ : Rho} {H : Hp} {vs : List Val} {xs : List V} (r : RepVs ρ H vs xs) : ∀ k : Nat, RepVs ρ H (List.replicate k vs).flatten (List.replicate k xs).flatten
  | 0 => .nil'
  | k + 1 => by
    rw [List.replicate_succ, List.replicate_succ, List.flatten_cons, List.flatten_cons]
    exact r.append (reps_flatten r k)
theorem lim_eq : lim = 2 ^ 64 := by decide
theorem or_add : OpR X (binaryOp .Add) (den2 X.K (binop .add)) := by
  intro pins s σ H x y v u Q I rx ry h
  obtain ⟨ρ, hs, vx, vy, R, a, b, _, w⟩ := h
  cases vx <;> cases vy <;> first | exact False.elim w | skip
  case int.int i j =>
    rw [repV_int] at a b
    exact op_add pins s σ H x y v u Q I rx ry ⟨i, j, a, b, w.here R (repV_int.mpr rfl)⟩
  case str.str i j =>
    rw [repV_str] at a b
    obtain ⟨h1, w⟩ := wp_guard (wp_bnd.mp w)
    exact op_add_str pins s σ H x y v u Q I rx ry ⟨i, j, a, b, by rw [← SL_eq]; exact of_decide_eq_true h1, w.here R (repV_str.mpr rfl)⟩
  case tup.tup i j =>
    obtain ⟨p, xs, e1, t1, r1⟩ := repV_tup.mp a
    obtain ⟨q, ys, e2, t2, r2⟩ := repV_tup.mp b
    obtain ⟨h1, w⟩ := wp_guard (wp_bnd.mp w)
    have h1 := of_decide_eq_true h1
    rw [SL_eq, ← r1.length, ← r2.length] at h1
    refine op_catF pins s σ H x y v u Q I rx ry ⟨p, q, xs, ys, e1, e2, t1.sq, t2.sq, h1, fun e => ?_, fun _ e => ?_, fun p' ob hp hd => w.tup R (r1.append r2) hp hd⟩
    · subst e
      have e : i = [] := by
        cases i with
        | nil => rfl
        | cons c d => obtain ⟨_, _, z, _⟩ := repVs_cons.mp r1; cases z
      subst e
      subst e2
      exact w.here R b
    · subst e
      have e : j = [] := by
        cases j with
        | nil => rfl
        | cons c d => obtain ⟨_, _, z, _⟩ := repVs_cons.mp r2; cases z
      subst e
      subst e1
      exact w.here R (by rw [List.append_nil]; exact a)
  case loc.loc d i e j =>
    obtain ⟨o, g1, w⟩ := wp_rd (wp_bnd.mp w)
    obtain ⟨o2, g2, w⟩ := wp_rd (wp_bnd.mp w)
    obtain ⟨p, rfl, _, b1⟩ := R.at a g1
    obtain ⟨q, rfl, _, b2⟩ := R.at b g2
    cases o <;> cases o2 <;> first | exact False.elim w | skip
    obtain ⟨h1, w⟩ := wp_guard (wp_bnd.mp w)
    have h1 := of_decide_eq_true h1
    obtain ⟨xs, c1, r1⟩ := b1
    obtain ⟨ys, c2, r2⟩ := b2
    rw [SL_eq, ← r1.length, ← r2.length] at h1
    exact op_cat pins s σ H _ _ v u Q I rx ry ⟨p, q, xs, ys, rfl, rfl, c1, c2, h1, fun p' hp => alloc_lst w R (r1.append r2) hp⟩
theorem or_sub : OpR X (binaryOp .Sub) (den2 X.K (binop .sub)) := by
  intro pins s σ H x y v u Q I rx ry h
  obtain ⟨ρ, hs, vx, vy, R, a, b, _, w⟩ := h
  cases vx <;> cases vy <;> first | exact False.elim w | skip
  rename_i i j
  rw [repV_int] at a b
  exact op_sub pins s σ H x y v u Q I rx ry ⟨i, j, a, b, w.here R (repV_int.mpr rfl)⟩
theorem or_mul : OpR X (binaryOp .Mult) (den2 X.K (binop .mul)) := by
  intro pins s σ H x y v u Q I rx ry h
  obtain ⟨ρ, hs, vx, vy, R, a, b, _, w⟩ := h
  cases vx <;> cases vy <;> first | exact False.elim w | skip
  case int.int i j =>
    rw [repV_int] at a b
    obtain ⟨h1, w⟩ := wp_guard (wp_bnd.mp w)
    have h1 := of_decide_eq_true h1
    rw [lim_eq] at h1
    exact op_mul pins s σ H x y v u Q I rx ry ⟨i, j, a, b, h1, w.here R (repV_int.mpr rfl)⟩
  case loc.int d i k =>
    obtain ⟨o, g1, w⟩ := wp_rd (wp_bnd.mp w)
    obtain ⟨p, rfl, _, b1⟩ := R.at a g1
    rw [repV_int] at b
    cases o <;> first | exact False.elim w | skip
    obtain ⟨h1, w⟩ := wp_guard (wp_bnd.mp w)
    have h1 := of_decide_eq_true h1
    obtain ⟨xs, c1, r1⟩ := b1
    rw [SL_eq, ← r1.length] at h1
    refine op_rep pins s σ H _ _ v u Q I rx ry ⟨p, k, xs, rfl, b, c1, by omega, by omega, h1.2.2, fun p' hp => alloc_lst w R (reps_flatten r1 _) hp⟩
theorem or_fdiv : OpR X (binaryOp .FloorDiv) (den2 X.K (binop .fdiv)) := by
  intro pins s σ H x y v u Q I rx ry h
  obtain ⟨ρ, hs, vx, vy, R, a, b, _, w⟩ := h
  cases vx <;> cases vy <;> first | exact False.elim w | skip
  rename_i i j
  rw [repV_int] at a b
  obtain ⟨h1, w⟩ := wp_guard (wp_bnd.mp w)
  have h1 := of_decide_eq_true h1
  exact op_fdiv pins s σ H x y v u Q I rx ry ⟨i, j, a, b, h1, w.here R (repV_int.mpr rfl)⟩
theorem or_mod : OpR X (binaryOp .Mod) (den2 X.K (binop .mod)) := by
  intro pins s σ H x y v u Q I rx ry h
  obtain ⟨ρ, hs, vx, vy, R, a, b, _, w⟩ := h
  cases vx <;> cases vy <;> first | exact False.elim w | skip
  rename_i i j
  rw [repV_int] at a b
  obtain ⟨h1, w⟩ := wp_guard (wp_bnd.mp w)
  exact op_mod pins s σ H x y v u Q I rx ry ⟨i, j, a, b, of_decide_eq_true h1, w.here R (repV_int.mpr rfl)⟩
theorem natAbs_lim {i : Int} (h : -lim < i ∧ i < lim) : i.natAbs < 2 ^ 64 := by
  rw [lim_eq] at h; omega
theorem or_pow : OpR X (binaryOp .Pow) (den2 X.K (binop .pow)) := by
  intro pins s σ H x y v u Q I rx ry h
  obtain ⟨ρ, hs, vx, vy, R, a, b, _, w⟩ := h
  cases vx <;> cases vy <;> first | exact False.elim w | skip
  rename_i i j
  rw [repV_int] at a b
  obtain ⟨h1, w⟩ := wp_guard (wp_bnd.mp w)
  have h1 := of_decide_eq_true h1
  exact op_pow pins s σ H x y v u Q I rx ry ⟨i, j, a, b, ⟨h1.1, h1.2.1, natAbs_lim h1.2.2⟩, w.here R (repV_int.mpr rfl)⟩
theorem or_shl : OpR X (binaryOp .LShift) (den2 X.K (binop .shl)) := by
  intro pins s σ H x y v u Q I rx ry h
  obtain ⟨ρ, hs, vx, vy, R, a, b, _, w⟩ := h
  cases vx <;> cases vy <;> first | exact False.elim w | skip
  rename_i i j
  rw [repV_int] at a b
  obtain ⟨h1, w⟩ := wp_guard (wp_bnd.mp w)
  have h1 := of_decide_eq_true h1
  exact op_shl pins s σ H x y v u Q I rx ry ⟨i, j, a, b, ⟨h1.1, h1.2.1, natAbs_lim h1.2.2⟩, w.here R (repV_int.mpr rfl)⟩
theorem or_shr : OpR X (binaryOp .RShift) (den2 X.K (binop .shr)) := by
  intro pins s σ H x y v u Q I rx ry h
  obtain ⟨ρ, hs, vx, vy, R, a, b, _, w⟩ := h
  cases vx <;> cases vy <;> first | exact False.elim w | skip
  rename_i i j
  rw [repV_int] at a b
  obtain ⟨h1, w⟩ := wp_guard (wp_bnd.mp w)
  exact op_shr pins s σ H x y v u Q I rx ry ⟨i, j, a, b, of_decide_eq_true h1, w.here R (repV_int.mpr rfl)⟩
theorem or_band : OpR X (binaryOp .BitAnd) (den2 X.K (binop .band)) := by
  intro pins s σ H x y v u Q I rx ry h
  obtain ⟨ρ, hs, vx, vy, R, a, b, _, w⟩ := h
  cases vx <;> cases vy <;> first | exact False.elim w | skip
  rename_i i j
  rw [repV_int] at a b
  exact op_and pins s σ H x y v u Q I rx ry ⟨i, j, a, b, w.here R (repV_int.mpr rfl)⟩
theorem or_bor : OpR X (binaryOp .BitOr) (den2 X.K (binop .bor)) := by
  intro pins s σ H x y v u Q I rx ry h
  obtain ⟨ρ, hs, vx, vy, R, a, b, _, w⟩ := h
  cases vx <;> cases vy <;> first | exact False.elim w | skip
  rename_i i j
  rw [repV_int] at a b
  exact op_or pins s σ H x y v u Q I rx ry ⟨i, j, a, b, w.here R (repV_int.mpr rfl)⟩
theorem or_bxor : OpR X (binaryOp .BitXor) (den2 X.K (binop .bxor)) := by
  intro pins s σ H x y v u Q I rx ry h
  obtain ⟨ρ, hs, vx, vy, R, a, b, _, w⟩ := h
  cases vx <;> cases vy <;> first | exact False.elim w | skip
  rename_i i j
  rw [repV_int] at a b
  exact op_xor pins s σ H x y v u Q I rx ry ⟨i, j, a, b, w.here R (repV_int.mpr rfl)⟩
def pyOp : Bop → Operator
  | .add => .Add | .sub => .Sub | .mul => .Mult | .fdiv => .FloorDiv | .mod => .Mod | .pow => .Pow | .shl => .LShift | .shr => .RShift | .band => .BitAnd | .bor => .BitOr | .bxor => .BitXor
theorem or_bin (op : Bop) : OpR X (binaryOp (pyOp op)) (den2 X.K (binop op)) := by
  cases op
  · exact or_add
  · exact or_sub
  · exact or_mul
  · exact or_fdiv
  · exact or_mod
  · exact or_pow
  · exact or_shl
  · exact or_shr
  · exact or_band
  · exact or_bor
  · exact or_bxor
end
end Z
-- ZS3
namespace Z
open PySem PySem.Spec PyProof.Rows L2
/-! # Data -/
section
variable {K : PySem.W.Frag} {ρ : Rho} {hs : Hs} {H : Hp}
mutual
theorem dp_of {g : Nat → Nat → Option PyData} (hg : ∀ d i pd a, g d i = some pd → rget ρ d i = some a → Dp K H (.ref a) pd) : ∀ (v : Val) (w : V) (pd : PyData), RepV ρ H v w → datV g v = some pd → Dp K H w pd
  | .non, w, pd, r, e => by rw [repV_non.mp r]; simp only [datV, Option.some.injEq] at e; subst e; exact .non
  | .bl b, w, pd, r, e => by rw [repV_bl.mp r]; simp only [datV, Option.some.injEq] at e; subst e; exact .bl b
  | .int i, w, pd, r, e => by rw [repV_int.mp r]; simp only [datV, Option.some.injEq] at e; subst e; exact .int i
  | .str x, w, pd, r, e => by rw [repV_str.mp r]; simp only [datV, Option.some.injEq] at e; subst e; exact .str x
  | .tup vs, w, pd, r, e => by
    obtain ⟨a, xs, rfl, t, rs⟩ := repV_tup.mp r
    simp only [datV, Option.map_eq_some_iff] at e
    obtain ⟨ds, e, rfl⟩ := e
    exact .tup t.sq (dps_of hg vs xs ds rs e)
  | .loc d i, w, pd, r, e => by
    obtain ⟨a, rfl, h⟩ := repV_loc.mp r
    simp only [datV] at e
    exact hg d i pd a e h
theorem dps_of {g : Nat → Nat → Option PyData} (hg : ∀ d i pd a, g d i = some pd → rget ρ d i = some a → Dp K H (.ref a) pd) : ∀ (vs : List Val) (ws : List V) (ds : List PyData), RepVs ρ H vs ws → datVs g vs = some ds → DpAll K H ws ds
  | [], ws, ds, r, e => by rw [repVs_nil.mp r]; simp only [datVs, Option.some.injEq] at e; subst e; exact .nil
  | v :: vs, ws, ds, r, e => by
    obtain ⟨x, q, rfl, h1, h2⟩ := repVs_cons.mp r
    simp only [datVs, Option.bind_eq_some_iff, Option.map_eq_some_iff] at e
    obtain ⟨d, e1, es, e2, rfl⟩ := e
    exact .cons (dp_of hg v x d h1 e1) (dps_of hg vs q es h2 e2)
end
theorem datL_ok (R : RelH K ρ hs H) : ∀ (n d i : Nat) (pd : PyData) (a : Addr), datL hs n d i = some pd → rget ρ d i = some a → Dp K H (.ref a) pd
  | 0, _, _, _, _, e, _ => by simp [datL] at e
  | n + 1, d, i, pd, a, e, h => by
    unfold datL at e
    split at e
    · rename_i vs g
      obtain ⟨b, h1, xs, h2, r⟩ := R.ob d i _ g
      rw [h] at h1; cases h1
      simp only [Option.map_eq_some_iff] at e
      obtain ⟨ds, e, rfl⟩ := e
      exact .lst (SqL.of h2) (dps_of (datL_ok R n) vs xs ds r e)
    · rename_i vs g
      obtain ⟨b, h1, xs, h2, r⟩ := R.ob d i _ g
      rw [h] at h1; cases h1
      simp only [Option.map_eq_some_iff] at e
      obtain ⟨ds, e, rfl⟩ := e
      exact .lst h2.sq (dps_of (datL_ok R n) vs xs ds r e)
    · cases e
theorem dat_dp (R : RelH K ρ hs H) {v : Val} {w : V} {pd : PyData} (r : RepV ρ H v w) (e : dat hs v = some pd) : Dp K H w pd := dp_of (datL_ok R 6) v w pd r e
theorem dats_dp (R : RelH K ρ hs H) {vs : List Val} {ws : List V} {ds : List PyData} (r : RepVs ρ H vs ws) (e : dats hs vs = some ds) : DpAll K H ws ds := dps_of (datL_ok R 6) vs ws ds r e
end
/-! ## the order of data -/
theorem dataLt_eqs : ∀ (a b : PyData), W.alike a b = true → W.dataLt a b = ltD a b := by
  intro a b
  refine ltD.induct (motive_1 := fun a b => W.alike a b = true → W.dataLt a b = ltD a b) (motive_2 := fun xs ys => W.alikeAll xs ys = true → PyProof.Rows.lexLt itemOrd (W.keyToksAll xs) (W.keyToksAll ys) = ltDs xs ys) ?_ ?_ ?_ ?_ ?_ ?_ ?_ ?_ ?_ ?_ a b
  · intro a b _
    rw [W.dataLt_bool]
    cases a <;> cases b <;> decide
  · intro i j _; rw [W.dataLt_int, ltD]
  · intro x y _; rw [W.dataLt_str, ltD]
  · intro xs ys ih h
    rw [W.dataLt_list, ltD]
    exact ih (by simpa [W.alike] using h)
  · intro xs ys ih h
    rw [W.dataLt_tuple, ltD]
    exact ih (by simpa [W.alike] using h)
  · intro a b h1 h2 h3 h4 h5 h
    cases a <;> cases b <;> first | (simp [W.alike] at h; done) | skip
    all_goals first
      | (exact absurd rfl (h1 _ _ rfl)) | (exact absurd rfl (h2 _ _ rfl)) | (exact absurd rfl (h3 _ _ rfl)) | (exact absurd rfl (h4 _ _ rfl)) | (exact absurd rfl (h5 _ _ rfl)) | rfl
  · intro xs h
    cases xs with
    | nil => rw [ltDs]; exact lex_irrefl _
    | cons x r =>
      rw [ltDs]
      show PyProof.Rows.lexLt itemOrd (W.keyToksAll (x :: r)) (W.keyToksAll []) = false
      rw [W.toks_all_cons]
      show PyProof.Rows.lexLt itemOrd _ [Sum.inl 0] = false
      rw [lex_diff (by simp)]
      decide
  · intro y ys h
    rw [ltDs]
    rw [W.toks_all_cons]
    show PyProof.Rows.lexLt itemOrd [Sum.inl 0] _ = true
    rw [lex_diff (by simp)]
    decide
  · intro x xs y ys he ih h
    have h := W.alike_all_cons h
    rw [ltDs, W.dataLt_cons h.1, if_pos he, if_pos he]
    exact ih h.2
  · intro x xs y ys he ih h
    have h := W.alike_all_cons h
    rw [ltDs, W.dataLt_cons h.1, if_neg he, if_neg he]
    exact ih h.1
/-! # Comparisons -/
section
variable {X : Cx} {ρ : Rho} {hs : Hs} {H : Hp} {Q : VK} {pins : List (Addr × PySem.Obj)} {s : Shared} {σ : L2.St} {x y : V} {v u : Value}
def flatW : Val → V
  | .non => .non
  | .bl b => .bl b
  | .int i => .int i
  | .str z => .str z
  | _ => .non
theorem repV_flat {a : Val} {w : V} (h : a.flat = true) (r : RepV ρ H a w) : w = flatW a ∧ flatV w = true := by
  cases a with
  | non => rw [repV_non.mp r]; exact ⟨rfl, rfl⟩
  | bl b => rw [repV_bl.mp r]; exact ⟨rfl, rfl⟩
  | int i => rw [repV_int.mp r]; exact ⟨rfl, rfl⟩
  | str z => rw [repV_str.mp r]; exact ⟨rfl, rfl⟩
  | tup vs => simp [Val.flat] at h
  | loc d i => simp [Val.flat] at h
theorem eqV_flat {a b : Val} (ha : a.flat = true) (hb : b.flat = true) : eqV (flatW a) (flatW b) = eqFlat a b := by
  cases a <;> cases b <;> first | (simp [Val.flat] at ha; done) | (simp [Val.flat] at hb; done) | (simp [flatW, eqV, eqFlat]; done) | (simp only [flatW, eqV, eqFlat]; rw [Bool.eq_iff_iff]; simp)
theorem shaped_int (i : Int) : SeqAt.shaped (.int i) = true := by simp [SeqAt.shaped, PyData.canLay0, PyData.depth]
theorem shaped_bool (b : Bool) : SeqAt.shaped (.bool b) = true := by simp [SeqAt.shaped, PyData.canLay0, PyData.depth]
/-- what == and != come to -/
theorem wp_eq {a b : Val} {P : Bool → Hs → Prop} {E : Nat → List Val → Hs → Prop} (w : wp (eqVal a b hs) P E) :
    (a.flat = true ∧ b.flat = true ∧ P (eqFlat a b) hs) ∨ ∃ d e, dat hs a = some d ∧ dat hs b = some e ∧ SeqAt.shaped d = true ∧ SeqAt.shaped e = true ∧ P (PyData.eqv d e) hs := by
  unfold eqVal at w
  by_cases c : (a.flat && b.flat) = true
  · rw [if_pos c] at w
    rw [Bool.and_eq_true] at c
    exact .inl ⟨c.1, c.2, w⟩
  · rw [if_neg c] at w
    cases h1 : dat hs a with
    | none => rw [h1] at w; exact w.elim
    | some d =>
      cases h2 : dat hs b with
      | none => rw [h1, h2] at w; exact w.elim
      | some e =>
        rw [h1, h2] at w
        simp only at w
        by_cases k : (SeqAt.shaped d && SeqAt.shaped e) = true
        · rw [if_pos k] at w
          rw [Bool.and_eq_true] at k
          exact .inr ⟨d, e, rfl, rfl, k.1, k.2, w⟩
        · rw [if_neg k] at w; exact w.elim
theorem eq_flat_run (I : Inv X pins σ H s) (rx : RelV x v) (ry : RelV y u) {a b : Val} (ha : a.flat = true) (hb : b.flat = true) (ra : RepV ρ H a x) (rb : RepV ρ H b y) (hu : X.A.units + 64 < cLine) (neg : Bool)
    (q : Q (.bl (if neg then !eqFlat a b else eqFlat a b)) H) : wpAny (model X.prog X.w) X.A (compareOp (if neg then .NotEq else .Eq) v u) (EP X pins σ Q) X.xe s := by
  obtain ⟨rfl, _⟩ := repV_flat ha ra
  obtain ⟨rfl, _⟩ := repV_flat hb rb
  have scalar : scal (flatW a) (flatW b) = true → eqFlat a b = decide (flatW a = flatW b) → wpAny (model X.prog X.w) X.A (compareOp (if neg then .NotEq else .Eq) v u) (EP X pins σ Q) X.xe s := fun h1 h2 => by
    rw [h2] at q
    cases neg with
    | false => exact op_eq pins s σ H _ _ v u Q I rx ry ⟨h1, q⟩
    | true => exact op_ne pins s σ H _ _ v u Q I rx ry ⟨h1, q⟩
  by_cases m1 : ∃ c j, a = .bl c ∧ b = .int j
  · obtain ⟨c, j, rfl, rfl⟩ := m1
    cases neg with
    | false => exact op_eqD hu pins s σ H _ _ v u Q I rx ry ⟨.bool c, .int j, .bl c, .int j, shaped_bool c, shaped_int j, by simpa [PyData.eqv, eqFlat, Bool.beq_eq_decide_eq] using q⟩
    | true => exact op_neD hu pins s σ H _ _ v u Q I rx ry ⟨.bool c, .int j, .bl c, .int j, shaped_bool c, shaped_int j, by simpa [PyData.eqv, eqFlat, Bool.beq_eq_decide_eq] using q⟩
  by_cases m2 : ∃ i c, a = .int i ∧ b = .bl c
  · obtain ⟨i, c, rfl, rfl⟩ := m2
    cases neg with
    | false => exact op_eqD hu pins s σ H _ _ v u Q I rx ry ⟨.int i, .bool c, .int i, .bl c, shaped_int i, shaped_bool c, by simpa [PyData.eqv, eqFlat, Bool.beq_eq_decide_eq] using q⟩
    | true => exact op_neD hu pins s σ H _ _ v u Q I rx ry ⟨.int i, .bool c, .int i, .bl c, shaped_int i, shaped_bool c, by simpa [PyData.eqv, eqFlat, Bool.beq_eq_decide_eq] using q⟩
  cases a <;> cases b <;> first | (simp [Val.flat] at ha; done) | (simp [Val.flat] at hb; done) | exact absurd ⟨_, _, rfl, rfl⟩ m1 | exact absurd ⟨_, _, rfl, rfl⟩ m2 | exact scalar rfl (by simp [eqFlat, flatW, Bool.beq_eq_decide_eq])
theorem or_eq (hu : X.A.units + 64 < cLine) : OpR X (compareOp .Eq) (den2 X.K (cmpop .eq)) := by
  intro pins s σ H x y v u Q I rx ry h
  obtain ⟨ρ, hs, a, b, R, ra, rb, _, w⟩ := h
  rcases wp_eq (wp_bnd.mp w) with ⟨h1, h2, w⟩ | ⟨d, e, h1, h2, h3, h4, w⟩
  · exact eq_flat_run I rx ry h1 h2 ra rb hu false (w.here R (repV_bl.mpr rfl))
  · exact op_eqD hu pins s σ H x y v u Q I rx ry ⟨d, e, dat_dp R ra h1, dat_dp R rb h2, h3, h4, w.here R (repV_bl.mpr rfl)⟩
theorem or_ne (hu : X.A.units + 64 < cLine) : OpR X (compareOp .NotEq) (den2 X.K (cmpop .ne)) := by
  intro pins s σ H x y v u Q I rx ry h
  obtain ⟨ρ, hs, a, b, R, ra, rb, _, w⟩ := h
  rcases wp_eq (wp_bnd.mp w) with ⟨h1, h2, w⟩ | ⟨d, e, h1, h2, h3, h4, w⟩
  · exact eq_flat_run I rx ry h1 h2 ra rb hu true (w.here R (repV_bl.mpr rfl))
  · exact op_neD hu pins s σ H x y v u Q I rx ry ⟨d, e, dat_dp R ra h1, dat_dp R rb h2, h3, h4, w.here R (repV_bl.mpr rfl)⟩
theorem wp_lt {a b : Val} {P : Bool → Hs → Prop} {E : Nat → List Val → Hs → Prop} (w : wp (ltVal a b hs) P E) :
    (∃ i j, a = .int i ∧ b = .int j ∧ P (decide (i < j)) hs) ∨ ∃ d e, dat hs a = some d ∧ dat hs b = some e ∧ SeqAt.shaped d = true ∧ SeqAt.shaped e = true ∧ W.alike d e = true ∧ W.alike e d = true ∧ d ≠ .none ∧ e ≠ .none ∧ P (ltD d e) hs := by
  unfold ltVal at w
  split at w
  · exact .inl ⟨_, _, rfl, rfl, w⟩
  · split at w
    · rename_i d e h1 h2
      by_cases k : (SeqAt.shaped d && SeqAt.shaped e && W.alike d e && W.alike e d && notNone d && notNone e) = true
      · rw [if_pos k] at w
        simp only [Bool.and_eq_true] at k
        obtain ⟨⟨⟨⟨⟨k1, k2⟩, k3⟩, k4⟩, k5⟩, k6⟩ := k
        exact .inr ⟨d, e, h1, h2, k1, k2, k3, k4, fun z => by (subst z; simp [notNone] at k5), fun z => by (subst z; simp [notNone] at k6), w⟩
      · rw [if_neg k] at w; exact w.elim
    · exact w.elim
theorem or_lt (hu : X.A.units + 64 < cLine) : OpR X (compareOp .Lt) (den2 X.K (cmpop .lt)) := by
  intro pins s σ H x y v u Q I rx ry h
  obtain ⟨ρ, hs, a, b, R, ra, rb, _, w⟩ := h
  rcases wp_lt (wp_bnd.mp w) with ⟨i, j, rfl, rfl, w⟩ | ⟨d, e, h1, h2, h3, h4, h5, h6, h7, h8, w⟩
  · rw [repV_int] at ra rb
    exact op_lt pins s σ H x y v u Q I rx ry ⟨i, j, ra, rb, w.here R (repV_bl.mpr rfl)⟩
  · obtain ⟨as, r1⟩ := Dp.reads I d x v (dat_dp R ra h1) rx
    obtain ⟨bs, r2⟩ := Dp.reads I e y u (dat_dp R rb h2) ry
    exact W.lt_data r1 r2 h5 h7 (SeqAt.room_of_shaped h3 hu) (by rw [dataLt_eqs d e h5]; exact ⟨.bl _, H, I, rfl, w.here R (repV_bl.mpr rfl)⟩)
theorem or_gt (hu : X.A.units + 64 < cLine) : OpR X (compareOp .Gt) (den2 X.K (cmpop .gt)) := by
  intro pins s σ H x y v u Q I rx ry h
  obtain ⟨ρ, hs, a, b, R, ra, rb, _, w⟩ := h
  rcases wp_lt (wp_bnd.mp w) with ⟨j, i, rfl, rfl, w⟩ | ⟨e, d, h2, h1, h4, h3, h6, h5, h8, h7, w⟩
  · rw [repV_int] at ra rb
    exact op_gt pins s σ H x y v u Q I rx ry ⟨i, j, ra, rb, w.here R (repV_bl.mpr rfl)⟩
  · obtain ⟨as, r1⟩ := Dp.reads I d x v (dat_dp R ra h1) rx
    obtain ⟨bs, r2⟩ := Dp.reads I e y u (dat_dp R rb h2) ry
    exact W.gt_data r1 r2 h5 h7 (SeqAt.room_of_shaped h3 hu) (by rw [dataLt_eqs e d h6]; exact ⟨.bl _, H, I, rfl, w.here R (repV_bl.mpr rfl)⟩)
theorem not_lt_dec (i j : Int) : (!decide (j < i)) = decide (i ≤ j) := by
  by_cases h : j < i
  · have h' : ¬ i ≤ j := by omega
    simp [h, h']
  · have h' : i ≤ j := by omega
    simp [h, h']
theorem or_le (hu : X.A.units + 64 < cLine) : OpR X (compareOp .LtE) (den2 X.K (cmpop .le)) := by
  intro pins s σ H x y v u Q I rx ry h
  obtain ⟨ρ, hs, a, b, R, ra, rb, _, w⟩ := h
  rcases wp_lt (wp_bnd.mp w) with ⟨j, i, rfl, rfl, w⟩ | ⟨e, d, h2, h1, h4, h3, h6, h5, h8, h7, w⟩
  · rw [repV_int] at ra rb
    exact op_le pins s σ H x y v u Q I rx ry ⟨i, j, ra, rb, w.here R (repV_bl.mpr (by rw [not_lt_dec]))⟩
  · obtain ⟨as, r1⟩ := Dp.reads I d x v (dat_dp R ra h1) rx
    obtain ⟨bs, r2⟩ := Dp.reads I e y u (dat_dp R rb h2) ry
    exact W.le_data r1 r2 h5 h7 (SeqAt.room_of_shaped h3 hu) (by rw [dataLt_eqs e d h6]; exact ⟨.bl _, H, I, rfl, w.here R (repV_bl.mpr rfl)⟩)
theorem or_ge (hu : X.A.units + 64 < cLine) : OpR X (compareOp .GtE) (den2 X.K (cmpop .ge)) := by
  intro pins s σ H x y v u Q I rx ry h
  obtain ⟨ρ, hs, a, b, R, ra, rb, _, w⟩ := h
  rcases wp_lt (wp_bnd.mp w) with ⟨i, j, rfl, rfl, w⟩ | ⟨d, e, h1, h2, h3, h4, h5, h6, h7, h8, w⟩
  · rw [repV_int] at ra rb
    exact op_ge pins s σ H x y v u Q I rx ry ⟨i, j, ra, rb, w.here R (repV_bl.mpr (by rw [not_lt_dec]))⟩
  · obtain ⟨as, r1⟩ := Dp.reads I d x v (dat_dp R ra h1) rx
    obtain ⟨bs, r2⟩ := Dp.reads I e y u (dat_dp R rb h2) ry
    exact W.ge_data r1 r2 h5 h7 (SeqAt.room_of_shaped h3 hu) (by rw [dataLt_eqs d e h5]; exact ⟨.bl _, H, I, rfl, w.here R (repV_bl.mpr rfl)⟩)
/-! is, is not -/
theorem rel_eq_bl {w : V} {b : Bool} (r : RelV w v) : v = .bool b ↔ w = .bl b := by
  cases w with
  | non => cases r; simp
  | bl c => cases r; simp
  | int i => obtain ⟨t, rfl⟩ := r; simp
  | str z => obtain ⟨t, rfl⟩ := r; simp
  | byt z => obtain ⟨t, rfl⟩ := r; simp
  | flt z => obtain ⟨t, rfl⟩ := r; simp
  | ref z => cases r; simp
  | ty z => cases r; simp
theorem plain_bl {w : V} {b : Bool} (r : RelV w v) : plainIs v (.bool b) = true := by
  cases w with
  | non => cases r; rfl
  | bl c => cases r; rfl
  | int i => obtain ⟨t, rfl⟩ := r; rfl
  | str z => obtain ⟨t, rfl⟩ := r; rfl
  | byt z => obtain ⟨t, rfl⟩ := r; rfl
  | flt z => obtain ⟨t, rfl⟩ := r; rfl
  | ref z => cases r; rfl
  | ty z => cases r; rfl
theorem repV_eq_bl {a : Val} {w : V} {b : Bool} (r : RepV ρ H a w) : w = .bl b ↔ a = .bl b := by
  cases a with
  | non => rw [repV_non.mp r]; simp
  | bl c => rw [repV_bl.mp r]; simp
  | int i => rw [repV_int.mp r]; simp
  | str z => rw [repV_str.mp r]; simp
  | tup vs => obtain ⟨p, xs, rfl, _⟩ := repV_tup.mp r; simp
  | loc d i => obtain ⟨p, rfl, _⟩ := repV_loc.mp r; simp
theorem repV_eq_non {a : Val} {w : V} (r : RepV ρ H a w) : w = .non ↔ a = .non := by
  cases a with
  | non => rw [repV_non.mp r]; simp
  | bl c => rw [repV_bl.mp r]; simp
  | int i => rw [repV_int.mp r]; simp
  | str z => rw [repV_str.mp r]; simp
  | tup vs => obtain ⟨p, xs, rfl, _⟩ := repV_tup.mp r; simp
  | loc d i => obtain ⟨p, rfl, _⟩ := repV_loc.mp r; simp
theorem or_is : OpR X (compareOp .Is) (den2 X.K (cmpop .is)) := by
  intro pins s σ H x y v u Q I rx ry h
  obtain ⟨ρ, hs, a, b, R, ra, rb, _, w⟩ := h
  cases b <;> first | exact False.elim w | skip
  case non =>
    rw [repV_non] at rb
    have q := w.here R (repV_bl.mpr rfl)
    rw [show decide (a = Val.non) = decide (x = V.non) from decide_eq_decide.mpr (repV_eq_non ra).symm] at q
    exact op_isN pins s σ H x y v u Q I rx ry ⟨rb, q⟩
  case bl c =>
    rw [repV_bl] at rb
    subst rb
    cases (show u = Value.bool c from ry)
    have q := w.here R (repV_bl.mpr rfl)
    have e : decide (a = Val.bl c) = (v == Value.bool c) := by
      rw [Bool.eq_iff_iff]
      simp only [decide_eq_true_eq, beq_iff_eq]
      rw [rel_eq_bl rx]
      exact (repV_eq_bl ra).symm
    rw [e] at q
    exact wpAny_is_plain (plain_bl rx) ⟨.bl _, H, I, rfl, q⟩
theorem or_isnot : OpR X (compareOp .IsNot) (den2 X.K (cmpop .isnot)) := by
  intro pins s σ H x y v u Q I rx ry h
  obtain ⟨ρ, hs, a, b, R, ra, rb, _, w⟩ := h
  cases b <;> first | exact False.elim w | skip
  case non =>
    rw [repV_non] at rb
    have q := w.here R (repV_bl.mpr rfl)
    rw [show decide (a = Val.non) = decide (x = V.non) from decide_eq_decide.mpr (repV_eq_non ra).symm] at q
    exact op_notN pins s σ H x y v u Q I rx ry ⟨rb, q⟩
  case bl c =>
    rw [repV_bl] at rb
    subst rb
    cases (show u = Value.bool c from ry)
    have q := w.here R (repV_bl.mpr rfl)
    have e : decide (a = Val.bl c) = (v == Value.bool c) := by
      rw [Bool.eq_iff_iff]
      simp only [decide_eq_true_eq, beq_iff_eq]
      rw [rel_eq_bl rx]
      exact (repV_eq_bl ra).symm
    rw [e] at q
    exact wpAny_isNot_plain (plain_bl rx) ⟨.bl _, H, I, rfl, q⟩
/-! in, not in -/
theorem wp_any {a : Val} {vs : List Val} {P : Bool → Hs → Prop} {E : Nat → List Val → Hs → Prop} (w : wp (anyEq a vs hs) P E) :
    (a.flat = true ∧ vs.all Val.flat = true ∧ P (vs.any fun y => eqFlat y a) hs) ∨ ∃ d es, dat hs a = some d ∧ dats hs vs = some es ∧ SeqAt.shaped d = true ∧ es.all SeqAt.shaped = true ∧ P (es.any fun e => PyData.eqv e d) hs := by
  unfold anyEq at w
  by_cases c : (a.flat && vs.all Val.flat) = true
  · rw [if_pos c] at w
    rw [Bool.and_eq_true] at c
    exact .inl ⟨c.1, c.2, w⟩
  · rw [if_neg c] at w
    cases h1 : dat hs a with
    | none => rw [h1] at w; exact w.elim
    | some d =>
      cases h2 : dats hs vs with
      | none => rw [h1, h2] at w; exact w.elim
      | some e =>
        rw [h1, h2] at w
        simp only at w
        by_cases k : (SeqAt.shaped d && e.all SeqAt.shaped) = true
        · rw [if_pos k] at w
          rw [Bool.and_eq_true] at k
          exact .inr ⟨d, e, rfl, rfl, k.1, k.2, w⟩
        · rw [if_neg k] at w; exact w.elim
theorem flats_rep : ∀ {vs : List Val} {ws : List V}, RepVs ρ H vs ws → vs.all Val.flat = true → ws.all flatV = true ∧ ∀ a : Val, a.flat = true → (ws.any fun y => eqV y (flatW a)) = vs.any fun y => eqFlat y a
  | [], _, r, _ => by rw [repVs_nil.mp r]; exact ⟨rfl, fun _ _ => rfl⟩
  | v :: vs, _, r, h => by
    obtain ⟨w, q, rfl, r1, r2⟩ := repVs_cons.mp r
    rw [List.all_cons, Bool.and_eq_true] at h
    obtain ⟨e, f⟩ := repV_flat h.1 r1
    obtain ⟨g, k⟩ := flats_rep r2 h.2
    refine ⟨by rw [List.all_cons, f, g]; rfl, fun a ha => ?_⟩
    rw [List.any_cons, List.any_cons, k a ha, e, eqV_flat h.1 ha]
theorem canAll : ∀ {es : List PyData}, es.all SeqAt.shaped = true → PyData.canLayAll0 es = true
  | [], _ => by simp [PyData.canLayAll0]
  | e :: es, h => by
    rw [List.all_cons, Bool.and_eq_true] at h
    simp only [PyData.canLayAll0, Bool.and_eq_true]
    exact ⟨SeqAt.canLay_of_shaped h.1, canAll h.2⟩
theorem room1 {A : Around} {es : List PyData} {d : PyData} (hd : SeqAt.shaped d = true) (hu : A.units + 200 < cLine) : A.units + 1 + min (PyData.depthAll es) d.depth < cLine := by
  have h1 := SeqAt.depth_of_shaped hd
  have h2 : min (PyData.depthAll es) d.depth ≤ d.depth := Nat.min_le_right _ _
  omega
/-- a row that stands at an address, a list or a tuple -/
theorem in_row (I : Inv X pins σ H s) (hu : X.A.units + 200 < cLine) (rx : RelV x v) (R : RelH X.K ρ hs H) {a : Val} {vs : List Val} {ws : List V} {p : Addr} (ra : RepV ρ H a x) (rs : RepVs ρ H vs ws) (hp : SqL X.K H p ws ∨ SqT X.K H p ws)
    {E : Nat → List Val → Hs → Prop} (w : wp (anyEq a vs hs) (fun b h => wp (ret (.bl b) h) (PV X.K ρ hs H Q) E) E) : wpAny (model X.prog X.w) X.A (compareOp .In v (.ref p)) (EP X pins σ Q) X.xe s := by
  rcases wp_any w with ⟨h1, h2, w⟩ | ⟨d, es, h1, h2, h3, h4, w⟩
  · obtain ⟨e, f⟩ := repV_flat h1 ra
    obtain ⟨g, k⟩ := flats_rep rs h2
    refine op_in_seq pins s σ H x _ v _ Q I rx (show RelV (.ref p) (.ref p) from rfl) ⟨p, ws, rfl, hp, f, g, ?_⟩
    show Q (.bl (inV x ws)) H
    unfold inV
    rw [e, k a h1]
    exact w.here R (repV_bl.mpr rfl)
  · obtain ⟨as, r1⟩ := Dp.reads I d x v (dat_dp R ra h1) rx
    have hx := dats_dp R rs h2
    rcases hp with hp | hp
    · obtain ⟨bs, r2⟩ := Dp.reads I (.list es) (.ref p) (.ref p) (.lst hp hx) rfl
      exact SeqAt.in_list_reads r2 r1 (canAll h4) (SeqAt.canLay_of_shaped h3) (room1 h3 hu) ⟨.bl _, H, I, rfl, w.here R (repV_bl.mpr rfl)⟩
    · obtain ⟨bs, r2⟩ := Dp.reads I (.tuple es) (.ref p) (.ref p) (.tup hp hx) rfl
      exact SeqAt.in_tuple_reads r2 r1 (canAll h4) (SeqAt.canLay_of_shaped h3) (room1 h3 hu) ⟨.bl _, H, I, rfl, w.here R (repV_bl.mpr rfl)⟩
theorem notin_row (I : Inv X pins σ H s) (hu : X.A.units + 200 < cLine) (rx : RelV x v) (R : RelH X.K ρ hs H) {a : Val} {vs : List Val} {ws : List V} {p : Addr} (ra : RepV ρ H a x) (rs : RepVs ρ H vs ws) (hp : SqL X.K H p ws ∨ SqT X.K H p ws)
    {E : Nat → List Val → Hs → Prop} (w : wp (anyEq a vs hs) (fun b h => wp (ret (.bl (!b)) h) (PV X.K ρ hs H Q) E) E) : wpAny (model X.prog X.w) X.A (compareOp .NotIn v (.ref p)) (EP X pins σ Q) X.xe s := by
  rcases wp_any w with ⟨h1, h2, w⟩ | ⟨d, es, h1, h2, h3, h4, w⟩
  · obtain ⟨e, f⟩ := repV_flat h1 ra
    obtain ⟨g, k⟩ := flats_rep rs h2
    refine op_notIn_seq pins s σ H x _ v _ Q I rx (show RelV (.ref p) (.ref p) from rfl) ⟨p, ws, rfl, hp, f, g, ?_⟩
    show Q (.bl (!inV x ws)) H
    unfold inV
    rw [e, k a h1]
    exact w.here R (repV_bl.mpr rfl)
  · obtain ⟨as, r1⟩ := Dp.reads I d x v (dat_dp R ra h1) rx
    have hx := dats_dp R rs h2
    rcases hp with hp | hp
    · obtain ⟨bs, r2⟩ := Dp.reads I (.list es) (.ref p) (.ref p) (.lst hp hx) rfl
      exact SeqAt.notIn_list_reads r2 r1 (canAll h4) (SeqAt.canLay_of_shaped h3) (room1 h3 hu) ⟨.bl _, H, I, rfl, w.here R (repV_bl.mpr rfl)⟩
    · obtain ⟨bs, r2⟩ := Dp.reads I (.tuple es) (.ref p) (.ref p) (.tup hp hx) rfl
      exact SeqAt.notIn_tuple_reads r2 r1 (canAll h4) (SeqAt.canLay_of_shaped h3) (room1 h3 hu) ⟨.bl _, H, I, rfl, w.here R (repV_bl.mpr rfl)⟩
end
/-! dicts -/
section
variable {ρ : Rho} {H : Hp}
theorem KRep.look : ∀ {kvs : List (Val × Val)} {ws : List (Key × V)} (k : Key), KRep ρ H kvs ws → (∀ v, look kvs (keyV k) = some v → ∃ w, valV ws k = some w ∧ RepV ρ H v w) ∧ (look kvs (keyV k) = none → valV ws k = none)
  | _, _, k, .nil => ⟨fun v e => by simp [Z.look] at e, fun _ => rfl⟩
  | (a, b) :: r, (c, d) :: t, k, .cons h1 h2 => by
    have e1 : a = keyV c := h1.1
    have ih := KRep.look k h2
    by_cases e : c = k
    · subst e
      rw [valV_pos (p := (c, d)) rfl]
      have : Z.look ((a, b) :: r) (keyV c) = some b := by simp [Z.look, e1]
      rw [this]
      exact ⟨fun v z => by cases z; exact ⟨d, rfl, h1.2⟩, fun z => by cases z⟩
    · rw [valV_neg (p := (c, d)) e]
      have : Z.look ((a, b) :: r) (keyV k) = Z.look r (keyV k) := by
        show (if a = keyV k then _ else _) = _
        rw [if_neg (fun z => e (keyV_inj (e1.symm.trans z)))]
      rw [this]
      exact ih
theorem TRep.look : ∀ {kvs : List (Val × Val)} {ws : List (List Key × V)} (k : List Key), TRep ρ H kvs ws → (∀ v, look kvs (.tup (k.map keyV)) = some v → ∃ w, valV ws k = some w ∧ RepV ρ H v w) ∧ (look kvs (.tup (k.map keyV)) = none → valV ws k = none)
  | _, _, k, .nil => ⟨fun v e => by simp [Z.look] at e, fun _ => rfl⟩
  | (a, b) :: r, (c, d) :: t, k, .cons h1 h2 => by
    have e1 : a = .tup (c.map keyV) := h1.1
    have ih := TRep.look k h2
    by_cases e : c = k
    · subst e
      rw [valV_pos (p := (c, d)) rfl]
      have : Z.look ((a, b) :: r) (.tup (c.map keyV)) = some b := by simp [Z.look, e1]
      rw [this]
      exact ⟨fun v z => by cases z; exact ⟨d, rfl, h1.2⟩, fun z => by cases z⟩
    · rw [valV_neg (p := (c, d)) e]
      have : Z.look ((a, b) :: r) (.tup (k.map keyV)) = Z.look r (.tup (k.map keyV)) := by
        show (if a = .tup (k.map keyV) then _ else _) = _
        rw [if_neg (fun z => e (keyVs_inj (Val.tup.inj (e1.symm.trans z))))]
      rw [this]
      exact ih
theorem keyT_is {v : Val} (h : v.keyT = true) : ∃ ks : List Key, v = .tup (ks.map keyV) := by
  cases v with
  | tup vs => obtain ⟨ks, rfl⟩ := keys_are (show vs.all Val.key = true from h); exact ⟨ks, rfl⟩
  | _ => simp [Val.keyT] at h
/-- a tuple that is a key, as a dict looks at it -/
theorem TupD.rd {a : Addr} {xs : List V} (t : TupD H a xs) : Rd H a (.tup xs) := let ⟨o, h, _⟩ := t; .inr ⟨o, h⟩
end
end Z
-- ZS4
namespace Z
open PySem PySem.Spec PyProof.Rows L2
theorem row_of {K : PySem.W.Frag} {ρ : Rho} {H : Hp} {a : Addr} {vs : List Val} (h : ObRep K ρ H a (.lst vs)) : ∃ xs, SqL K H a xs ∧ RepVs ρ H vs xs := let ⟨xs, h1, h2⟩ := h; ⟨xs, SqL.of h1, h2⟩
theorem row_ro {K : PySem.W.Frag} {ρ : Rho} {H : Hp} {a : Addr} {vs : List Val} (h : ObRep K ρ H a (.ro vs)) : ∃ xs, SqL K H a xs ∧ RepVs ρ H vs xs := let ⟨xs, h1, h2⟩ := h; ⟨xs, h1.sq, h2⟩
theorem RepVs.isEmpty {ρ : Rho} {H : Hp} {vs : List Val} {xs : List V} (r : RepVs ρ H vs xs) : xs.isEmpty = vs.isEmpty := by
  have h := r.length
  cases vs <;> cases xs <;> first | rfl | simp at h
theorem KRep.isEmpty {ρ : Rho} {H : Hp} {vs : List (Val × Val)} {xs : List (Key × V)} (r : KRep ρ H vs xs) : xs.isEmpty = vs.isEmpty := by
  cases r <;> rfl
theorem KRep.length {ρ : Rho} {H : Hp} {vs : List (Val × Val)} {xs : List (Key × V)} (r : KRep ρ H vs xs) : xs.length = vs.length := (Paired.length r).symm
theorem keyV_iff {v : Val} {k : Key} : v = keyV k → v.key = true := by
  intro h; subst h; cases k <;> rfl
/-! # Truth -/
section
variable {X : Cx}
def PB (K : PySem.W.Frag) (ρ : Rho) (hs : Hs) (H : Hp) (Q : Bool → Hp → Prop) : Bool → Hs → Prop := fun b hs' => ∀ ρ' H', Stp ρ hs H ρ' hs' H' → RelH K ρ' hs' H' → Q b H'
def denT (K : PySem.W.Frag) : V → Hp → (Bool → Hp → Prop) → Prop := fun x H Q => ∃ ρ hs vx, RelH K ρ hs H ∧ RepV ρ H vx x ∧ ∃ E, wp (truth vx hs) (PB K ρ hs H Q) E
theorem or_truth : TruR X (denT X.K) := by
  intro pins s σ H x v Q I rx h
  obtain ⟨ρ, hs, a, R, ra, _, w⟩ := h
  cases a with
  | non => rw [repV_non.mp ra] at rx; exact tru_ok pins s σ H _ v Q I rx ⟨false, rfl, w ρ H R.refl R⟩
  | bl b => rw [repV_bl.mp ra] at rx; exact tru_ok pins s σ H _ v Q I rx ⟨b, rfl, w ρ H R.refl R⟩
  | int i => rw [repV_int.mp ra] at rx; exact tru_ok pins s σ H _ v Q I rx ⟨_, rfl, w ρ H R.refl R⟩
  | str z =>
    rw [repV_str.mp ra] at rx
    obtain ⟨h1, w⟩ := wp_guard (wp_bnd.mp w)
    have q := w ρ H R.refl R
    refine tru_ok pins s σ H _ v Q I rx ⟨_, ⟨by rw [← SL_eq]; exact of_decide_eq_true h1, rfl⟩, ?_⟩
    have e : ((z.length : Int) != 0) = (z.length != 0) := by
      rw [Bool.eq_iff_iff]; simp
    rw [e]; exact q
  | tup vs =>
    obtain ⟨p, xs, rfl, t, r⟩ := repV_tup.mp ra
    exact tru_ok pins s σ H _ v Q I rx ⟨_, .inr (.inl ⟨xs, t.sq, rfl⟩), by rw [r.isEmpty]; exact w ρ H R.refl R⟩
  | loc d i =>
    obtain ⟨o, g, w⟩ := wp_rd (wp_bnd.mp w)
    obtain ⟨p, rfl, _, b⟩ := R.at ra g
    cases o with
    | lst vs =>
      obtain ⟨xs, h1, r⟩ := row_of b
      exact tru_ok pins s σ H _ v Q I rx ⟨_, .inl ⟨xs, h1, rfl⟩, by rw [r.isEmpty]; exact w ρ H R.refl R⟩
    | ro vs =>
      obtain ⟨xs, h1, r⟩ := row_ro b
      exact tru_ok pins s σ H _ v Q I rx ⟨_, .inl ⟨xs, h1, rfl⟩, by rw [r.isEmpty]; exact w ρ H R.refl R⟩
    | dK kvs =>
      obtain ⟨ws, h1, r⟩ := b
      exact tru_ok pins s σ H _ v Q I rx ⟨_, .inr (.inr ⟨ws, h1, rfl⟩), by rw [KRep.isEmpty r]; exact w ρ H R.refl R⟩
    | dT kvs => exact w.elim
    | set vs => exact w.elim
/-! # Items -/
theorem place_eq (n : Nat) (i : Int) : place n i = ixN n i := rfl
theorem nth_at {ρ : Rho} {H : Hp} {vs : List Val} {xs : List V} {i : Int} {v : Val} (r : RepVs ρ H vs xs) (h : nth vs i = some v) : ∃ w, atI xs i = some w ∧ RepV ρ H v w := by
  unfold nth at h
  unfold atI
  rw [r.length]
  rw [place_eq] at h
  cases e : ixN vs.length i with
  | none => rw [e] at h; cases h
  | some j =>
    rw [e] at h
    obtain ⟨w, h1, h2⟩ := r.get h
    exact ⟨w, h1, h2⟩
theorem nth_str {l : List Nat} {i : Int} {c : Nat} (h : nth l i = some c) : atI l i = some c := by
  unfold nth at h
  unfold atI
  rw [place_eq] at h
  cases e : ixN l.length i with
  | none => rw [e] at h; cases h
  | some j => rw [e] at h; exact h
theorem d_getItemE {pins : List (Addr × PySem.Obj)} {σ : L2.St} {H : Hp} {s : Shared} {a : Addr} {y v : V} {u : Value} {Q : VK} (hu : X.A.units + 1 < cLine) (I : Inv X pins σ H s) (g : DGet H a y (some v)) (ry : RelV y u) (q : Q v H) :
    wpAny (model X.prog X.w) X.A (getItem (.ref a) u) (EP X pins σ Q) X.xe s := d_getItem hu I g ry fun w' s3 I3 rw' => ⟨v, H, I3, rw', q⟩
theorem or_item (hu : X.A.units + 1 < cLine) : IxR X (den2 X.K item) := by
  intro value slice pins s σ H x y v u Q I rx ry h hsub
  obtain ⟨ρ, hs, a, b, R, ra, rb, E, w⟩ := h
  cases a with
  | tup vs =>
    cases b <;> first | exact False.elim w | skip
    rename_i i
    obtain ⟨c, h1, w⟩ := wp_optM (show wp (optM (nth vs i) hs) (PV X.K ρ hs H Q) E from w)
    obtain ⟨p, xs, rfl, t, r⟩ := repV_tup.mp ra
    rw [repV_int] at rb
    obtain ⟨z, h2, h3⟩ := nth_at r h1
    exact ix_tup value slice pins s σ H _ y v u Q I rx ry ⟨p, xs, i, z, rfl, rb, t.sq, h2, w.here R h3⟩ hsub
  | str z =>
    cases b <;> first | exact False.elim w | skip
    rename_i i
    rw [repV_str] at ra
    rw [repV_int] at rb
    obtain ⟨h1, w⟩ := wp_guard (wp_bnd.mp w)
    cases e : nth z.cps.toList i with
    | none => rw [e] at w; exact w.elim
    | some c =>
      rw [e] at w
      exact ix_str value slice pins s σ H x y v u Q I rx ry ⟨z, i, c, ra, rb, by rw [← SL_eq]; exact of_decide_eq_true h1, nth_str e, w.here R (repV_str.mpr rfl)⟩ hsub
  | loc d j =>
    obtain ⟨o, g, w⟩ := wp_rd (wp_bnd.mp (show wp (bnd (rd (.loc d j)) _ hs) _ _ from by simpa only [item] using w))
    obtain ⟨p, rfl, _, ob⟩ := R.at ra g
    have row : ∀ {vs : List Val} {xs : List V} {i : Int}, b = .int i → SqL X.K H p xs → RepVs ρ H vs xs → wp (optM (nth vs i) hs) (PV X.K ρ hs H Q) E → wpAny (model X.prog X.w) X.A (subscriptTail value slice v u) (EP X pins σ Q) X.xe s := fun {vs xs i} eb hl r w2 => by
      subst eb
      rw [repV_int] at rb
      obtain ⟨c, h1, w2⟩ := wp_optM w2
      obtain ⟨z, h2, h3⟩ := nth_at r h1
      exact ix_list value slice pins s σ H _ y v u Q I rx ry ⟨p, xs, i, z, rfl, rb, hl, h2, w2.here R h3⟩ hsub
    cases o with
    | lst vs =>
      cases b <;> first | exact False.elim w | skip
      obtain ⟨xs, h1, r⟩ := row_of ob
      exact row rfl h1 r w
    | ro vs =>
      cases b <;> first | exact False.elim w | skip
      obtain ⟨xs, h1, r⟩ := row_ro ob
      exact row rfl h1 r w
    | dK kvs =>
      have w : wp (bnd (guard b.key) (fun _ => optM (look kvs b)) hs) (PV X.K ρ hs H Q) E := by cases b <;> exact w
      obtain ⟨h1, w⟩ := wp_guard (wp_bnd.mp w)
      obtain ⟨k, rfl⟩ := key_is h1
      obtain ⟨c, h2, w⟩ := wp_optM w
      obtain ⟨ws, h3, r⟩ := ob
      obtain ⟨z, h4, h5⟩ := (KRep.look k r).1 c h2
      rw [repV_key] at rb
      subst rb
      cases (show v = Value.ref p from rx)
      have gd : DGet H p (kV k) (some z) := by rw [← h4]; exact DGet.k h3
      refine tail_any (ops := [.ref p, u]) (dict_typeIs I gd) PySem.F.slot_dict_getitem.lookup (d_getItemE hu I gd ry (w.here R h5)) hsub
    | dT kvs => exact ob.elim
    | set vs => cases b <;> exact w.elim
  | _ => cases b <;> exact False.elim w
/-! # Slices -/
theorem sIx_eq (n d : Nat) (o : Option Int) : sIx n d o = HT.sIx n d o := by
  cases o with
  | none => rfl
  | some i =>
    show (if i < 0 then (i + n).toNat else min i.toNat n) = HT.sIx n d (some i)
    unfold HT.sIx
    first
      | rfl
      | (by_cases h : i < 0
         · rw [if_pos h]; simp [h]
         · rw [if_neg h]; simp [h])
end
end Z
-- ZS5
namespace Z
open PySem PySem.Spec PyProof.Rows L2
/-! # Slices -/
theorem cutV_eq (xs : List V) (l u : Option Int) : cutV xs l u = cut xs l u := by
  unfold cutV cut
  rw [sIx_eq, sIx_eq]
theorem cutS_eq (z : Str) (l u : Option Int) : cutS z l u = ⟨(cut z.cps.toList l u).toArray⟩ := by
  unfold cutS cut
  rw [sIx_eq, sIx_eq, Array.length_toList]
  rfl
section
variable {X : Cx} {K : PySem.W.Frag} {ρ : Rho} {hs : Hs} {H : Hp}
theorem RepVs.cut {vs : List Val} {xs : List V} (r : RepVs ρ H vs xs) (l u : Option Int) : RepVs ρ H (cut vs l u) (cut xs l u) := by
  unfold Z.cut
  rw [r.length]
  exact (r.drop _).take _
def denS (K : PySem.W.Frag) : V → Option Int → Option Int → Hp → VK → Prop := fun x l u H Q => ∃ ρ hs a, RelH K ρ hs H ∧ RepV ρ H a x ∧ ∃ E, wp (sliceP a l u hs) (PV K ρ hs H Q) E
theorem or_slice : SlR X (denS X.K) := by
  intro pins s σ H x v vl vu lo hi sl Q I rx hsl pl pu h
  obtain ⟨ρ, hs, a, R, ra, E, w⟩ := h
  cases a with
  | tup vs =>
    obtain ⟨p, xs, rfl, t, r⟩ := repV_tup.mp ra
    cases rx
    obtain ⟨its, rv, ht, hz⟩ := I.tuple (t.sq (K := X.K))
    have hlen : its.toArray.size = xs.length := by rw [List.size_toArray]; exact rv.length.symm
    refine ⟨"tuple", _, PyProof.Rows.slot_tuple_getitem.lookup, ht.typeIs, ?_⟩
    by_cases hw : HT.sIx xs.length 0 lo = 0 ∧ HT.sIx xs.length xs.length hi = xs.length
    · refine getItem_tuple_whole ht hsl pl pu (by rw [hlen]; exact hw) ⟨.ref p, H, I, rfl, ?_⟩
      have e : cut vs lo hi = vs := by
        unfold cut
        rw [← r.length, sIx_eq, sIx_eq, hw.1, hw.2, List.drop_zero, Nat.sub_zero, r.length]
        exact List.take_length
      exact w.here R (by rw [e]; exact ra)
    · refine HT.getItem_tuple_cut ht hsl pl pu (by rw [hlen]; exact hw) ?_ (by rw [hlen]; exact hz)
      rw [hlen]
      refine end_tup I ((rv.drop _).take _) (Nat.le_trans (cutV_length xs lo hi) hz) fun q ob hq hd => ?_
      have r2 := r.cut lo hi
      rw [← cutV_eq] at r2
      exact PV.tup w R r2 hq hd
  | str z =>
    rw [repV_str.mp ra] at rx
    obtain ⟨h1, w⟩ := wp_guard (wp_bnd.mp w)
    exact sl_str pins s σ H _ v vl vu lo hi sl Q I rx hsl pl pu ⟨z, rfl, by rw [← SL_eq]; exact of_decide_eq_true h1, by rw [cutS_eq]; exact w.here R (repV_str.mpr rfl)⟩
  | loc d i =>
    obtain ⟨o, g, w⟩ := wp_rd (wp_bnd.mp w)
    obtain ⟨p, rfl, _, b⟩ := R.at ra g
    have row : ∀ {vs : List Val} {xs : List V}, SqL X.K H p xs → RepVs ρ H vs xs → wp (alloc (.lst (cut vs lo hi)) hs) (PV X.K ρ hs H Q) E → _ := fun {vs xs} hl r w2 =>
      sl_list pins s σ H _ v vl vu lo hi sl Q I rx hsl pl pu ⟨p, xs, rfl, hl, fun q hq => by
        rw [cutV_eq]
        exact alloc_lst w2 R (r.cut lo hi) hq⟩
    cases o with
    | lst vs => obtain ⟨xs, h1, r⟩ := row_of b; exact row h1 r w
    | ro vs => obtain ⟨xs, h1, r⟩ := row_ro b; exact row h1 r w
    | dK _ => exact w.elim
    | dT _ => exact w.elim
    | set _ => exact w.elim
  | _ => exact w.elim
/-! # o[i] = v -/
def denSt (K : PySem.W.Frag) : V → V → V → Hp → (Hp → Prop) → Prop := fun x y z H Q => ∃ ρ hs a b c, RelH K ρ hs H ∧ RepV ρ H a x ∧ RepV ρ H b y ∧ RepV ρ H c z ∧ ∃ E, wp (store a b c hs) (fun _ hs' => ∀ ρ' H', Stp ρ hs H ρ' hs' H' → RelH K ρ' hs' H' → Q H') E
theorem KRep.any {k : Key} : ∀ {kvs : List (Val × Val)} {ws : List (Key × V)}, KRep ρ H kvs ws → (kvs.any fun p => decide (p.1 = keyV k)) = ws.any fun q => decide (q.1 = k)
  | _, _, .nil => rfl
  | p :: kvs, q :: ws, .cons h t => by
    rw [List.any_cons, List.any_cons, KRep.any t, h.1]
    congr 1
    rw [Bool.eq_iff_iff, decide_eq_true_eq, decide_eq_true_eq]
    exact ⟨keyV_inj, fun e => by rw [e]⟩
theorem KRep.chg {k : Key} {a : Val} {z : V} (r : RepV ρ H a z) : ∀ {kvs : List (Val × Val)} {ws : List (Key × V)}, KRep ρ H kvs ws → KRep ρ H (kvs.map fun p => if p.1 = keyV k then (p.1, a) else p) (ws.map fun q => if q.1 = k then (q.1, z) else q)
  | _, _, .nil => .nil
  | p :: kvs, q :: ws, .cons h t => by
    rw [List.map_cons, List.map_cons]
    refine .cons ?_ (KRep.chg r t)
    by_cases e : q.1 = k
    · rw [if_pos e, if_pos (h.1.trans (by rw [e]))]
      exact ⟨h.1, r⟩
    · rw [if_neg e, if_neg (fun w => e (keyV_inj (h.1.symm.trans w)))]
      exact h
theorem KRep.app {kvs kvs2 : List (Val × Val)} {ws ws2 : List (Key × V)} (h : KRep ρ H kvs ws) (h2 : KRep ρ H kvs2 ws2) : KRep ρ H (kvs ++ kvs2) (ws ++ ws2) := by
  induction h with
  | nil => exact h2
  | cons h1 _ ih => exact .cons h1 ih
theorem KRep.put {k : Key} {a : Val} {z : V} {kvs : List (Val × Val)} {ws : List (Key × V)} (h : KRep ρ H kvs ws) (r : RepV ρ H a z) : KRep ρ H (putKV kvs (keyV k) a) (putK ws k z) := by
  unfold putKV putK
  rw [h.any]
  by_cases c : (ws.any fun q => decide (q.1 = k)) = true
  · rw [if_pos c, if_pos c]; exact h.chg r
  · rw [if_neg c, if_neg c]; exact h.app (.cons ⟨rfl, r⟩ .nil)
theorem or_store (hu : X.A.units + 1 < cLine) : PSet X (denSt X.K) := by
  intro pins s σ H x y z v u t Q I rx ry rz h
  obtain ⟨ρ, hs, a, b, c, R, ra, rb, rc, E, w⟩ := h
  cases a <;> first | exact False.elim w | skip
  rename_i d j
  obtain ⟨o, g, w⟩ := wp_rd (wp_bnd.mp w)
  obtain ⟨p, rfl, hp, ob⟩ := R.at ra g
  cases o with
  | lst vs =>
    cases b <;> first | exact False.elim w | skip
    rename_i i w_
    rw [repV_int] at rb
    cases e : place vs.length i with
    | none =>
      simp only [e] at w
      exact w.elim
    | some k =>
      simp only [e] at w
      obtain ⟨ok, _, w⟩ := wp_wr w
      obtain ⟨xs, h1, r⟩ := ob
      refine set_list pins s σ H _ _ z v u t Q I rx ry rz ⟨p, xs, i, k, rfl, rb, h1, by rw [r.length]; exact e, ?_⟩
      have mu : Mut (H p) := by rw [h1]; trivial
      have tx : TupX H (upd H p (.lst (xs.set k z))) := tupX_mut mu
      obtain ⟨R1, S1⟩ := R.putS (o' := .lst (vs.set k c)) g hp rfl ⟨_, upd_same, RepVs.mono (RX.refl _) tx _ _ (r.set k rc)⟩ ok rfl
      exact w ρ _ S1 R1
  | dK kvs =>
    have w : wp (bnd (guard (b.key && decide (kvs.length < SL))) (fun _ => wr d j (.dK (putKV kvs b c))) hs) (fun _ hs' => ∀ ρ' H', Stp ρ hs H ρ' hs' H' → RelH X.K ρ' hs' H' → Q H') E := by cases b <;> exact w
    obtain ⟨h1, w⟩ := wp_guard (wp_bnd.mp w)
    rw [Bool.and_eq_true] at h1
    obtain ⟨k, rfl⟩ := key_is h1.1
    have hl := of_decide_eq_true h1.2
    obtain ⟨ok, _, w⟩ := wp_wr w
    obtain ⟨ws, h3, r⟩ := ob
    rw [repV_key] at rb
    subst rb
    cases (show v = Value.ref p from rx)
    have mu : Mut (H p) := by rw [h3]; trivial
    have tx : TupX H (upd H p (.dK (putK ws k z))) := tupX_mut mu
    refine d_setItem hu I (DPut.k h3 (by rw [r.length, ← SL_eq]; exact hl)) ry rz fun s' I' => ⟨_, I', ?_⟩
    obtain ⟨R1, S1⟩ := R.putS (o' := .dK (putKV kvs (keyV k) c)) g hp rfl ⟨_, upd_same, KRep.mono (RX.refl _) tx (r.put rc)⟩ ok rfl
    exact w ρ _ S1 R1
  | ro vs => exact w.elim
  | dT kvs => exact ob.elim
  | set vs => exact ob.elim
end
end Z
-- ZS6
namespace Z
open PySem PySem.Spec PyProof.Rows L2
/-! # in -/
section
variable {X : Cx}
theorem or_in (hu : X.A.units + 200 < cLine) : OpR X (compareOp .In) (den2 X.K (cmpop .isin)) := by
  intro pins s σ H x y v u Q I rx ry h
  obtain ⟨ρ, hs, a, b, R, ra, rb, E, w⟩ := h
  have w := wp_bnd.mp (show wp (bnd (inVal a b) (fun c => ret (.bl c)) hs) (PV X.K ρ hs H Q) E from w)
  cases b with
  | tup vs =>
    obtain ⟨p, xs, rfl, t, r⟩ := repV_tup.mp rb
    cases (show u = Value.ref p from ry)
    exact in_row I hu rx R ra r (.inr t.sq) w
  | str z =>
    cases a <;> first | exact False.elim w | skip
    rename_i c w_
    rw [repV_str] at ra rb
    exact op_in_str pins s σ H _ _ v u Q I rx ry ⟨c, z, ra, rb, PV.here w R (repV_bl.mpr rfl)⟩
  | loc d i =>
    obtain ⟨o, g, w⟩ := wp_rd (wp_bnd.mp w)
    obtain ⟨p, rfl, _, ob⟩ := R.at rb g
    cases (show u = Value.ref p from ry)
    cases o with
    | lst vs => obtain ⟨xs, h1, r⟩ := row_of ob; exact in_row I hu rx R ra r (.inl h1) w
    | ro vs => obtain ⟨xs, h1, r⟩ := row_ro ob; exact in_row I hu rx R ra r (.inl h1) w
    | dK kvs =>
      obtain ⟨h1, w⟩ := wp_guard (wp_bnd.mp w)
      obtain ⟨k, rfl⟩ := key_is h1
      obtain ⟨ws, h3, r⟩ := ob
      rw [repV_key] at ra
      subst ra
      obtain ⟨k1, k2⟩ := KRep.look k r
      refine d_in (by omega) I (DGet.k h3) rx fun s' I' => ⟨.bl _, H, I', rfl, ?_⟩
      cases e : look kvs (keyV k) with
      | none =>
        rw [e] at w
        rw [k2 e]
        exact PV.here w R (repV_bl.mpr rfl)
      | some q =>
        obtain ⟨z, e2, _⟩ := k1 q e
        rw [e] at w
        rw [e2]
        exact PV.here w R (repV_bl.mpr rfl)
    | dT kvs => exact ob.elim
    | set vs => exact ob.elim
  | _ => exact w.elim
theorem or_notin (hu : X.A.units + 200 < cLine) : OpR X (compareOp .NotIn) (den2 X.K (cmpop .notin)) := by
  intro pins s σ H x y v u Q I rx ry h
  obtain ⟨ρ, hs, a, b, R, ra, rb, E, w⟩ := h
  have w := wp_bnd.mp (show wp (bnd (inVal a b) (fun c => ret (.bl (!c))) hs) (PV X.K ρ hs H Q) E from w)
  cases b with
  | tup vs =>
    obtain ⟨p, xs, rfl, t, r⟩ := repV_tup.mp rb
    cases (show u = Value.ref p from ry)
    exact notin_row I hu rx R ra r (.inr t.sq) w
  | str z =>
    cases a <;> first | exact False.elim w | skip
    rename_i c w_
    rw [repV_str] at ra rb
    exact L2.op_notIn_str pins s σ H _ _ v u Q I rx ry ⟨c, z, ra, rb, PV.here w R (repV_bl.mpr rfl)⟩
  | loc d i =>
    obtain ⟨o, g, w⟩ := wp_rd (wp_bnd.mp w)
    obtain ⟨p, rfl, _, ob⟩ := R.at rb g
    cases (show u = Value.ref p from ry)
    cases o with
    | lst vs => obtain ⟨xs, h1, r⟩ := row_of ob; exact notin_row I hu rx R ra r (.inl h1) w
    | ro vs => obtain ⟨xs, h1, r⟩ := row_ro ob; exact notin_row I hu rx R ra r (.inl h1) w
    | dK kvs =>
      obtain ⟨h1, w⟩ := wp_guard (wp_bnd.mp w)
      obtain ⟨k, rfl⟩ := key_is h1
      obtain ⟨ws, h3, r⟩ := ob
      rw [repV_key] at ra
      subst ra
      obtain ⟨k1, k2⟩ := KRep.look k r
      refine d_notIn (by omega) I (DGet.k h3) rx fun s' I' => ⟨.bl _, H, I', rfl, ?_⟩
      cases e : look kvs (keyV k) with
      | none =>
        rw [e] at w
        rw [k2 e]
        exact PV.here w R (repV_bl.mpr rfl)
      | some q =>
        obtain ⟨z, e2, _⟩ := k1 q e
        rw [e] at w
        rw [e2]
        exact PV.here w R (repV_bl.mpr rfl)
    | dT kvs => exact ob.elim
    | set vs => exact ob.elim
  | _ => exact w.elim
def pyCmp : Cop → CmpOp
  | .eq => .Eq | .ne => .NotEq | .lt => .Lt | .le => .LtE | .gt => .Gt | .ge => .GtE | .is => .Is | .isnot => .IsNot | .isin => .In | .notin => .NotIn
theorem or_cmp (hu : X.A.units + 200 < cLine) (op : Cop) : OpR X (compareOp (pyCmp op)) (den2 X.K (cmpop op)) := by
  have hu64 : X.A.units + 64 < cLine := by omega
  cases op
  · exact or_eq hu64
  · exact or_ne hu64
  · exact or_lt hu64
  · exact or_le hu64
  · exact or_gt hu64
  · exact or_ge hu64
  · exact or_is
  · exact or_isnot
  · exact or_in hu
  · exact or_notin hu
/-! # neg, inv -/
theorem or_neg : UnR X (unaryOp .USub) (den1 X.K negV) := by
  intro pins s σ H x v Q I rx h
  obtain ⟨ρ, hs, a, R, ra, E, w⟩ := h
  cases a <;> first | exact False.elim w | skip
  rename_i i
  rw [repV_int] at ra
  exact un_neg pins s σ H x v Q I rx ⟨i, ra, PV.here w R (repV_int.mpr rfl)⟩
theorem or_inv : UnR X (unaryOp .Invert) (den1 X.K invV) := by
  intro pins s σ H x v Q I rx h
  obtain ⟨ρ, hs, a, R, ra, E, w⟩ := h
  cases a <;> first | exact False.elim w | skip
  rename_i i
  rw [repV_int] at ra
  exact un_inv pins s σ H x v Q I rx ⟨i, ra, PV.here w R (repV_int.mpr rfl)⟩
end
/-! # Built-in functions -/
section
variable {X : Cx} {ρ : Rho} {hs : Hs} {H : Hp}
/-- the items of a value that one may walk -/
theorem wp_items {v : Val} {x : V} {P : List Val → Hs → Prop} {E : Nat → List Val → Hs → Prop} (R : RelH X.K ρ hs H) (r : RepV ρ H v x) (w : wp (itemsOf v hs) P E) : ∃ p vs xs, x = .ref p ∧ (SqL X.K H p xs ∨ (v = .tup vs ∧ TupD H p xs)) ∧ RepVs ρ H vs xs ∧ P vs hs := by
  cases v with
  | tup vs =>
    obtain ⟨p, xs, rfl, t, r⟩ := repV_tup.mp r
    exact ⟨p, vs, xs, rfl, .inr ⟨rfl, t⟩, r, w⟩
  | loc d i =>
    obtain ⟨o, g, w⟩ := wp_rd (wp_bnd.mp w)
    obtain ⟨p, rfl, _, ob⟩ := R.at r g
    cases o with
    | lst vs => obtain ⟨xs, h1, r⟩ := row_of ob; exact ⟨p, vs, xs, rfl, .inl h1, r, w⟩
    | ro vs => obtain ⟨xs, h1, r⟩ := row_ro ob; exact ⟨p, vs, xs, rfl, .inl h1, r, w⟩
    | dK kvs => exact w.elim
    | dT kvs => exact w.elim
    | set vs => exact w.elim
  | _ => exact w.elim
theorem intsOf_is : ∀ {vs : List Val} {ns : List Int}, intsOf vs = some ns → vs = ns.map Val.int
  | [], ns, e => by simp only [intsOf, Option.some.injEq] at e; subst e; rfl
  | v :: vs, ns, e => by
    cases v <;> first | (simp [intsOf] at e; done) | skip
    rename_i i
    unfold intsOf at e
    cases q : intsOf vs with
    | none => rw [q] at e; cases e
    | some ms =>
      rw [q] at e
      cases e
      rw [intsOf_is q]; rfl
theorem boolsOf_is : ∀ {vs : List Val} {ns : List Bool}, boolsOf vs = some ns → vs = ns.map Val.bl
  | [], ns, e => by simp only [boolsOf, Option.some.injEq] at e; subst e; rfl
  | v :: vs, ns, e => by
    cases v <;> first | (simp [boolsOf] at e; done) | skip
    rename_i i
    unfold boolsOf at e
    cases q : boolsOf vs with
    | none => rw [q] at e; cases e
    | some ms =>
      rw [q] at e
      cases e
      rw [boolsOf_is q]; rfl
theorem maxI_mem : ∀ (r : List Int) (m : Int), maxI m r ∈ m :: r
  | [], m => by simp [maxI]
  | x :: r, m => by
    unfold maxI
    have := maxI_mem r (if x > m then x else m)
    rcases List.mem_cons.mp this with e | e
    · rw [e]; split <;> simp
    · exact List.mem_cons_of_mem _ (List.mem_cons_of_mem _ e)
theorem maxI_ge : ∀ (r : List Int) (m : Int), m ≤ maxI m r ∧ ∀ y ∈ r, y ≤ maxI m r
  | [], m => by simp [maxI]
  | x :: r, m => by
    unfold maxI
    obtain ⟨h1, h2⟩ := maxI_ge r (if x > m then x else m)
    have h3 : m ≤ (if x > m then x else m) ∧ x ≤ (if x > m then x else m) := by split <;> omega
    refine ⟨by omega, fun y hy => ?_⟩
    rcases List.mem_cons.mp hy with rfl | hy
    · omega
    · exact h2 y hy
theorem minI_mem : ∀ (r : List Int) (m : Int), minI m r ∈ m :: r
  | [], m => by simp [minI]
  | x :: r, m => by
    unfold minI
    have := minI_mem r (if x < m then x else m)
    rcases List.mem_cons.mp this with e | e
    · rw [e]; split <;> simp
    · exact List.mem_cons_of_mem _ (List.mem_cons_of_mem _ e)
theorem minI_le : ∀ (r : List Int) (m : Int), minI m r ≤ m ∧ ∀ y ∈ r, minI m r ≤ y
  | [], m => by simp [minI]
  | x :: r, m => by
    unfold minI
    obtain ⟨h1, h2⟩ := minI_le r (if x < m then x else m)
    have h3 : (if x < m then x else m) ≤ m ∧ (if x < m then x else m) ≤ x := by split <;> omega
    refine ⟨by omega, fun y hy => ?_⟩
    rcases List.mem_cons.mp hy with rfl | hy
    · omega
    · exact h2 y hy
/-- one argument -/
theorem repVs_one {v : Val} {xs : List V} (r : RepVs ρ H [v] xs) : ∃ x, xs = [x] ∧ RepV ρ H v x := by
  obtain ⟨x, t, rfl, h1, h2⟩ := repVs_cons.mp r
  rw [repVs_nil.mp h2]
  exact ⟨x, rfl, h1⟩
theorem repVs_two {v u : Val} {xs : List V} (r : RepVs ρ H [v, u] xs) : ∃ x y, xs = [x, y] ∧ RepV ρ H v x ∧ RepV ρ H u y := by
  obtain ⟨x, t, rfl, h1, h2⟩ := repVs_cons.mp r
  obtain ⟨y, rfl, h3⟩ := repVs_one h2
  exact ⟨x, y, rfl, h1, h3⟩
def denB (K : PySem.W.Frag) (b : Bi) : List V → Hp → VK → Prop := denL K (builtin b)
theorem or_len : CallR X (.builtin "len") (denB X.K .len) := by
  intro pins s σ H xs us Q I rr h
  obtain ⟨ρ, hs, vs, R, rs, E, w⟩ := h
  cases vs with
  | nil => exact w.elim
  | cons a t =>
    cases t with
    | cons b t => cases a <;> exact w.elim
    | nil =>
      obtain ⟨x, rfl, r⟩ := repVs_one rs
      cases a with
      | str z =>
        rw [repV_str] at r
        subst r
        obtain ⟨h1, w⟩ := wp_guard (wp_bnd.mp w)
        exact call_len_str pins s σ H _ us Q I rr ⟨z, rfl, by rw [← SL_eq]; exact of_decide_eq_true h1, PV.here w R (repV_int.mpr rfl)⟩
      | tup vs =>
        obtain ⟨p, xs, rfl, t, r⟩ := repV_tup.mp r
        exact call_len_seq pins s σ H _ us Q I rr ⟨p, xs, rfl, .inr t.sq, by rw [r.length]; exact PV.here w R (repV_int.mpr rfl)⟩
      | loc d i =>
        obtain ⟨o, g, w⟩ := wp_rd (wp_bnd.mp w)
        obtain ⟨p, rfl, _, ob⟩ := R.at r g
        cases o with
        | lst vs => obtain ⟨xs, h1, r⟩ := row_of ob; exact call_len_seq pins s σ H _ us Q I rr ⟨p, xs, rfl, .inl h1, by rw [r.length]; exact PV.here w R (repV_int.mpr rfl)⟩
        | ro vs => obtain ⟨xs, h1, r⟩ := row_ro ob; exact call_len_seq pins s σ H _ us Q I rr ⟨p, xs, rfl, .inl h1, by rw [r.length]; exact PV.here w R (repV_int.mpr rfl)⟩
        | dK kvs =>
          obtain ⟨ws, h1, r⟩ := ob
          rw [Vals.ref1 rr]
          exact d_len I (.inl h1) fun t s' I' => ⟨.int _, H, I', ⟨t, rfl⟩, by rw [KRep.length r]; exact PV.here w R (repV_int.mpr rfl)⟩
        | dT kvs => exact ob.elim
        | set vs => exact ob.elim
      | _ => exact w.elim
theorem or_abs : CallR X (.builtin "abs") (denB X.K .abs) := by
  intro pins s σ H xs us Q I rr h
  obtain ⟨ρ, hs, vs, R, rs, E, w⟩ := h
  cases vs with
  | nil => exact w.elim
  | cons a t =>
    cases t with
    | cons b t => cases a <;> exact w.elim
    | nil =>
      obtain ⟨x, rfl, r⟩ := repVs_one rs
      cases a <;> first | exact False.elim w | skip
      rw [repV_int] at r
      subst r
      exact call_abs pins s σ H _ us Q I rr ⟨_, rfl, PV.here w R (repV_int.mpr rfl)⟩
theorem or_int : CallR X (.type "int") (denB X.K .int) := by
  intro pins s σ H xs us Q I rr h
  obtain ⟨ρ, hs, vs, R, rs, E, w⟩ := h
  cases vs with
  | nil => exact w.elim
  | cons a t =>
    cases t with
    | cons b t => cases a <;> exact w.elim
    | nil =>
      obtain ⟨x, rfl, r⟩ := repVs_one rs
      cases a <;> first | exact False.elim w | skip
      · rw [repV_bl] at r
        subst r
        exact call_int1 pins s σ H _ us Q I rr (.inr ⟨_, rfl, PV.here w R (repV_int.mpr rfl)⟩)
      · rw [repV_int] at r
        subst r
        exact call_int1 pins s σ H _ us Q I rr (.inl ⟨_, rfl, PV.here w R (repV_int.mpr rfl)⟩)
theorem or_bool : CallR X (.type "bool") (denB X.K .bool) := by
  intro pins s σ H xs us Q I rr h
  obtain ⟨ρ, hs, vs, R, rs, E, w⟩ := h
  cases vs with
  | nil => exact w.elim
  | cons a t =>
    cases t with
    | cons b t => cases a <;> exact w.elim
    | nil =>
      obtain ⟨x, rfl, r⟩ := repVs_one rs
      cases a <;> first | exact False.elim w | skip
      · rw [repV_bl] at r
        subst r
        exact call_bool1 pins s σ H _ us Q I rr (.inr ⟨_, rfl, PV.here w R (repV_bl.mpr rfl)⟩)
      · rw [repV_int] at r
        subst r
        exact call_bool1 pins s σ H _ us Q I rr (.inl ⟨_, rfl, PV.here w R (repV_bl.mpr rfl)⟩)
theorem or_list : CallR X (.type "list") (denB X.K .list) := by
  intro pins s σ H xs us Q I rr h
  obtain ⟨ρ, hs, vs, R, rs, E, w⟩ := h
  cases vs with
  | nil => exact w.elim
  | cons a t =>
    cases t with
    | cons b t => exact w.elim
    | nil =>
      obtain ⟨x, rfl, r⟩ := repVs_one rs
      obtain ⟨p, vs, xs, rfl, hp, r, w⟩ := wp_items R r (wp_bnd.mp w)
      exact call_list_of pins s σ H _ us Q I rr ⟨p, xs, rfl, by rcases hp with hp | ⟨_, hp⟩; exact .inl hp; exact .inr hp.sq, fun l hl => alloc_lst w R r hl⟩
theorem or_tuple : CallR X (.type "tuple") (denB X.K .tuple) := by
  intro pins s σ H xs us Q I rr h
  obtain ⟨ρ, hs, vs, R, rs, E, w⟩ := h
  cases vs with
  | nil => exact w.elim
  | cons a t =>
    cases t with
    | cons b t => cases a <;> exact w.elim
    | nil =>
      obtain ⟨x, rfl, r0⟩ := repVs_one rs
      by_cases ht : ∃ ys, a = .tup ys
      · obtain ⟨ys, rfl⟩ := ht
        obtain ⟨p, xs, rfl, t, r⟩ := repV_tup.mp r0
        rw [Vals.ref1 rr]
        obtain ⟨its, r', pl, hz⟩ := I.tuple (t.sq (K := X.K))
        exact call_tuple_same pl ⟨.ref p, H, I, rfl, PV.here w R r0⟩
      · have w : wp (bnd (itemsOf a) (fun xs => ret (.tup xs)) hs) (PV X.K ρ hs H Q) E := by
          cases a <;> first | exact w | exact absurd ⟨_, rfl⟩ ht
        obtain ⟨p, vs, xs, rfl, hp, r, w⟩ := wp_items R r0 (wp_bnd.mp w)
        rcases hp with hp | ⟨e, _⟩
        · rw [Vals.ref1 rr]
          obtain ⟨its, rv, pl, hz⟩ := I.list hp
          refine call_tuple_list pl.isList (fun h' hk => ?_) (by rw [List.size_toArray, ← rv.length]; exact hz)
          exact end_tup (s := { s with heap := h' }) (I.kept (t' := s.toks) hk) rv hz fun q ob hq hd => PV.tup w R r hq hd
        · exact absurd ⟨_, e⟩ ht
end
end Z
-- ZS7
namespace ZSort
open PySem PySem.Calls PyProof.Rows PySem.W
section
variable {prog : Program} {w : World} {A : Around} {E : Value → Shared → Prop} {s : Shared}
/-- a tuple's items as a row -/
theorem rowOfTuple {t : Addr} {us : List Value} {R : List Value → Shared → Prop} (ht : IsTup s.heap t us.toArray) (fit : us.length ≤ sizeLine)
    (go : R us { s with heap := (s.heap.push (seqObj "list" #[] 0)).update s.heap.objs.size (Obj.mapSeq (· ++ us.toArray)) }) : wpAny (model prog w) A (collect (.ref t)) R E s := by
  obtain ⟨ob, g1, g2, m, g3⟩ := id ht
  unfold collect
  refine wpAny_bind (wpAny_runValue (codeAny_builtin entry_proto_collect' ?_))
  show wpAny _ _ (do again (.builtin "list.__iadd__" ⟨[← newList [], .ref t], []⟩)) _ _ s
  refine wpAny_bind (wpAny_newList (wpAny_pure ⟨Code.quiet_builtin _ (by decide +kernel), codeAny_builtin entry_list_iadd' ?_⟩))
  show wpAny _ _ (Builtin.List.listExtendWith (.ref s.heap.objs.size) (.ref t) (.ref s.heap.objs.size)) _ _ { s with heap := s.heap.push (seqObj "list" #[] 0) }
  unfold Builtin.List.listExtendWith
  have g4 : (s.heap.push (seqObj "list" #[] 0)).get? t = some ob := Heap.get?_push_of_some _ g1
  refine wpAny_bind (wpAny_typeOf (T := "tuple") ⟨ob, g4, g2⟩ ?_)
  have same : (Value.type "tuple" == Value.type "tuple") = true := by rfl
  rw [if_pos (by rw [same]; simp)]
  refine wpAny_bind (listItems_at g4 g3 ?_)
  refine wpAny_bind (listItems_at (xs := #[]) (n := 0) (Heap.get?_push_size _ rfl) rfl ?_)
  rw [if_neg (by simp)]
  refine wpAny_bind (listUpdate_at (xs := #[]) (n := 0) (Heap.get?_push_size _ rfl) rfl ?_ (Nat.zero_le _) (by show (#[] ++ us.toArray).size ≤ sizeLine + 1; simp only [Array.size_append, List.size_toArray, List.length_nil]; omega))
  refine wpAny_pure ?_
  show wpAny (model prog w) A (do
      let o ← load s.heap.objs.size
      match o.data with
      | .seq xs _ => pure xs.toList
      | _ => unsupported "internal:collect") R E { s with heap := (s.heap.push (seqObj "list" #[] 0)).update s.heap.objs.size (Obj.mapSeq (· ++ us.toArray)) }
  refine wpAny_bind (wpAny_load (get?_update_seq (Heap.get?_push_size _ rfl) _) ?_)
  show wpAny _ _ (pure ((#[] : Array Value) ++ us.toArray).toList) R E _
  rw [show ((#[] : Array Value) ++ us.toArray).toList = us by simp]
  exact wpAny_pure go
theorem sorted_tuple {κ : _} {t : Addr} {us : List Value} {R : Value → Shared → Prop} (ht : IsTup s.heap t us.toArray) (S : SortsAt prog w A.in1.in1 { s with heap := sortingHeap (copyHeap s.heap us) (s.heap.objs.size + 1) us } κ us) (fit : us.length ≤ sizeLine)
    (go : R (.ref (s.heap.objs.size + 1)) { s with heap := sortedAll s.heap us (sortVals κ false us us).toArray }) : wpAny (model prog w) A (call (.builtin "sorted") [.ref t]) R E s := by
  refine call_function_entry_kw kind_sorted plain_sorted entry_sorted (args_sorted1 _) ?_
  unfold Builtin.«sorted»
  refine wpAny_bind (m := checkCount "sorted" 1 1 _) (wpAny_pure ?_)
  refine wpAny_bind (rowOfTuple ht fit ?_)
  refine wpAny_bind (wpAny_newList ?_ fit)
  have sz : ((s.heap.push (seqObj "list" #[] 0)).update s.heap.objs.size (Obj.mapSeq (· ++ us.toArray))).objs.size = s.heap.objs.size + 1 := by
    rw [Heap.size_update, size_push']
  show wpAny _ _ _ _ _ { s with heap := copyHeap s.heap us }
  rw [sz]
  refine wpAny_bind (wpAny_holding (wpAny_call_entry_kw slot_list_sort ⟨_, copyHeap_at s.heap us, rfl⟩ entry_list_sort ?body (args_list_sort _)))
  case body =>
    show wpAny (model prog w) A.in1.in1 (Builtin.«list.sort» ⟨[.ref (s.heap.objs.size + 1)], []⟩) _ _ _
    exact list_sort_vals (s := { s with heap := copyHeap s.heap us }) (copyHeap_at s.heap us) S fit ⟨_, rfl, wpAny_pure ⟨_, rfl, go⟩⟩
end
end ZSort
namespace Z
open PySem PySem.Spec PyProof.Rows L2
section
variable {X : Cx} {ρ : Rho} {hs : Hs} {H : Hp}
/-! # sorted -/
theorem each_of_rep {K : PySem.W.Frag} : ∀ {vs : List Val} {xs : List V} {us : List Value}, RepVs ρ H vs xs → Vals xs us → PySem.W.EachIs (fun u a => ∃ x, RelV x u ∧ RepV ρ H a x) us vs
  | [], _, _, r, q => by rw [repVs_nil.mp r] at q; cases q; exact .nil
  | v :: vs, _, _, r, q => by
    obtain ⟨x, t, rfl, r1, r2⟩ := repVs_cons.mp r
    cases q with
    | cons q1 q2 => exact .cons ⟨x, q1, r1⟩ (each_of_rep (K := K) r2 q2)
theorem rep_of_each {vs : List Val} {us : List Value} (h : PySem.W.EachIs (fun u a => ∃ x, RelV x u ∧ RepV ρ H a x) us vs) : ∃ xs, Vals xs us ∧ RepVs ρ H vs xs := by
  induction h with
  | nil => exact ⟨[], .nil, .nil'⟩
  | cons h t ih =>
    obtain ⟨x, h1, h2⟩ := h
    obtain ⟨xs, q1, q2⟩ := ih
    exact ⟨x :: xs, .cons h1 q1, .cons' h2 q2⟩
theorem datP_some {v : Val} (h : (datV (fun _ _ => none) v).isSome = true) : datV (fun _ _ => none) v = some (datP v) := by
  unfold datP
  obtain ⟨d, e⟩ := Option.isSome_iff_exists.mp h
  rw [e]; rfl
theorem reads_of_rep {pins : List (Addr × PySem.Obj)} {σ : L2.St} {s : Shared} (I : Inv X pins σ H s) : ∀ {vs : List Val} {xs : List V} {us : List Value}, RepVs ρ H vs xs → Vals xs us → (∀ v ∈ vs, (datV (fun _ _ => none) v).isSome = true) → PySem.W.EachIs (fun u a => ∃ as, Reads s.heap u (datP a) as) us vs
  | [], _, _, r, q, _ => by rw [repVs_nil.mp r] at q; cases q; exact .nil
  | v :: vs, _, _, r, q, h => by
    obtain ⟨x, t, rfl, r1, r2⟩ := repVs_cons.mp r
    cases q with
    | cons q1 q2 =>
      exact .cons (Dp.reads I (datP v) x _ (dp_of (g := fun _ _ => none) (fun _ _ _ _ e => by cases e) v x _ r1 (datP_some (h v List.mem_cons_self))) q1) (reads_of_rep I r2 q2 fun u hu => h u (List.mem_cons_of_mem _ hu))
theorem sortable_of {vs : List Val} (h : (vs.all Val.full || vs.all Val.single) = true) (hd : ∀ v ∈ vs, (datV (fun _ _ => none) v).isSome = true) : PySem.W.Sortable (vs.map datP) := by
  rcases Bool.or_eq_true_iff.mp h with h | h
  · refine .inl fun d hdm => ?_
    obtain ⟨v, hv, rfl⟩ := List.mem_map.mp hdm
    have h1 := hd v hv
    have hv := List.all_eq_true.mp h v hv
    cases v with
    | tup ys =>
      cases ys with
      | nil => simp [Val.full] at hv
      | cons y ys =>
        unfold datP
        simp only [datV, datVs] at h1 ⊢
        cases e1 : datV (fun _ _ => none) y with
        | none => rw [e1] at h1; simp at h1
        | some d1 =>
          cases e2 : datVs (fun _ _ => none) ys with
          | none => rw [e1, e2] at h1; simp at h1
          | some d2 => exact ⟨d1, d2, by simp⟩
    | _ => simp [Val.full] at hv
  · refine .inr fun d hd => ?_
    obtain ⟨v, hv, rfl⟩ := List.mem_map.mp hd
    have hv := List.all_eq_true.mp h v hv
    cases v <;> first | (simp [Val.single] at hv; done) | skip
    · exact ⟨fun e => by simp [datP, datV] at e, fun xs e => by simp [datP, datV] at e⟩
    · exact ⟨fun e => by simp [datP, datV] at e, fun xs e => by simp [datP, datV] at e⟩
    · exact ⟨fun e => by simp [datP, datV] at e, fun xs e => by simp [datP, datV] at e⟩
theorem or_sorted (hu : X.A.units + 200 < cLine) : CallR X (.builtin "sorted") (denB X.K .sorted) := by
  intro pins s σ H xs us Q I rr h
  obtain ⟨ρ, hs, vs, R, rs, E, w⟩ := h
  cases vs with
  | nil => exact w.elim
  | cons a t =>
    cases t with
    | cons b t => exact w.elim
    | nil =>
      obtain ⟨x, rfl, r0⟩ := repVs_one rs
      obtain ⟨p, vs, xs, rfl, hp, r, w⟩ := wp_items R r0 (wp_bnd.mp w)
      obtain ⟨h1, w⟩ := wp_guard (wp_bnd.mp w)
      unfold sortOk at h1
      rw [Bool.and_eq_true, Bool.and_eq_true] at h1
      obtain ⟨⟨h1, h2⟩, h3⟩ := h1
      have h2 : ∀ v ∈ vs, (datV (fun _ _ => none) v).isSome = true ∧ SeqAt.shaped (datP v) = true := fun v hv => by
        have := List.all_eq_true.mp h2 v hv
        rwa [Bool.and_eq_true] at this
      have hal : PySem.W.AllAlike (vs.map datP) := fun d hd e he => by
        obtain ⟨v, hv, rfl⟩ := List.mem_map.mp hd
        obtain ⟨u, hu, rfl⟩ := List.mem_map.mp he
        exact List.all_eq_true.mp (List.all_eq_true.mp h3 v hv) u hu
      have hk := sortable_of h1 fun v hv => (h2 v hv).1
      have hroom : ∀ b, b ∈ vs → X.A.units + 2 + (datP b).depth < cLine := fun b hb => by
        have := SeqAt.depth_of_shaped (h2 b hb).2
        omega
      have fin : ∀ {its : List Value}, xs.length ≤ sizeLine → its.length = xs.length → ∀ out, out.length = vs.length → PySem.W.EachIs (fun u a => ∃ x, RelV x u ∧ RepV ρ H a x) out (sortV vs) →
          EP X pins σ Q (.ref (s.heap.objs.size + 1)) { s with heap := sortedAll s.heap its (List.toArray out) } := fun {its} hz hi out ho eo => by
        obtain ⟨ys, q1, q2⟩ := rep_of_each eo
        have hl : ys.length ≤ sizeLine := by rw [q1.length, ho, ← r.length]; exact hz
        have kp : ∀ b o, s.heap.get? b = some o → (sortedAll s.heap its (List.toArray out)).get? b = some o := fun b o e => by
          exact sortedAll_old e
        obtain ⟨ep, he⟩ := PyProof.Rows.sortedAll_at s.heap its out.toArray
        exact ⟨.ref (s.heap.objs.size + 1), _, I.laid (t' := s.toks) (o := .lst ys) kp (Nat.le_succ _) ⟨hl, out, ep, q1, he⟩, rfl, alloc_lst w R q2 (I.hok.fresh (Nat.le_succ _))⟩
      rw [Vals.ref1 rr]
      rcases hp with hp | ⟨_, hp⟩
      · obtain ⟨its, rv, pl, hz⟩ := I.list hp
        exact PySem.W.sorted_data pl.isList (each_of_rep (K := X.K) r rv) (reads_of_rep I r rv fun v hv => (h2 v hv).1) hal hk (by rw [← r.length]; exact hz) hroom fun out ho eo => fin hz rv.length.symm out ho eo
      · obtain ⟨its, rv, pl, hz⟩ := I.tuple (hp.sq (K := X.K))
        have e := each_of_rep (K := X.K) r rv
        have er := reads_of_rep I r rv fun v hv => (h2 v hv).1
        have er' : PySem.W.EachIs (fun v b => ∃ as, Reads (PySem.W.sortingHeap (PySem.W.copyHeap s.heap its) (s.heap.objs.size + 1) its) v (datP b) as) its vs := er.mono fun _ _ ⟨as, r⟩ => ⟨as, PyProof.Rows.Reads.keeps (fun _ _ => PySem.W.sorting_copy_old) r⟩
        exact ZSort.sorted_tuple pl (PySem.W.SortsAt.data (s := { s with heap := PySem.W.sortingHeap (PySem.W.copyHeap s.heap its) (s.heap.objs.size + 1) its }) (PySem.W.each_map (R := fun v d => ∃ as, Reads (PySem.W.sortingHeap (PySem.W.copyHeap s.heap its) (s.heap.objs.size + 1) its) v d as) datP er') hal hk (PySem.W.bound_map hroom)) (by rw [← rv.length]; exact hz)
          (fin hz rv.length.symm _ (by rw [PySem.W.sortVals_length false rfl]; exact e.length) (PySem.W.sortVals_data false e er' hal))
end
end Z
-- ZS8
namespace Z
open PySem PySem.Spec PyProof.Rows L2
section
variable {X : Cx} {ρ : Rho} {hs : Hs} {H : Hp}
/-- a list's items where the value is a location -/
theorem wp_itemsL {d i : Nat} {x : V} {P : List Val → Hs → Prop} {E : Nat → List Val → Hs → Prop} (R : RelH X.K ρ hs H) (r : RepV ρ H (.loc d i) x) (w : wp (itemsOf (.loc d i) hs) P E) : ∃ p vs xs, x = .ref p ∧ SqL X.K H p xs ∧ RepVs ρ H vs xs ∧ P vs hs := by
  obtain ⟨p, vs, xs, e, h, r, w⟩ := wp_items R r w
  rcases h with h | ⟨h, _⟩
  · exact ⟨p, vs, xs, e, h, r, w⟩
  · cases h
theorem or_max (hc : X.calm = true) : CallR X (.builtin "max") (denB X.K .max) := by
  intro pins s σ H xs us Q I rr h
  obtain ⟨ρ, hs, vs, R, rs, E, w⟩ := h
  cases vs with
  | nil => exact w.elim
  | cons a t =>
    cases t with
    | nil =>
      obtain ⟨x, rfl, r⟩ := repVs_one rs
      cases a <;> first | exact False.elim w | skip
      obtain ⟨p, vs, xs, rfl, hp, r, w⟩ := wp_itemsL R r (wp_bnd.mp w)
      cases e : intsOf vs with
      | none => rw [e] at w; exact w.elim
      | some ns =>
        cases ns with
        | nil => rw [e] at w; exact w.elim
        | cons n ns =>
          rw [e] at w
          rw [intsOf_is e] at r
          rw [r.ints] at hp
          refine cr_max hc pins s σ H _ us Q I rr ⟨p, n :: ns, rfl, hp, by simp, fun m hm hge => ?_⟩
          have h1 := maxI_mem ns n
          have h2 := maxI_ge ns n
          have e2 : m = maxI n ns := by
            have a1 := hge _ h1
            have a2 : m ≤ maxI n ns := by
              rcases List.mem_cons.mp hm with q | q
              · rw [q]; exact h2.1
              · exact h2.2 m q
            omega
          rw [e2]
          exact PV.here w R (repV_int.mpr rfl)
    | cons b t =>
      cases t with
      | cons c t => cases a <;> cases b <;> exact w.elim
      | nil =>
        obtain ⟨x, y, rfl, r1, r2⟩ := repVs_two rs
        cases a <;> cases b <;> first | exact False.elim w | skip
        rw [repV_int] at r1 r2
        subst r1 r2
        exact call_max2 hc pins s σ H _ us Q I rr ⟨_, _, rfl, PV.here w R (repV_int.mpr rfl)⟩
theorem or_min (hc : X.calm = true) : CallR X (.builtin "min") (denB X.K .min) := by
  intro pins s σ H xs us Q I rr h
  obtain ⟨ρ, hs, vs, R, rs, E, w⟩ := h
  cases vs with
  | nil => exact w.elim
  | cons a t =>
    cases t with
    | nil =>
      obtain ⟨x, rfl, r⟩ := repVs_one rs
      cases a <;> first | exact False.elim w | skip
      obtain ⟨p, vs, xs, rfl, hp, r, w⟩ := wp_itemsL R r (wp_bnd.mp w)
      cases e : intsOf vs with
      | none => rw [e] at w; exact w.elim
      | some ns =>
        cases ns with
        | nil => rw [e] at w; exact w.elim
        | cons n ns =>
          rw [e] at w
          rw [intsOf_is e] at r
          rw [r.ints] at hp
          refine cr_min hc pins s σ H _ us Q I rr ⟨p, n :: ns, rfl, hp, by simp, fun m hm hge => ?_⟩
          have h1 := minI_mem ns n
          have h2 := minI_le ns n
          have e2 : m = minI n ns := by
            have a1 := hge _ h1
            have a2 : minI n ns ≤ m := by
              rcases List.mem_cons.mp hm with q | q
              · rw [q]; exact h2.1
              · exact h2.2 m q
            omega
          rw [e2]
          exact PV.here w R (repV_int.mpr rfl)
    | cons b t =>
      cases t with
      | cons c t => cases a <;> cases b <;> exact w.elim
      | nil =>
        obtain ⟨x, y, rfl, r1, r2⟩ := repVs_two rs
        cases a <;> cases b <;> first | exact False.elim w | skip
        rw [repV_int] at r1 r2
        subst r1 r2
        exact call_min2 hc pins s σ H _ us Q I rr ⟨_, _, rfl, PV.here w R (repV_int.mpr rfl)⟩
theorem or_sum (hc : X.calm = true) : CallR X (.builtin "sum") (denB X.K .sum) := by
  intro pins s σ H xs us Q I rr h
  obtain ⟨ρ, hs, vs, R, rs, E, w⟩ := h
  cases vs with
  | nil => exact w.elim
  | cons a t =>
    cases t with
    | cons b t => cases a <;> exact w.elim
    | nil =>
      obtain ⟨x, rfl, r⟩ := repVs_one rs
      cases a <;> first | exact False.elim w | skip
      obtain ⟨p, vs, xs, rfl, hp, r, w⟩ := wp_itemsL R r (wp_bnd.mp w)
      cases e : intsOf vs with
      | none => rw [e] at w; exact w.elim
      | some ns =>
        rw [e] at w
        rw [intsOf_is e] at r
        rw [r.ints] at hp
        exact cr_sum hc pins s σ H _ us Q I rr ⟨p, ns, rfl, hp, PV.here w R (repV_int.mpr rfl)⟩
theorem or_all (hc : X.calm = true) : CallR X (.builtin "all") (denB X.K .all) := by
  intro pins s σ H xs us Q I rr h
  obtain ⟨ρ, hs, vs, R, rs, E, w⟩ := h
  cases vs with
  | nil => exact w.elim
  | cons a t =>
    cases t with
    | cons b t => cases a <;> exact w.elim
    | nil =>
      obtain ⟨x, rfl, r⟩ := repVs_one rs
      cases a <;> first | exact False.elim w | skip
      obtain ⟨p, vs, xs, rfl, hp, r, w⟩ := wp_itemsL R r (wp_bnd.mp w)
      cases e : boolsOf vs with
      | none => rw [e] at w; exact w.elim
      | some ns =>
        rw [e] at w
        rw [boolsOf_is e] at r
        rw [r.bls] at hp
        exact cr_all hc pins s σ H _ us Q I rr ⟨p, ns, rfl, hp, PV.here w R (repV_bl.mpr rfl)⟩
theorem or_any (hc : X.calm = true) : CallR X (.builtin "any") (denB X.K .any) := by
  intro pins s σ H xs us Q I rr h
  obtain ⟨ρ, hs, vs, R, rs, E, w⟩ := h
  cases vs with
  | nil => exact w.elim
  | cons a t =>
    cases t with
    | cons b t => cases a <;> exact w.elim
    | nil =>
      obtain ⟨x, rfl, r⟩ := repVs_one rs
      cases a <;> first | exact False.elim w | skip
      obtain ⟨p, vs, xs, rfl, hp, r, w⟩ := wp_itemsL R r (wp_bnd.mp w)
      cases e : boolsOf vs with
      | none => rw [e] at w; exact w.elim
      | some ns =>
        rw [e] at w
        rw [boolsOf_is e] at r
        rw [r.bls] at hp
        exact cr_any hc pins s σ H _ us Q I rr ⟨p, ns, rfl, hp, PV.here w R (repV_bl.mpr rfl)⟩
/-! # isinstance -/
def tyS : Ty → String
  | .int => "int" | .bool => "bool" | .str => "str" | .tuple => "tuple" | .list => "list" | .dict => "dict"
/-- the kind of a value -/
def tyQ (t : Ty) (v : String) : Bool := v == tyS t || (t == .int && v == "bool")
theorem kit_all : ∀ t : Ty, ∀ v ∈ (["NoneType", "bool", "int", "str", "tuple", "list", "dict"] : List String), L2.kitB v (tyS t) = some (tyQ t v) := by
  intro t
  cases t <;> decide +kernel
/-- a value's own type, by what it is -/
theorem tyx_of {K : PySem.W.Frag} {v : Val} {x : V} (R : RelH K ρ hs H) (r : RepV ρ H v x) {t : Ty} {P : Bool → Hs → Prop} {E : Nat → List Val → Hs → Prop} (w : wp (isTy t v hs) P E) :
    ∃ n ∈ (["NoneType", "bool", "int", "str", "tuple", "list", "dict"] : List String), TyX K H x (.type n) ∧ ∀ t' P' E', wp (isTy t' v hs) P' E' → P' (tyQ t' n) hs := by
  cases v with
  | non => rw [repV_non.mp r]; exact ⟨"NoneType", by simp, .base .non, fun t' P' E' w => by cases t' <;> exact w⟩
  | bl b => rw [repV_bl.mp r]; exact ⟨"bool", by simp, .base (.bl b), fun t' P' E' w => by cases t' <;> exact w⟩
  | int b => rw [repV_int.mp r]; exact ⟨"int", by simp, .base (.int b), fun t' P' E' w => by cases t' <;> exact w⟩
  | str b => rw [repV_str.mp r]; exact ⟨"str", by simp, .base (.str b), fun t' P' E' w => by cases t' <;> exact w⟩
  | tup vs =>
    obtain ⟨a, xs, rfl, ⟨o, h, _⟩, _⟩ := repV_tup.mp r
    exact ⟨"tuple", by simp, .fTuple h, fun t' P' E' w => by cases t' <;> exact w⟩
  | loc d i =>
    have rdo : ∃ o, get hs d i = some o := by
      cases t <;> (obtain ⟨o, g, _⟩ := wp_rd (wp_bnd.mp w); exact ⟨o, g⟩)
    obtain ⟨o, g⟩ := rdo
    obtain ⟨p, rfl, _, ob⟩ := R.at r g
    have same : ∀ {t' : Ty} {P' : Bool → Hs → Prop} {E' : Nat → List Val → Hs → Prop}, wp (isTy t' (.loc d i) hs) P' E' → ∀ {n : String}, (match o with | .lst _ => n = "list" | .ro _ => n = "list" | .dK _ => n = "dict" | _ => False) → P' (tyQ t' n) hs := by
      intro t' P' E' w n hn
      cases t' <;> (obtain ⟨o', g', w⟩ := wp_rd (wp_bnd.mp w); rw [g] at g'; cases g'; cases o <;> first | exact hn.elim | (subst hn; exact w))
    cases o with
    | lst vs => obtain ⟨xs, h, _⟩ := ob; exact ⟨"list", by simp, .base (.lst h), fun t' P' E' w => same w rfl⟩
    | ro vs =>
      obtain ⟨xs, h, _⟩ := ob
      rcases h with ⟨o, h⟩ | ⟨o, its, n, h1, h2, _⟩
      · exact ⟨"list", by simp, .base (.frz h), fun t' P' E' w => same w rfl⟩
      · exact ⟨"list", by simp, .kList h1 h2, fun t' P' E' w => same w rfl⟩
    | dK kvs => obtain ⟨ws, h, _⟩ := ob; exact ⟨"dict", by simp, .base (.dK h), fun t' P' E' w => same w rfl⟩
    | dT kvs => exact ob.elim
    | set vs => exact ob.elim
theorem any_ty {K : PySem.W.Frag} {v : Val} {n : String} (hn : n ∈ (["NoneType", "bool", "int", "str", "tuple", "list", "dict"] : List String)) (h : ∀ t' P' E', wp (isTy t' v hs) P' E' → P' (tyQ t' n) hs) :
    ∀ {ts : List Ty} {P : Bool → Hs → Prop} {E : Nat → List Val → Hs → Prop}, wp (anyTy ts v hs) P E → ∃ b, PySem.W.kitAny K (.type n) (ts.map fun t => .type (tyS t)) = some b ∧ P b hs
  | [], P, E, w => ⟨false, kitAny_nil, w⟩
  | t :: ts, P, E, w => by
    have w1 := h t _ _ (wp_bnd.mp w)
    have k := kit_ty (K := K) (kit_all t n hn)
    cases q : tyQ t n with
    | true =>
      rw [q] at w1 k
      exact ⟨true, kitAny_cons k (fun e => by cases e) (fun _ => rfl), w1⟩
    | false =>
      rw [q] at w1 k
      obtain ⟨b, e, w2⟩ := any_ty hn h (show wp (anyTy ts v hs) P E from w1)
      exact ⟨b, kitAny_cons k (fun _ => e) (fun z => by cases z), w2⟩
end
end Z
-- ZS9
namespace Z
open PySem PySem.Spec PyProof.Rows L2
section
variable {X : Cx} {ρ : Rho} {hs : Hs} {H : Hp}
/-! # Methods -/
def kdS : Kd → String
  | .lst => "list" | .tup => "tuple" | .dic => "dict"
def meS : Me → String
  | .append => "append" | .pop => "pop" | .extend => "extend" | .index => "index" | .dget => "get" | .remove => "remove" | .count => "count"
structure SlotOk (T : String) (name : Str) (id : String) : Prop where
  pa : PlainAttrs T
  slot : Slot T name id
  ty : typeOf (.builtin id) = pure (.type "method_descriptor")
def denM (K : PySem.W.Frag) (m : Me) (k : Kd) : V → List V → Hp → VK → Prop := fun x xs H Q => ∃ ρ hs a vs, RelH K ρ hs H ∧ RepV ρ H a x ∧ RepVs ρ H vs xs ∧ ∃ E, wp (meth m k a vs hs) (PV K ρ hs H Q) E
theorem wp_first {a : Val} {vs : List Val} {P : Nat → Hs → Prop} {E : Nat → List Val → Hs → Prop} (w : wp (firstAt a vs hs) P E) :
    (a.flat = true ∧ vs.all Val.flat = true ∧ ∃ n, vs.findIdx? (fun y => eqFlat y a) = some n ∧ P n hs) ∨ ∃ d es, dat hs a = some d ∧ dats hs vs = some es ∧ SeqAt.shaped d = true ∧ es.all SeqAt.shaped = true ∧ ∃ n, es.findIdx? (fun e => PyData.eqv e d) = some n ∧ P n hs := by
  unfold firstAt at w
  by_cases c : (a.flat && vs.all Val.flat) = true
  · rw [if_pos c] at w
    rw [Bool.and_eq_true] at c
    cases e : vs.findIdx? (fun y => eqFlat y a) with
    | none => rw [e] at w; exact w.elim
    | some n => rw [e] at w; exact .inl ⟨c.1, c.2, n, rfl, w⟩
  · rw [if_neg c] at w
    cases h1 : dat hs a with
    | none => rw [h1] at w; exact w.elim
    | some d =>
      cases h2 : dats hs vs with
      | none => rw [h1, h2] at w; exact w.elim
      | some es =>
        rw [h1, h2] at w
        simp only at w
        by_cases k : (SeqAt.shaped d && es.all SeqAt.shaped) = true
        · rw [if_pos k] at w
          rw [Bool.and_eq_true] at k
          cases e : es.findIdx? (fun e => PyData.eqv e d) with
          | none => rw [e] at w; exact w.elim
          | some n => rw [e] at w; exact .inr ⟨d, es, rfl, rfl, k.1, k.2, n, e, w⟩
        · rw [if_neg k] at w; exact w.elim
/-- where the first equal one stands: told by answers u by u -/
theorem first_run {pins : List (Addr × PySem.Obj)} {σ : L2.St} {s : Shared} {x : V} {v : Value} {Q : VK} (I : Inv X pins σ H s) (hu : X.A.units + 200 < cLine) (rx : RelV x v) (R : RelH X.K ρ hs H) {a : Val} {vs : List Val} {ws : List V} (ra : RepV ρ H a x) (rs : RepVs ρ H vs ws) {its : List Value} (rv : Vals ws its)
    {E : Nat → List Val → Hs → Prop} (w : wp (firstAt a vs hs) (fun n h => wp (ret (.int n) h) (PV X.K ρ hs H Q) E) E) :
    ∃ (g : Value → Bool) (j : Nat) (hj : j < its.toArray.size), g its.toArray[j] = true ∧ (∀ m (hm : m < its.toArray.size), m < j → g its.toArray[m] = false) ∧ (∀ y, y ∈ its.toArray → SeqAt.EqAt X.A.in1 s y v (g y)) ∧ Q (.int (j : Nat)) H := by
  rcases wp_first w with ⟨h1, h2, n, hn, w⟩ | ⟨d, es, h1, h2, h3, h4, n, hn, w⟩
  · obtain ⟨e, f⟩ := repV_flat h1 ra
    obtain ⟨g, k⟩ := flats_rep rs h2
    have at_ : ∀ (m : Nat) (hm : m < its.length) (hv : m < vs.length), eqU x its[m] = eqFlat vs[m] a := fun m hm hv => by
      obtain ⟨w', e1, e2⟩ := rs.get (List.getElem?_eq_getElem hv)
      obtain ⟨u, e3, e4⟩ := rv.get e1
      rw [List.getElem?_eq_getElem hm] at e3
      cases e3
      have hf : (vs[m]).flat = true := List.all_eq_true.mp h2 _ (List.getElem_mem hv)
      obtain ⟨q1, q2⟩ := repV_flat hf e2
      rw [eqU_of e4 q2, q1, e, eqV_flat hf h1]
    have hl : its.length = vs.length := by rw [← rv.length, rs.length]
    obtain ⟨hn1, hn2, hn3⟩ := List.findIdx?_eq_some_iff_getElem.mp hn
    refine ⟨eqU x, n, by simpa using (by omega : n < its.length), ?_, fun m hm hmj => ?_, fun y hy => mem_eqAt rx f rv g y (by simpa using hy), PV.here w R (repV_int.mpr rfl)⟩
    · show eqU x its[n] = true
      rw [at_ n (by omega) hn1]; exact hn2
    · have hm' : m < its.length := by simpa using hm
      show eqU x its[m] = false
      rw [at_ m hm' (by omega)]
      have := hn3 m hmj
      simpa using this
  · obtain ⟨as, r1⟩ := Dp.reads I d x v (dat_dp R ra h1) rx
    obtain ⟨bs, r2⟩ := Dp.readsAll I es ws its (dats_dp R rs h2) rv
    have hmap : its.map (SeqAt.readOf s.heap) = es := SeqAt.readsAll_map es its bs (canAll h4) r2
    have hl : its.length = es.length := by rw [← hmap, List.length_map]
    have at_ : ∀ (m : Nat) (hm : m < its.length) (hv : m < es.length), SeqAt.readOf s.heap its[m] = es[m] := fun m hm hv => by
      have : (its.map (SeqAt.readOf s.heap))[m]? = some es[m] := by rw [hmap]; exact List.getElem?_eq_getElem hv
      rw [List.getElem?_map, List.getElem?_eq_getElem hm] at this
      exact Option.some.inj this
    obtain ⟨hn1, hn2, hn3⟩ := List.findIdx?_eq_some_iff_getElem.mp hn
    refine ⟨fun u => PyData.eqv (SeqAt.readOf s.heap u) d, n, by simpa using (by omega : n < its.length), ?_, fun m hm hmj => ?_, SeqAt.items_eqAt (vs := its.toArray) r2 r1 (canAll h4) (SeqAt.canLay_of_shaped h3) (room1 h3 hu), PV.here w R (repV_int.mpr rfl)⟩
    · show PyData.eqv (SeqAt.readOf s.heap its[n]) d = true
      rw [at_ n (by omega) hn1]; exact hn2
    · have hm' : m < its.length := by simpa using hm
      show PyData.eqv (SeqAt.readOf s.heap its[m]) d = false
      rw [at_ m hm' (by omega)]
      have := hn3 m hmj
      simpa using this
theorem index_list {pins : List (Addr × PySem.Obj)} {σ : L2.St} {s : Shared} {x : V} {v : Value} {Q : VK} (I : Inv X pins σ H s) (hu : X.A.units + 200 < cLine) (rx : RelV x v) (R : RelH X.K ρ hs H) {a : Val} {vs : List Val} {ws : List V} {p : Addr} (ra : RepV ρ H a x) (rs : RepVs ρ H vs ws) (hp : SqL X.K H p ws)
    {E : Nat → List Val → Hs → Prop} (w : wp (firstAt a vs hs) (fun n h => wp (ret (.int n) h) (PV X.K ρ hs H Q) E) E) : wpAny (model X.prog X.w) X.A (call (.builtin "list.index") [.ref p, v]) (EP X pins σ Q) X.xe s := by
  obtain ⟨its, rv, ⟨⟨c1, c2, c3, c4⟩, n, ho, hc, hdn, hdt⟩, hlen⟩ := I.list hp
  simp only at hc hdt
  subst hc hdt
  obtain ⟨g, j, hj, g1, g2, g3, q⟩ := first_run I hu rx R ra rs rv w
  have hsl := sizeLine_eq
  have hvl := rv.length
  have hsz : its.toArray.size = its.length := by simp
  exact call_meets PySem.F.slot_list_index ⟨_, ho, rfl⟩ PySem.F.entry_list_index (PySem.F.args_list_index_2 _ _) (SeqAt.list_indexAt p its.toArray n c2 c4 v g j hj (by omega) g1 g2) ⟨ho, g3, .int (j : Nat), H, I.tok _, ⟨_, rfl⟩, q⟩
theorem index_tup {pins : List (Addr × PySem.Obj)} {σ : L2.St} {s : Shared} {x : V} {v : Value} {Q : VK} (I : Inv X pins σ H s) (hu : X.A.units + 200 < cLine) (rx : RelV x v) (R : RelH X.K ρ hs H) {a : Val} {vs : List Val} {ws : List V} {p : Addr} (ra : RepV ρ H a x) (rs : RepVs ρ H vs ws) (hp : SqT X.K H p ws)
    {E : Nat → List Val → Hs → Prop} (w : wp (firstAt a vs hs) (fun n h => wp (ret (.int n) h) (PV X.K ρ hs H Q) E) E) : wpAny (model X.prog X.w) X.A (call (.builtin "tuple.index") [.ref p, v]) (EP X pins σ Q) X.xe s := by
  obtain ⟨its, rv, ⟨⟨c1, c2, c3, c4⟩, ho, hc, n, hdt⟩, hlen⟩ := I.tuple hp
  simp only at hc hdt
  subst hc hdt
  obtain ⟨g, j, hj, g1, g2, g3, q⟩ := first_run I hu rx R ra rs rv w
  exact call_meets PySem.F.slot_tuple_index ⟨_, ho, rfl⟩ PySem.F.entry_tuple_index (PySem.F.args_tuple_index_2 _ _) (TI.tuple_indexAt p its.toArray n c2 c4 v g j hj g1 g2) ⟨ho, g3, .int (j : Nat), H, I.tok _, ⟨_, rfl⟩, q⟩
theorem or_append : MtR X "list.append" (denM X.K .append .lst) := by
  intro pins s σ H x xs v us Q I rx rr h
  obtain ⟨ρ, hs, a, vs, R, ra, rs, E, w⟩ := h
  cases a <;> first | exact False.elim w | skip
  rename_i d i
  obtain ⟨o, g, w⟩ := wp_rd (wp_bnd.mp w)
  obtain ⟨p, rfl, hp, ob⟩ := R.at ra g
  cases o with
  | lst ys =>
    cases vs with
    | nil => exact w.elim
    | cons b t =>
      cases t with
      | cons c t => exact w.elim
      | nil =>
        obtain ⟨y, rfl, ry⟩ := repVs_one rs
        obtain ⟨h1, w⟩ := wp_guard (wp_bnd.mp w)
        obtain ⟨ok, _, w⟩ := wp_wr (wp_bnd.mp w)
        obtain ⟨xs, h2, r⟩ := ob
        have tx : TupX H (upd H p (.lst (xs ++ [y]))) := tupX_mut (by rw [h2]; trivial)
        refine mt_append pins s σ H _ _ v us Q I rx rr ⟨p, xs, y, rfl, rfl, h2, by rw [r.length, ← SL_eq]; exact of_decide_eq_true h1, ?_⟩
        obtain ⟨R1, S1⟩ := R.putS (o' := .lst (ys ++ [b])) g hp rfl ⟨_, upd_same, RepVs.mono (RX.refl _) tx _ _ (r.append (.cons' ry .nil'))⟩ ok rfl
        exact w ρ _ _ S1 R1 (repV_non.mpr rfl)
  | ro ys => exact w.elim
  | dK ys => exact w.elim
  | dT ys => exact w.elim
  | set ys => exact w.elim
theorem or_pop : MtR X "list.pop" (denM X.K .pop .lst) := by
  intro pins s σ H x xs v us Q I rx rr h
  obtain ⟨ρ, hs, a, vs, R, ra, rs, E, w⟩ := h
  cases a <;> first | exact False.elim w | skip
  rename_i d i
  obtain ⟨o, g, w⟩ := wp_rd (wp_bnd.mp w)
  obtain ⟨p, rfl, hp, ob⟩ := R.at ra g
  cases o with
  | lst ys =>
    obtain ⟨xs, h2, r⟩ := ob
    have mu : Mut (H p) := by rw [h2]; trivial
    cases vs with
    | nil =>
      rw [repVs_nil.mp rs] at rr
      cases e : ys.getLast? with
      | none => simp only [e] at w; exact w.elim
      | some y =>
        simp only [e] at w
        obtain ⟨ok, _, w⟩ := wp_wr (wp_bnd.mp w)
        rw [List.getLast?_eq_getElem?] at e
        obtain ⟨z, e2, rz⟩ := r.get e
        have tx : TupX H (upd H p (.lst xs.dropLast)) := tupX_mut mu
        refine mt_pop pins s σ H _ _ v us Q I rx rr ⟨p, xs, z, rfl, rfl, h2, by rw [r.length]; exact e2, ?_⟩
        obtain ⟨R1, S1⟩ := R.putS (o' := .lst ys.dropLast) g hp rfl ⟨_, upd_same, RepVs.mono (RX.refl _) tx _ _ r.dropLast⟩ ok rfl
        exact w ρ _ _ S1 R1 (RepV.mono (RX.refl _) tx _ _ rz)
    | cons b t =>
      cases t with
      | cons c t => cases b <;> exact w.elim
      | nil =>
        obtain ⟨y, rfl, ry⟩ := repVs_one rs
        cases b <;> first | exact False.elim w | skip
        rename_i k w_
        rw [repV_int] at ry
        subst ry
        cases e : place ys.length k with
        | none => simp only [e] at w; exact w.elim
        | some j =>
          simp only [e] at w
          cases e1 : ys[j]? with
          | none => simp only [e1] at w; exact w.elim
          | some y =>
            simp only [e1] at w
            obtain ⟨ok, _, w⟩ := wp_wr (wp_bnd.mp w)
            obtain ⟨z, e2, rz⟩ := r.get e1
            obtain ⟨q1, q2, q3, q4⟩ := ixN_seq (show ixN ys.length k = some j from e)
            have tx : TupX H (upd H p (.lst (xs.eraseIdx j))) := tupX_mut mu
            obtain ⟨hz, _⟩ := I.lstM h2
            have hl := r.length
            have hn := line63
            refine mt_popAt pins s σ H _ _ v us Q I rx rr ⟨p, xs, k, j, z, rfl, rfl, h2, by omega, by omega, by rw [hl]; exact q1, e2, ?_⟩
            obtain ⟨R1, S1⟩ := R.putS (o' := .lst (ys.eraseIdx j)) g hp rfl ⟨_, upd_same, RepVs.mono (RX.refl _) tx _ _ (r.eraseIdx j)⟩ ok rfl
            exact w ρ _ _ S1 R1 (RepV.mono (RX.refl _) tx _ _ rz)
  | ro ys => exact w.elim
  | dK ys => exact w.elim
  | dT ys => exact w.elim
  | set ys => exact w.elim
end
end Z
-- ZS10
namespace Z
open PySem PySem.Spec PyProof.Rows L2
section
variable {X : Cx} {ρ : Rho} {hs : Hs} {H : Hp}
theorem ext_long {a b : List Value} (h : a.length + b.length ≤ sizeLine) : ¬ (!a.toArray.isEmpty && Builtin.List.listTooLong (a.toArray.size + b.toArray.size)) = true := by
  rw [notLongL (by rw [List.size_toArray, List.size_toArray]; exact h), Bool.and_false]
  exact Bool.false_ne_true
theorem or_extend : MtR X "list.extend" (denM X.K .extend .lst) := by
  intro pins s σ H x xs v us Q I rx rr h
  obtain ⟨ρ, hs, a, vs, R, ra, rs, E, w⟩ := h
  cases a <;> first | exact False.elim w | skip
  rename_i d i
  obtain ⟨o, g, w⟩ := wp_rd (wp_bnd.mp w)
  obtain ⟨p, rfl, hp, ob⟩ := R.at ra g
  cases o with
  | lst ys =>
    cases vs with
    | nil => exact w.elim
    | cons b t =>
      cases t with
      | cons c t => exact w.elim
      | nil =>
        obtain ⟨y, rfl, ry⟩ := repVs_one rs
        obtain ⟨xs, h2, r⟩ := ob
        have mu : Mut (H p) := by rw [h2]; trivial
        cases rx
        obtain ⟨z, its, n, rv, hl, e⟩ := I.lstM h2
        -- what is hung on
        have w := wp_bnd.mp w
        have fin : ∀ {b' : Addr} {zs : List Val} {ws : List V} {its2 : List Value}, RepVs ρ H zs ws → Vals ws its2 → xs.length + ws.length ≤ sizeLine → wp (bnd (wr d i (.lst (ys ++ zs))) (fun _ => ret .non) hs) (PV X.K ρ hs H Q) E →
            EP X pins σ Q .none { s with heap := s.heap.update p (Obj.mapSeq (· ++ its2.toArray)) } := fun {b' zs ws its2} r2 rv2 hz w => by
          obtain ⟨ok, _, w⟩ := wp_wr (wp_bnd.mp w)
          have tx : TupX H (upd H p (.lst (xs ++ ws))) := tupX_mut mu
          obtain ⟨R1, S1⟩ := R.putS (o' := .lst (ys ++ zs)) g hp rfl ⟨_, upd_same, RepVs.mono (RX.refl _) tx _ _ (r.append r2)⟩ ok rfl
          exact ⟨.non, _, I.lset (t' := s.toks) (its' := its ++ its2) h2 e (by simp) (rv.append rv2) (by rw [List.length_append]; exact hz), rfl, w ρ _ _ S1 R1 (repV_non.mpr rfl)⟩
        cases b with
        | tup zs =>
          obtain ⟨q, ws, rfl, ⟨⟨c1, c2, c3, c4⟩, hq, hb1, hb2⟩, r2⟩ := repV_tup.mp ry
          simp only at hb1 hb2
          subst hb1 hb2
          obtain ⟨hg, _, its2, rv2, o2, ho2, hc2, n2, hd2⟩ := (show ObjOk X.prog X.w H s.heap q (.frz _ (.tup ws)) from I.hok q _ hq)
          rw [hg] at ho2
          cases ho2
          simp only at hc2 hd2
          subst hc2 hd2
          obtain ⟨h1, w⟩ := wp_guard (wp_bnd.mp w)
          have hz : xs.length + ws.length ≤ sizeLine := by
            have := of_decide_eq_true h1
            rw [r.length, r2.length, ← SL_eq]; exact this
          have hz2 : its.length + its2.length ≤ sizeLine := by rw [← rv.length, ← rv2.length]; exact hz
          rw [Vals.ref1 rr]
          refine call_meets PySem.F.slot_list_extend ⟨_, e, rfl⟩ PySem.F.entry_list_extend (PySem.F.args_list_extend_2 _ _)
            (AutoSeq1.list_extend_list_tuple_0 p its.toArray n q its2.toArray n2 (ext_long hz2) (by rw [List.size_toArray]; omega) (by rw [List.size_toArray, List.size_toArray]; omega)) ⟨e, hg, fin (b' := q) r2 rv2 hz w⟩
        | loc d2 i2 =>
          obtain ⟨o2, g2, w⟩ := wp_rd (wp_bnd.mp w)
          obtain ⟨q, rfl, _, ob2⟩ := R.at ry g2
          cases o2 with
          | lst zs =>
            obtain ⟨ws, h3, r2⟩ := ob2
            obtain ⟨_, its2, n2, rv2, _, e2⟩ := I.lstM h3
            obtain ⟨h1, w⟩ := wp_guard (wp_bnd.mp w)
            have hz : xs.length + ws.length ≤ sizeLine := by
              have := of_decide_eq_true h1
              rw [r.length, r2.length, ← SL_eq]; exact this
            have hz2 : its.length + its2.length ≤ sizeLine := by rw [← rv.length, ← rv2.length]; exact hz
            rw [Vals.ref1 rr]
            refine call_meets PySem.F.slot_list_extend ⟨_, e, rfl⟩ PySem.F.entry_list_extend (PySem.F.args_list_extend_2 _ _)
              (AutoSeq1.list_extend_list_list_0 p its.toArray n q its2.toArray n2 (ext_long hz2) (by rw [List.size_toArray]; omega) (by rw [List.size_toArray, List.size_toArray]; omega)) ⟨e, e2, fin (b' := q) r2 rv2 hz w⟩
          | ro zs => exact w.elim
          | dK _ => exact w.elim
          | dT _ => exact w.elim
          | set _ => exact w.elim
        | _ => exact w.elim
  | ro ys => exact w.elim
  | dK ys => exact w.elim
  | dT ys => exact w.elim
  | set ys => exact w.elim
theorem or_dget (hu : X.A.units + 1 < cLine) : MtR X "dict.get" (denM X.K .dget .dic) := by
  intro pins s σ H x xs v us Q I rx rr h
  obtain ⟨ρ, hs, a, vs, R, ra, rs, E, w⟩ := h
  cases a <;> first | exact False.elim w | skip
  rename_i d i
  obtain ⟨o, g, w⟩ := wp_rd (wp_bnd.mp w)
  obtain ⟨p, rfl, hp, ob⟩ := R.at ra g
  cases o with
  | dK kvs =>
    obtain ⟨ws, h3, r⟩ := ob
    cases rx
    cases vs with
    | nil => exact w.elim
    | cons b t =>
      cases t with
      | nil =>
        obtain ⟨h1, w⟩ := wp_guard (wp_bnd.mp w)
        obtain ⟨k, rfl⟩ := key_is h1
        obtain ⟨y, rfl, ry⟩ := repVs_one rs
        rw [repV_key] at ry
        subst ry
        obtain ⟨u, rfl, rru⟩ := rr.one
        obtain ⟨k1, k2⟩ := KRep.look k r
        refine d_get1 hu I (DGet.k h3) rru fun w' s' I' rw' => ⟨_, H, I', rw', ?_⟩
        cases e : look kvs (keyV k) with
        | none => rw [e] at w; rw [k2 e]; exact PV.here w R (repV_non.mpr rfl)
        | some q => obtain ⟨z, e2, rz⟩ := k1 q e; rw [e] at w; rw [e2]; exact PV.here w R rz
      | cons c t =>
        cases t with
        | cons _ _ => exact w.elim
        | nil =>
          obtain ⟨h1, w⟩ := wp_guard (wp_bnd.mp w)
          obtain ⟨k, rfl⟩ := key_is h1
          obtain ⟨y, z, rfl, ry, rz⟩ := repVs_two rs
          rw [repV_key] at ry
          subst ry
          obtain ⟨u, u2, rfl, rru, rru2⟩ := rr.two
          obtain ⟨k1, k2⟩ := KRep.look k r
          refine d_get2 hu I (DGet.k h3) rru rru2 fun w' s' I' rw' => ⟨_, H, I', rw', ?_⟩
          cases e : look kvs (keyV k) with
          | none => rw [e] at w; rw [k2 e]; exact PV.here w R rz
          | some q => obtain ⟨z', e2, rz'⟩ := k1 q e; rw [e] at w; rw [e2]; exact PV.here w R rz'
  | lst ys => exact w.elim
  | ro ys => exact w.elim
  | dT ys => exact w.elim
  | set ys => exact w.elim
theorem or_indexL (hu : X.A.units + 200 < cLine) : MtR X "list.index" (denM X.K .index .lst) := by
  intro pins s σ H x xs v us Q I rx rr h
  obtain ⟨ρ, hs, a, vs, R, ra, rs, E, w⟩ := h
  cases a <;> first | exact False.elim w | skip
  rename_i d i
  obtain ⟨o, g, w⟩ := wp_rd (wp_bnd.mp w)
  obtain ⟨p, rfl, hp, ob⟩ := R.at ra g
  cases rx
  cases vs with
  | nil => cases o <;> exact w.elim
  | cons b t =>
    cases t with
    | cons c t => cases o <;> exact w.elim
    | nil =>
      obtain ⟨y, rfl, ry⟩ := repVs_one rs
      obtain ⟨u, rfl, rru⟩ := rr.one
      cases o with
      | lst ys => obtain ⟨xs, h1, r⟩ := row_of ob; exact index_list I hu rru R ry r h1 (wp_bnd.mp w)
      | ro ys => obtain ⟨xs, h1, r⟩ := row_ro ob; exact index_list I hu rru R ry r h1 (wp_bnd.mp w)
      | dK ys => exact w.elim
      | dT ys => exact w.elim
      | set ys => exact w.elim
theorem or_indexT (hu : X.A.units + 200 < cLine) : MtR X "tuple.index" (denM X.K .index .tup) := by
  intro pins s σ H x xs v us Q I rx rr h
  obtain ⟨ρ, hs, a, vs, R, ra, rs, E, w⟩ := h
  cases a <;> first | exact False.elim w | skip
  rename_i ys
  obtain ⟨p, xs, rfl, t, r⟩ := repV_tup.mp ra
  cases rx
  cases vs with
  | nil => exact w.elim
  | cons b t2 =>
    cases t2 with
    | cons c t => exact w.elim
    | nil =>
      obtain ⟨y, rfl, ry⟩ := repVs_one rs
      obtain ⟨u, rfl, rru⟩ := rr.one
      exact index_tup I hu rru R ry r t.sq (wp_bnd.mp w)
/-! ## what a method hangs on -/
theorem kd_is {pins : List (Addr × PySem.Obj)} {σ : L2.St} {s : Shared} {x : V} {v : Value} {a : Val} {m : Me} {P : Kd → Hs → Prop} {E : Nat → List Val → Hs → Prop} (I : Inv X pins σ H s) (R : RelH X.K ρ hs H) (ra : RepV ρ H a x) (rx : RelV x v) (w : wp (kdOf m a hs) P E) :
    ∃ k, supp k m = true ∧ P k hs ∧ s.TypeIs v (kdS k) ∧ ∀ p, v = .ref p → ∃ ob, s.heap.get? p = some ob ∧ ob.dict = none := by
  cases a with
  | tup vs =>
    obtain ⟨q, ws, rfl, ⟨o, hq, hb⟩, r2⟩ := repV_tup.mp ra
    cases rx
    obtain ⟨h1, w⟩ := wp_guard (wp_bnd.mp w)
    obtain ⟨hg, _, its2, rv2, o2, ho2, hc2, n2, hd2⟩ := (show ObjOk X.prog X.w H s.heap q (.frz o (.tup ws)) from I.hok q _ hq)
    rw [hg] at ho2
    cases ho2
    exact ⟨.tup, h1, w, ⟨o, hg, hc2⟩, fun p e => by cases e; exact ⟨o, hg, hb.1⟩⟩
  | loc d i =>
    obtain ⟨o, g, w⟩ := wp_rd (wp_bnd.mp w)
    obtain ⟨p, rfl, hp, ob⟩ := R.at ra g
    cases rx
    have row : ∀ {xs : List V}, SqL X.K H p xs → s.TypeIs (.ref p) "list" ∧ ∀ p', (Value.ref p) = .ref p' → ∃ ob, s.heap.get? p' = some ob ∧ ob.dict = none := fun {xs} hq => by
      obtain ⟨its, _, pl, _⟩ := I.list hq
      refine ⟨pl.isList.typeIs, fun a e => ?_⟩
      cases e
      obtain ⟨o, n, e, c, hd, _⟩ := pl
      exact ⟨o, e, hd⟩
    cases o with
    | lst vs =>
      obtain ⟨h1, w⟩ := wp_guard (wp_bnd.mp w)
      obtain ⟨xs, h2, _⟩ := row_of ob
      obtain ⟨q1, q2⟩ := row h2
      exact ⟨.lst, h1, w, q1, q2⟩
    | ro vs =>
      obtain ⟨h1, w⟩ := wp_guard (wp_bnd.mp w)
      obtain ⟨xs, h2, _⟩ := row_ro ob
      obtain ⟨q1, q2⟩ := row h2
      exact ⟨.lst, h1, w, q1, q2⟩
    | dK kvs =>
      obtain ⟨h1, w⟩ := wp_guard (wp_bnd.mp w)
      obtain ⟨ws, h2, _⟩ := ob
      obtain ⟨_, _, _, _, o, _, _, e, ex, _⟩ := I.hok p _ h2
      exact ⟨.dic, h1, w, ⟨o, e, ex.1⟩, fun p' e2 => by cases e2; exact ⟨o, e, ex.2.1⟩⟩
    | dT _ => exact w.elim
    | set _ => exact w.elim
  | _ => exact w.elim
theorem meth_ok (hu : X.A.units + 200 < cLine) {k : Kd} {m : Me} (h : supp k m = true) : ∃ id, SlotOk (kdS k) (Str.ofString (meS m)) id ∧ MtR X id (denM X.K m k) := by
  cases k <;> cases m <;> first | (exact absurd h (by decide)) | skip
  · exact ⟨"list.append", ⟨PySem.F.plainAttrs_list, PySem.F.slot_list_append, PySem.F.type_list_append⟩, or_append⟩
  · exact ⟨"list.pop", ⟨PySem.F.plainAttrs_list, PySem.F.slot_list_pop, PySem.F.type_list_pop⟩, or_pop⟩
  · exact ⟨"list.extend", ⟨PySem.F.plainAttrs_list, PySem.F.slot_list_extend, PySem.F.type_list_extend⟩, or_extend⟩
  · exact ⟨"list.index", ⟨PySem.F.plainAttrs_list, PySem.F.slot_list_index, PySem.F.type_list_index⟩, or_indexL hu⟩
  · exact ⟨"tuple.index", ⟨PySem.F.plainAttrs_tuple, PySem.F.slot_tuple_index, PySem.F.type_tuple_index⟩, or_indexT hu⟩
  · exact ⟨"dict.get", ⟨PySem.F.plainAttrs_dict, PySem.F.slot_dict_get, PySem.F.type_dict_get⟩, or_dget (by omega)⟩
end
end Z
-- ZSet
namespace L2
open PySem PySem.Spec PyProof.Rows
section
variable {P : Program} {w : World} {A : Around} {E : Value → Shared → Prop} {s : Shared}
set_option maxRecDepth 100000 in
set_option maxHeartbeats 3200000 in
theorem call_set_listI {l : Addr} {items : Array Value} (ns : List Int) {Q : Value → Shared → Prop} (hh : A.handled = none) (hl : s.heap.IsList l items) (hit : IntsAre items.toList ns) (hb : ns.length + 1 < scanBound)
    (h : ∀ (h' : Heap) (tk c : Nat), SetR w h' s.heap.objs.size (fun j => decide (j ∈ ns)) c → c ≤ ns.length → (∀ b o, s.heap.get? b = some o → h'.get? b = some o) → Q (.ref s.heap.objs.size) { s with heap := h', toks := tk }) :
    wpAny (model P w) A (call (.type "set") [.ref l]) Q E s := by
  have hisz : items.size = ns.length := by
    have q := IntsAre.length hit
    rw [Array.length_toList] at q
    exact q
  obtain ⟨c, tl, hmro⟩ := F.called_set.mro
  have hmade := F.called_set.made
  have hsub := F.called_set.sub
  refine wpAny_call (codeAny_of_tree ?_)
  show wpAny _ _ (callAny (.type "set") _) _ _ _
  refine wpAny_pure ⟨Code.quiet_builtin _ (by decide +kernel), codeAny_builtin F.entry_type_call ?_⟩
  rw [Around.under_plain (weight_type_call_type "set" [.ref l] []) rfl]
  have h1 := F.called_set.notType
  have h2 := F.called_set.canCreate
  have hct := F.typeCall_set_1 (.ref l)
  repeat (any_goals (first | assumption | wp_step))
  refine codeAny_mono (code_set_led1 (.ref l) (E := E) (Q₁ := fun obj s₁ => obj = .ref s.heap.objs.size ∧ s₁ = { s with heap := s.heap.push { cls := .type "set", dict := none, data := .set #[] 0 (.fresh 0 0 (!w.params.followText "set-order")) } }) ⟨rfl, rfl⟩) fun r s₁ hr => ?_
  cases r with
  | error e => exact hr
  | ok fl =>
    cases fl with
    | ret obj =>
      obtain ⟨rfl, rfl⟩ := hr
      have hS : (s.heap.push { cls := .type "set", dict := none, data := .set #[] 0 (.fresh 0 0 (!w.params.followText "set-order")) }).get? s.heap.objs.size = some { cls := .type "set", dict := none, data := .set #[] 0 (.fresh 0 0 (!w.params.followText "set-order")) } := Heap.get?_push_size _ rfl
      have hT : Shared.TypeIs { s with heap := s.heap.push { cls := .type "set", dict := none, data := .set #[] 0 (.fresh 0 0 (!w.params.followText "set-order")) } } (.ref s.heap.objs.size) "set" := ⟨_, hS, rfl⟩
      have hli := F.called_set.init.lookup
      have hbi := F.called_set.init.bind (.ref s.heap.objs.size)
      repeat (any_goals (first | assumption | wp_step))
      refine codeAny_mono (codeAny_call_builtin (R := wants (fun r s₂ => r = .none ∧ ∃ h' tk c, s₂ = { s with heap := h', toks := tk } ∧ SetR w h' s.heap.objs.size (fun j => decide (j ∈ ns)) c ∧ c ≤ ns.length ∧
          (∀ b o, s.heap.get? b = some o → h'.get? b = some o)) E) F.called_set.init.plain F.entry_set_init (check_set_init_1 hT ?_)) fun r₂ s₂ hr₂ => ?_
      · obtain ⟨ol, hol, hcl, nl, hdl⟩ := hl
        obtain ⟨ocls, odict, odata, oslots⟩ := ol
        simp only at hcl hdl
        subst hcl; subst hdl
        have hol' : (s.heap.push { cls := .type "set", dict := none, data := .set #[] 0 (.fresh 0 0 (!w.params.followText "set-order")) }).get? l = some { cls := .type "list", dict := odict, data := .seq items nl, slots := oslots } := Heap.get?_push_of_some _ hol
        have hsls := F.sub_list_set
        have hslf := F.sub_list_frozenset
        have hne : (Value.type "list" == Value.type "dict") = false := by decide
        have hl1 : (s.heap.push { cls := .type "set", dict := none, data := .set #[] 0 (.fresh 0 0 (!w.params.followText "set-order")) }).IsList l items := ⟨_, hol', rfl, nl, rfl⟩
        unfold Builtin.«set.__init__» noKeywords Builtin.Frozenset.updateFrom
        generalize hPI : pyIter = PI
        wp_walk
        subst hPI
        refine wpAny_pyIter_list hl1 ?_
        refine wpAny_bind (wpAny_runValue ?_)
        have hlS : l < s.heap.objs.size := Heap.lt_size hol
        have hh3 : A.in1.in1.in1.handled = none := by simp [hh]
        have hz1 : (s.heap.push { cls := .type "set", dict := none, data := .set #[] 0 (.fresh 0 0 (!w.params.followText "set-order")) }).objs.size = s.heap.objs.size + 1 := Heap.size_push ..
        have hneI : l ≠ (s.heap.push { cls := .type "set", dict := none, data := .set #[] 0 (.fresh 0 0 (!w.params.followText "set-order")) }).objs.size := by
          rw [Heap.size_push]; exact Nat.ne_of_lt (Nat.lt_succ_of_lt hlS)
        have hSf : s.heap.objs.size ∉ [(s.heap.push { cls := .type "set", dict := none, data := .set #[] 0 (.fresh 0 0 (!w.params.followText "set-order")) }).objs.size, l] := by
          rw [Heap.size_push]; simp only [List.mem_cons, List.mem_singleton, List.not_mem_nil, or_false, not_or]
          exact ⟨Nat.ne_of_lt (Nat.lt_succ_self _), Nat.ne_of_gt hlS⟩
        have hval : ∀ (i : Nat) (v : Value), items[i]? = some v → ∃ k t, ns[i]? = some k ∧ v = .int k t := fun i v hv => by
          have hi : i < ns.length := by rw [← hisz]; exact (Array.getElem?_eq_some_iff.mp hv).1
          obtain ⟨t, e⟩ := PyProof.Rows.IntsAre.int_at hit i v (by rw [Array.getElem?_toList]; exact hv)
          refine ⟨ns[i], t, List.getElem?_eq_getElem hi, ?_⟩
          rw [e, List.getD_eq_getElem?_getD, List.getElem?_eq_getElem hi] <;> rfl
        refine set_update_ints ((Walks.list hh3 _ l hneI items).toS) s.heap.objs.size
          hSf ns hisz hb hval (items.size - 0) 0 _ (by omega) (Nat.zero_le _)
          ⟨⟨_, Heap.get?_push_size _ rfl, rfl, rfl⟩, (hl1.push _)⟩ ?hS0 ?hR
        case hS0 =>
          have hget : ((s.heap.push { cls := .type "set", dict := none, data := .set #[] 0 (.fresh 0 0 (!w.params.followText "set-order")) }).push { cls := .type "list_iterator", data := .fields #[.ref l, .int 0 0] }).get? s.heap.objs.size
              = some { cls := .type "set", dict := none, data := .set #[] 0 (.fresh 0 0 (!w.params.followText "set-order")) } := Heap.get?_push_of_some _ hS
          exact ⟨0, Nat.le_refl 0, setR_new_at hget⟩
        case hR =>
          intro s' c' hm hc' hS'
          obtain ⟨h', g2, d', tk', os'⟩ := s'
          have eg : g2 = s.gens := hm.gens
          have ed : d' = s.drawn := hm.drawn
          have eo : os' = s.os := hm.os
          subst eg; subst ed; subst eo
          show wpAny _ _ _ _ _ _
          refine wpAny_pure ?_
          show wpAny _ _ (ret Value.none) _ _ _
          rw [hisz] at hc'
          refine wpAny_pure ⟨rfl, h', tk', c', rfl, hS', hc', fun b o e => ?_⟩
          have hb0 : b < s.heap.objs.size := Heap.lt_size e
          have hb1 : b ≠ s.heap.objs.size := Nat.ne_of_lt hb0
          have hb2 : b ≠ (s.heap.push { cls := .type "set", dict := none, data := .set #[] 0 (.fresh 0 0 (!w.params.followText "set-order")) }).objs.size := by
            rw [Heap.size_push]; exact Nat.ne_of_lt (Nat.lt_succ_of_lt hb0)
          exact hm.heap b o (by simp only [List.mem_cons, List.mem_singleton, List.not_mem_nil, or_false, not_or]; exact ⟨hb1, hb2⟩) (Heap.get?_push_of_some _ (Heap.get?_push_of_some _ e))
      · cases r₂ with
        | error e => exact hr₂
        | ok fl₂ =>
          cases fl₂ with
          | ret r =>
            obtain ⟨rfl, h', tk, c', rfl, hS', hc', hk'⟩ := hr₂
            repeat (any_goals (first | assumption | wp_step))
            exact h _ _ _ hS' hc' hk'
          | _ => exact hr₂.elim
    | _ => exact hr.elim
end
end L2
-- ZS11
namespace Z
open PySem PySem.Spec PyProof.Rows L2
/-! # What the interpreter says, as what the rules want -/
def PVs (K : PySem.W.Frag) (ρ : Rho) (hs : Hs) (H : Hp) (Q : List V → Hp → Prop) : List Val → Hs → Prop := fun vs hs' => ∀ ρ' H' xs, Stp ρ hs H ρ' hs' H' → RelH K ρ' hs' H' → RepVs ρ' H' vs xs → Q xs H'
/-- what is fixed through a walk: the defs' meanings, the classes -/
structure Zx where
  C : Nat → List Val → M Val
  cl : Nat → Value
  nc : Nat
/-- what is kept of an error's own things -/
def ExR (z : Zx) (c : Nat) (vs : List Val) (d : Option Addr) : Prop := c < z.nc ∧ vs = [] ∧ d = none
def PX (K : PySem.W.Frag) (z : Zx) (ρ : Rho) (hs : Hs) (H : Hp) (E : XK) : Nat → List Val → Hs → Prop := fun c vs hs' => ∀ ρ' H' d, Stp ρ hs H ρ' hs' H' → RelH K ρ' hs' H' → ExR z c vs d → E (z.cl c) d H'
section
variable {K : PySem.W.Frag} {z : Zx} {ρ ρ1 : Rho} {hs hs1 hs2 : Hs} {H H1 : Hp}
theorem PVs.on {Q : List V → Hp → Prop} {vs : List Val} (h : PVs K ρ hs H Q vs hs2) (s : Stp ρ hs H ρ1 hs1 H1) : PVs K ρ1 hs1 H1 Q vs hs2 := fun ρ2 H2 w s2 R r => h ρ2 H2 w (s.trans s2) R r
theorem PB.on {Q : Bool → Hp → Prop} {b : Bool} (h : PB K ρ hs H Q b hs2) (s : Stp ρ hs H ρ1 hs1 H1) : PB K ρ1 hs1 H1 Q b hs2 := fun ρ2 H2 s2 R => h ρ2 H2 (s.trans s2) R
theorem PX.on {E : XK} {c : Nat} {vs : List Val} (h : PX K z ρ hs H E c vs hs2) (s : Stp ρ hs H ρ1 hs1 H1) : PX K z ρ1 hs1 H1 E c vs hs2 := fun ρ2 H2 d s2 R x => h ρ2 H2 d (s.trans s2) R x
theorem RelS.on {σz : Zt} {σ : L2.St} (h : RelS ρ H σz σ) (s : Stp ρ hs H ρ1 hs1 H1) : RelS ρ1 H1 σz σ := h.mono s.rx s.tup
theorem RepV.on {v : Val} {x : V} (h : RepV ρ H v x) (s : Stp ρ hs H ρ1 hs1 H1) : RepV ρ1 H1 v x := RepV.mono s.rx s.tup v x h
theorem RepVs.on {v : List Val} {x : List V} (h : RepVs ρ H v x) (s : Stp ρ hs H ρ1 hs1 H1) : RepVs ρ1 H1 v x := RepVs.mono s.rx s.tup v x h
end
def tE (z : Zx) (K : PySem.W.Frag) (W : WX) (e : E) : TE := fun σ H Q => ∃ ρ hs σz, RelH K ρ hs H ∧ RelS ρ H σz σ ∧ wp (evalE z.C e σz hs) (PV K ρ hs H Q) (PX K z ρ hs H (WE W σ))
def tEs (z : Zx) (K : PySem.W.Frag) (W : WX) (es : List E) : TA := fun σ H Q => ∃ ρ hs σz, RelH K ρ hs H ∧ RelS ρ H σz σ ∧ wp (evalEs z.C es σz hs) (PVs K ρ hs H Q) (PX K z ρ hs H (WE W σ))
/-- a test -/
def tT (z : Zx) (K : PySem.W.Frag) (W : WX) (e : E) : TT := fun σ H Q => ∃ ρ hs σz, RelH K ρ hs H ∧ RelS ρ H σz σ ∧ wp (bnd (evalE z.C e σz) truth hs) (PB K ρ hs H Q) (PX K z ρ hs H (WE W σ))
section
variable {z : Zx} {K : PySem.W.Frag} {W : WX} {ρ : Rho} {hs : Hs} {H : Hp} {σz : Zt} {σ : L2.St} {e : E} {es : List E}
/-- the first step of two -/
theorem stepE {β : Type} {k : Val → M β} {P : β → Hs → Prop} {Q : VK} (R : RelH K ρ hs H) (S : RelS ρ H σz σ) (w : wp (bnd (evalE z.C e σz) k hs) P (PX K z ρ hs H (WE W σ)))
    (h : ∀ ρ1 H1 hs1 vx x, Stp ρ hs H ρ1 hs1 H1 → RelH K ρ1 hs1 H1 → RelS ρ1 H1 σz σ → RepV ρ1 H1 vx x → wp (k vx hs1) P (PX K z ρ1 hs1 H1 (WE W σ)) → Q x H1) : tE z K W e σ H Q :=
  ⟨ρ, hs, σz, R, S, wp_mono (wp_bnd.mp w) (fun vx hs1 w1 ρ1 H1 x st R1 rx => h ρ1 H1 hs1 vx x st R1 (S.on st) rx (wp_mono w1 (fun _ _ y => y) fun _ _ _ y => PX.on y st)) fun _ _ _ y => y⟩
theorem evalEs_len {C : Nat → List Val → M Val} {σz : Zt} : ∀ {es : List E} {hs : Hs} {P : List Val → Hs → Prop} {F : Nat → List Val → Hs → Prop}, wp (evalEs C es σz hs) P F → wp (evalEs C es σz hs) (fun vs h => vs.length = es.length ∧ P vs h) F
  | [], hs, P, F, w => ⟨rfl, w⟩
  | e :: es, hs, P, F, w => by
    have w : wp (bnd (evalE C e σz) (fun v => bnd (evalEs C es σz) fun vs => ret (v :: vs)) hs) P F := w
    show wp (bnd (evalE C e σz) (fun v => bnd (evalEs C es σz) fun vs => ret (v :: vs)) hs) _ F
    refine wp_bnd.mpr (wp_mono (wp_bnd.mp w) (fun v h1 w1 => wp_bnd.mpr (wp_mono (evalEs_len (wp_bnd.mp w1)) (fun vs h2 ⟨q, w2⟩ => ?_) fun _ _ _ y => y)) fun _ _ _ y => y)
    exact ⟨by rw [List.length_cons, List.length_cons, q], w2⟩
theorem stepEs {β : Type} {k : List Val → M β} {P : β → Hs → Prop} {Q : List V → Hp → Prop} (R : RelH K ρ hs H) (S : RelS ρ H σz σ) (w : wp (bnd (evalEs z.C es σz) k hs) P (PX K z ρ hs H (WE W σ)))
    (h : ∀ ρ1 H1 hs1 vs xs, Stp ρ hs H ρ1 hs1 H1 → RelH K ρ1 hs1 H1 → RelS ρ1 H1 σz σ → RepVs ρ1 H1 vs xs → vs.length = es.length → wp (k vs hs1) P (PX K z ρ1 hs1 H1 (WE W σ)) → Q xs H1) : tEs z K W es σ H Q :=
  ⟨ρ, hs, σz, R, S, wp_mono (evalEs_len (wp_bnd.mp w)) (fun vx hs1 ⟨hz, w1⟩ ρ1 H1 x st R1 rx => h ρ1 H1 hs1 vx x st R1 (S.on st) rx hz (wp_mono w1 (fun _ _ y => y) fun _ _ _ y => PX.on y st)) fun _ _ _ y => y⟩
theorem stepT {β : Type} {k : Bool → M β} {P : β → Hs → Prop} {Q : Bool → Hp → Prop} (R : RelH K ρ hs H) (S : RelS ρ H σz σ) (w : wp (bnd (evalE z.C e σz) (fun v => bnd (truth v) k) hs) P (PX K z ρ hs H (WE W σ)))
    (h : ∀ ρ1 H1 hs1 b, Stp ρ hs H ρ1 hs1 H1 → RelH K ρ1 hs1 H1 → RelS ρ1 H1 σz σ → wp (k b hs1) P (PX K z ρ1 hs1 H1 (WE W σ)) → Q b H1) : tT z K W e σ H Q := by
  refine ⟨ρ, hs, σz, R, S, wp_bnd.mpr (wp_mono (wp_bnd.mp w) (fun vx hs1 w1 => wp_mono (wp_bnd.mp w1) (fun b hs2 w2 ρ1 H1 st R1 => ?_) fun _ _ _ y => y) fun _ _ _ y => y)⟩
  exact h ρ1 H1 hs2 b st R1 (S.on st) (wp_mono w2 (fun _ _ y => y) fun _ _ _ y => PX.on y st)
end
theorem PE.imp {X : Cx} {e : Expr} {t t' : TE} (h : PE X e t) (i : ∀ σ H Q, t' σ H Q → t σ H Q) : PE X e t' := ⟨fun pins s σ H Q I q => h.run pins s σ H Q I (i σ H Q q)⟩
theorem PT.imp {X : Cx} {e : Expr} {t t' : TT} (h : PT X e t) (i : ∀ σ H Q, t' σ H Q → t σ H Q) : PT X e t' := ⟨fun pins s σ H Q I q => h.run pins s σ H Q I (i σ H Q q)⟩
theorem PW.imp {X : Cx} {e : Expr} {t t' : TT} (h : PW X e t) (i : ∀ σ H Q, t' σ H Q → t σ H Q) : PW X e t' := ⟨fun w pins s σ H Q I q => h.run w pins s σ H Q I (i σ H Q q)⟩
theorem PA.imp {X : Cx} {e : List Expr} {t t' : TA} (h : PA X e t) (i : ∀ σ H Q, t' σ H Q → t σ H Q) : PA X e t' := ⟨fun p pins s σ H Q I q => h.run p pins s σ H Q I (i σ H Q q)⟩
theorem PS.imp {X : Cx} {e : Stmt} {t t' : TS} (h : PS X e t) (i : ∀ D σ H, t' D σ H → t D σ H) : PS X e t' := ⟨fun pins s σ H D I q => h.run pins s σ H D I (i D σ H q)⟩
theorem PSs.imp {X : Cx} {e : List Stmt} {t t' : TS} (h : PSs X e t) (i : ∀ D σ H, t' D σ H → t D σ H) : PSs X e t' := ⟨fun pins s σ H D I q => h.run pins s σ H D I (i D σ H q)⟩
/-- an operation behind its steps -/
theorem den2_of {K : PySem.W.Frag} {ρ0 ρ : Rho} {hs0 hs : Hs} {H0 H : Hp} {f : Val → Val → M Val} {a b : Val} {x y : V} {Q : VK} {E : Nat → List Val → Hs → Prop} (R : RelH K ρ hs H) (ra : RepV ρ H a x) (rb : RepV ρ H b y) (st : Stp ρ0 hs0 H0 ρ hs H)
    (w : wp (f a b hs) (PV K ρ0 hs0 H0 Q) E) : den2 K f x y H Q := ⟨ρ, hs, a, b, R, ra, rb, E, wp_mono w (fun _ _ p => p.on st) fun _ _ _ y => y⟩
theorem den1_of {K : PySem.W.Frag} {ρ0 ρ : Rho} {hs0 hs : Hs} {H0 H : Hp} {f : Val → M Val} {a : Val} {x : V} {Q : VK} {E : Nat → List Val → Hs → Prop} (R : RelH K ρ hs H) (ra : RepV ρ H a x) (st : Stp ρ0 hs0 H0 ρ hs H)
    (w : wp (f a hs) (PV K ρ0 hs0 H0 Q) E) : den1 K f x H Q := ⟨ρ, hs, a, R, ra, E, wp_mono w (fun _ _ p => p.on st) fun _ _ _ y => y⟩
theorem denL_of {K : PySem.W.Frag} {ρ0 ρ : Rho} {hs0 hs : Hs} {H0 H : Hp} {f : List Val → M Val} {vs : List Val} {xs : List V} {Q : VK} {E : Nat → List Val → Hs → Prop} (R : RelH K ρ hs H) (ra : RepVs ρ H vs xs) (st : Stp ρ0 hs0 H0 ρ hs H)
    (w : wp (f vs hs) (PV K ρ0 hs0 H0 Q) E) : denL K f xs H Q := ⟨ρ, hs, vs, R, ra, E, wp_mono w (fun _ _ p => p.on st) fun _ _ _ y => y⟩
/-! ## expressions -/
section
variable {X : Cx} {z : Zx} {W : WX} {a b c : Expr} {ea eb ec : E} {pos : Pos}
theorem s_bin {op : Bop} (ha : PE X a (tE z X.K W ea)) (hb : PE X b (tE z X.K W eb)) : PE X (.BinOp a (pyOp op) b pos) (tE z X.K W (.bin op ea eb)) :=
  PE.imp (pe_op (or_bin op) ha hb) fun σ H Q ⟨ρ, hs, σz, R, S, w⟩ => stepE R S w fun ρ1 H1 hs1 vx x st R1 S1 rx w => stepE R1 S1 w fun ρ2 H2 hs2 vy y st2 R2 S2 ry w => den2_of R2 (rx.on st2) ry (st.trans st2) w
theorem nomarkC {op : Cop} {b : Expr} (h : ∀ es k p, b ≠ .Set es k p) : behindInMarks (pyCmp op) b = false := by
  cases b <;> first | (simp [behindInMarks]; done) | exact absurd rfl (h _ _ _)
theorem s_cmp {op : Cop} (hu : X.A.units + 200 < cLine) (ha : PE X a (tE z X.K W ea)) (hb : PE X b (tE z X.K W eb)) (hn : ∀ es k p, b ≠ .Set es k p) : PE X (.Compare a [pyCmp op] [b] pos) (tE z X.K W (.cmp op ea eb)) :=
  PE.imp (pe_cmpR (or_cmp hu op) ha hb (nomarkC hn)) fun σ H Q ⟨ρ, hs, σz, R, S, w⟩ => stepE R S w fun ρ1 H1 hs1 vx x st R1 S1 rx w => stepE R1 S1 w fun ρ2 H2 hs2 vy y st2 R2 S2 ry w => den2_of R2 (rx.on st2) ry (st.trans st2) w
theorem lastMarksC {op op2 : Cop} {b c : Expr} (h2 : ∀ es k p, c ≠ .Set es k p) : lastMarks [pyCmp op, pyCmp op2] [b, c] = false := by
  show lastMarks [pyCmp op2] [c] = false
  exact nomarkC h2
theorem wp_andV {x : Val} {k : M Val} {hs : Hs} {P : Val → Hs → Prop} {E : Nat → List Val → Hs → Prop} (w : wp (andV x k hs) P E) : ∃ t, x = .bl t ∧ if t = true then wp (k hs) P E else P (.bl false) hs := by
  cases x <;> first | exact False.elim w | skip
  rename_i t
  cases t
  · exact ⟨false, rfl, w⟩
  · exact ⟨true, rfl, w⟩
theorem wp_orV {x : Val} {k : M Val} {hs : Hs} {P : Val → Hs → Prop} {E : Nat → List Val → Hs → Prop} (w : wp (orV x k hs) P E) : ∃ t, x = .bl t ∧ if t = true then P (.bl true) hs else wp (k hs) P E := by
  cases x <;> first | exact False.elim w | skip
  rename_i t
  cases t
  · exact ⟨false, rfl, w⟩
  · exact ⟨true, rfl, w⟩
theorem s_chain {op op2 : Cop} (hu : X.A.units + 200 < cLine) (ha : PE X a (tE z X.K W ea)) (hb : PE X b (tE z X.K W eb)) (hc : PE X c (tE z X.K W ec)) (hn : ∀ es k p, c ≠ .Set es k p) : PE X (.Compare a [pyCmp op, pyCmp op2] [b, c] pos) (tE z X.K W (.chain op op2 ea eb ec)) := by
  refine PE.imp (pe_chain (or_cmp hu op) (or_cmp hu op2) ha hb hc (lastMarksC hn)) fun σ H Q ⟨ρ, hs, σz, R, S, w⟩ => ?_
  refine stepE R S w fun ρ1 H1 hs1 vx x st R1 S1 rx w => stepE R1 S1 w fun ρ2 H2 hs2 vy y st2 R2 S2 ry w => ?_
  -- the first comparison
  refine ⟨ρ2, hs2, vx, vy, R2, rx.on st2, ry, _, wp_mono (wp_bnd.mp w) (fun v hs3 w ρ3 H3 v' st3 R3 rv => ?_) (fun _ _ _ y => y)⟩
  obtain ⟨t, rfl, w2⟩ := wp_andV w
  refine ⟨t, repV_bl.mp rv, ?_⟩
  cases t with
  | false =>
    rw [if_neg (by decide)] at w2 ⊢
    exact w2 ρ3 H3 _ (st.trans (st2.trans st3)) R3 (repV_bl.mpr rfl)
  | true =>
    rw [if_pos rfl] at w2 ⊢
    exact stepE R3 (S2.on st3) (wp_mono w2 (fun _ _ y => y) fun _ _ _ y => PX.on y st3) fun ρ4 H4 hs4 vw w' st4 R4 S4 rw' w => den2_of R4 ((ry.on st3).on st4) rw' (st.trans (st2.trans (st3.trans st4))) w
theorem s_neg (ha : PE X a (tE z X.K W ea)) : PE X (.UnaryOp .USub a pos) (tE z X.K W (.neg ea)) :=
  PE.imp (pe_un or_neg ha) fun σ H Q ⟨ρ, hs, σz, R, S, w⟩ => stepE R S w fun ρ1 H1 hs1 vx x st R1 S1 rx w => den1_of R1 rx st w
theorem s_inv (ha : PE X a (tE z X.K W ea)) : PE X (.UnaryOp .Invert a pos) (tE z X.K W (.inv ea)) :=
  PE.imp (pe_un or_inv ha) fun σ H Q ⟨ρ, hs, σz, R, S, w⟩ => stepE R S w fun ρ1 H1 hs1 vx x st R1 S1 rx w => den1_of R1 rx st w
/-- and, two and more: the tail is such a row again -/
theorem s_and {r : List Expr} (ha : PE X a (tE z X.K W ea)) (hb : PE X (.BoolOp .And (b :: r) pos) (tE z X.K W eb)) : PE X (.BoolOp .And (a :: b :: r) pos) (tE z X.K W (.and ea eb)) := by
  refine PE.imp (pe_and ha hb) fun σ H Q ⟨ρ, hs, σz, R, S, w⟩ => stepE R S w fun ρ1 H1 hs1 vx x st R1 S1 rx w => ?_
  obtain ⟨t, rfl, w2⟩ := wp_andV w
  refine ⟨t, repV_bl.mp rx, ?_⟩
  cases t with
  | false => rw [if_neg (by decide)] at w2 ⊢; exact w2 ρ1 H1 _ st R1 (repV_bl.mpr rfl)
  | true => rw [if_pos rfl] at w2 ⊢; exact ⟨ρ1, hs1, σz, R1, S1, wp_mono w2 (fun _ _ p => PV.on p st) fun _ _ _ y => y⟩
theorem s_or {r : List Expr} (ha : PE X a (tE z X.K W ea)) (hb : PE X (.BoolOp .Or (b :: r) pos) (tE z X.K W eb)) : PE X (.BoolOp .Or (a :: b :: r) pos) (tE z X.K W (.or ea eb)) := by
  refine PE.imp (pe_or ha hb) fun σ H Q ⟨ρ, hs, σz, R, S, w⟩ => stepE R S w fun ρ1 H1 hs1 vx x st R1 S1 rx w => ?_
  obtain ⟨t, rfl, w2⟩ := wp_orV w
  refine ⟨t, repV_bl.mp rx, ?_⟩
  cases t with
  | true => rw [if_pos rfl] at w2 ⊢; exact w2 ρ1 H1 _ st R1 (repV_bl.mpr rfl)
  | false => rw [if_neg (by decide)] at w2 ⊢; exact ⟨ρ1, hs1, σz, R1, S1, wp_mono w2 (fun _ _ p => PV.on p st) fun _ _ _ y => y⟩
theorem s_ifx (hc : PT X c (tT z X.K W ec)) (ha : PE X a (tE z X.K W ea)) (hb : PE X b (tE z X.K W eb)) : PE X (.IfExp c a b pos) (tE z X.K W (.ifx ec ea eb)) := by
  refine PE.imp (pe_ifExp hc ha hb) fun σ H Q ⟨ρ, hs, σz, R, S, w⟩ => stepT R S w fun ρ1 H1 hs1 t st R1 S1 w => ?_
  cases t with
  | true => rw [if_pos rfl] at w ⊢; exact ⟨ρ1, hs1, σz, R1, S1, wp_mono w (fun _ _ p => PV.on p st) fun _ _ _ y => y⟩
  | false => rw [if_neg (by decide)] at w ⊢; exact ⟨ρ1, hs1, σz, R1, S1, wp_mono w (fun _ _ p => PV.on p st) fun _ _ _ y => y⟩
theorem s_idx (hu : X.A.units + 200 < cLine) (ha : PE X a (tE z X.K W ea)) (hb : PE X b (tE z X.K W eb)) (hs : PlainIx b) : PE X (.Subscript a b pos) (tE z X.K W (.idx ea eb)) :=
  PE.imp (pe_ix (or_item (by omega)) ha hb hs) fun σ H Q ⟨ρ, hs, σz, R, S, w⟩ => stepE R S w fun ρ1 H1 hs1 vx x st R1 S1 rx w => stepE R1 S1 w fun ρ2 H2 hs2 vy y st2 R2 S2 ry w => den2_of R2 (rx.on st2) ry (st.trans st2) w
/-- a test by a value -/
theorem s_test (ha : PE X a (tE z X.K W ea)) (he : ∀ whole, isTrue a X.env whole = (do let v ← whole; standAt a.pos; holding [v] (truthy v))) : PT X a (tT z X.K W ea) := by
  refine ⟨fun pins s σ H Q I h => ?_⟩
  obtain ⟨ρ, hs, σz, R, S, w⟩ := h
  rw [he]
  refine wpAny_bind (thn (ha.run pins s σ H (fun x H1 => denT X.K x H1 Q) I (stepE R S w fun ρ1 H1 hs1 vx x st R1 S1 rx w => ⟨ρ1, hs1, vx, R1, rx, _, wp_mono w (fun _ _ p => PB.on p st) fun _ _ _ y => y⟩)) fun v s1 ⟨x, H1, I1, r1, q⟩ => ?_)
  exact wpAny_bind (wpAny_standAt (wpAny_holding (or_truth pins s1 σ H1 x v Q I1 r1 q)))
/-- not -/
theorem s_notT (ha : PT X a (tT z X.K W ea)) : PT X (.UnaryOp .Not a pos) (tT z X.K W (.not ea)) := by
  refine PT.imp (pt_not ha) fun σ H Q ⟨ρ, hs, σz, R, S, w⟩ => ?_
  have w : wp (bnd (evalE z.C ea σz) (fun v => bnd (truth v) fun b => bnd (ret (.bl (!b))) truth) hs) (PB X.K ρ hs H Q) (PX X.K z ρ hs H (WE W σ)) := by
    refine wp_bnd.mpr (wp_mono (wp_bnd.mp (wp_bnd.mp w)) (fun v hs1 w1 => ?_) fun _ _ _ y => y)
    exact wp_bnd.mpr (wp_mono (wp_bnd.mp w1) (fun b hs2 w2 => w2) fun _ _ _ y => y)
  exact stepT R S w fun ρ1 H1 hs1 t st R1 S1 w => w ρ1 H1 st R1
end
end Z
-- ZS12
namespace Z
open PySem PySem.Spec PyProof.Rows L2
/-! ## sorted rows of numbers -/
theorem mem_dedupI {k : Int} : ∀ {l : List Int}, k ∈ dedupI l ↔ k ∈ l
  | [] => Iff.rfl
  | v :: r => by
    unfold dedupI
    rw [List.mem_cons, List.mem_filter, mem_dedupI, List.mem_cons]
    by_cases h : k = v
    · simp [h]
    · simp [h]
theorem nodup_dedupI : ∀ l : List Int, (dedupI l).Nodup
  | [] => List.nodup_nil
  | v :: r => by
    unfold dedupI
    rw [List.nodup_cons]
    exact ⟨by simp, (nodup_dedupI r).filter _⟩
theorem asc_ext : ∀ {a b : List Int}, a.Pairwise (· < ·) → b.Pairwise (· < ·) → (∀ k, k ∈ a ↔ k ∈ b) → a = b
  | [], [], _, _, _ => rfl
  | [], y :: b, _, _, h => by have := (h y).mpr List.mem_cons_self; simp at this
  | x :: a, [], _, _, h => by have := (h x).mp List.mem_cons_self; simp at this
  | x :: a, y :: b, ha, hb, h => by
    obtain ⟨ha1, ha2⟩ := List.pairwise_cons.mp ha
    obtain ⟨hb1, hb2⟩ := List.pairwise_cons.mp hb
    have e : x = y := by
      rcases List.mem_cons.mp ((h x).mp List.mem_cons_self) with q | q
      · exact q
      · rcases List.mem_cons.mp ((h y).mpr List.mem_cons_self) with q2 | q2
        · exact q2.symm
        · have := ha1 _ q2
          have := hb1 _ q
          omega
    subst e
    rw [asc_ext ha2 hb2 fun k => ?_]
    have hk := h k
    rw [List.mem_cons, List.mem_cons] at hk
    constructor
    · intro q
      rcases hk.mp (.inr q) with e | e
      · subst e; exact absurd (ha1 _ q) (Int.lt_irrefl _)
      · exact e
    · intro q
      rcases hk.mpr (.inr q) with e | e
      · subst e; exact absurd (hb1 _ q) (Int.lt_irrefl _)
      · exact e
theorem le_tr : ∀ a b c : Int, (decide (a ≤ b)) = true → (decide (b ≤ c)) = true → (decide (a ≤ c)) = true := by
  intro a b c h1 h2
  simp only [decide_eq_true_eq] at *
  omega
theorem le_tot : ∀ a b : Int, (decide (a ≤ b) || decide (b ≤ a)) = true := by
  intro a b
  simp only [Bool.or_eq_true, decide_eq_true_eq]
  omega
theorem sortI_pairwise (l : List Int) : (sortI l).Pairwise (· ≤ ·) := (List.pairwise_mergeSort le_tr le_tot l).imp fun h => by simpa using h
theorem sortI_perm (l : List Int) : (sortI l).Perm l := List.mergeSort_perm l _
theorem sortI_asc {l : List Int} (h : l.Nodup) : (sortI l).Pairwise (· < ·) := by
  have h1 := sortI_pairwise l
  have h2 : (sortI l).Nodup := (sortI_perm l).nodup_iff.mpr h
  refine (List.pairwise_and_iff.mpr ⟨h1, h2⟩).imp fun {a b} ⟨p, q⟩ => ?_
  have : a ≠ b := q
  omega
theorem sortV_ints (l : List Int) : sortV (l.map Val.int) = (sortI l).map Val.int := by
  unfold sortV sortI
  refine (PySem.W.sort_maps (f := Val.int) (fun a _ b _ => ?_)).symm
  show decide (a ≤ b) = !PySem.W.dataLt (.int b) (.int a)
  rw [PySem.W.dataLt_int, PySem.W.not_lt_int]
/-! ## more expressions -/
def nsE : Expr → Bool
  | .Starred .. => false
  | _ => true
theorem star_cons {e : Expr} {es : List Expr} {env : Env} (h : nsE e = true) : starEach (e :: es) env = (false, eval e env) :: starEach es env := by
  cases e <;> first | rfl | (simp [nsE] at h; done) | (simp [starEach]; done)
theorem star_plain : ∀ {es : List Expr} {env : Env} {pos : Pos}, es.all nsE = true → (backTo pos (starEach es env)).any (·.1) = false
  | [], _, _, _ => rfl
  | e :: es, env, pos, h => by
    rw [List.all_cons, Bool.and_eq_true] at h
    rw [star_cons h.1]
    show (false || (backTo pos (starEach es env)).any (·.1)) = false
    rw [star_plain h.2]; rfl
section
variable {X : Cx} {z : Zx} {W : WX} {e : Expr} {es : List Expr} {ze : E} {zes : List E} {pos : Pos}
theorem s_nil : PA X [] (tEs z X.K W []) := PA.imp pa_nil fun σ H Q ⟨ρ, hs, σz, R, S, w⟩ => w ρ H [] R.refl R .nil'
theorem s_cons (hn : nsE e = true) (he : PE X e (tE z X.K W ze)) (hr : PA X es (tEs z X.K W zes)) : PA X (e :: es) (tEs z X.K W (ze :: zes)) := by
  refine PA.imp (pa_cons he hr (star_cons hn)) fun σ H Q ⟨ρ, hs, σz, R, S, w⟩ => ?_
  have w : wp (bnd (evalE z.C ze σz) (fun v => bnd (evalEs z.C zes σz) fun vs => ret (v :: vs)) hs) (PVs X.K ρ hs H Q) (PX X.K z ρ hs H (WE W σ)) := w
  refine stepE R S w fun ρ1 H1 hs1 vx x st R1 S1 rx w => stepEs R1 S1 w fun ρ2 H2 hs2 vs xs st2 R2 S2 rs _ w => ?_
  exact w ρ2 H2 _ (st.trans st2) R2 (.cons' (rx.on st2) rs)
theorem s_lst (h : PA X es (tEs z X.K W zes)) (hl : zes.length ≤ 1000) : PE X (.List es pos) (tE z X.K W (.lst zes)) := by
  refine PE.imp (pe_lst h) fun σ H Q ⟨ρ, hs, σz, R, S, w⟩ => stepEs R S w fun ρ1 H1 hs1 vs xs st R1 S1 rs hz w => ?_
  refine ⟨by rw [rs.length, hz, sizeLine_eq]; omega, fun p hp => alloc_lst (wp_mono w (fun _ _ q => PV.on q st) fun _ _ _ y => y) R1 rs hp⟩
theorem s_tup {x1} (h : PA X es (tEs z X.K W zes)) (hl : zes.length ≤ 1000) : PE X (.Tuple es x1 pos) (tE z X.K W (.tup zes)) := by
  refine ⟨fun pins s σ H Q I ⟨ρ, hs, σz, R, S, w⟩ => ?_⟩
  refine wpAny_Tuple_spliced (thn (h.run pos pins s σ H (fun xs H1 => xs.length ≤ sizeLine ∧ ∀ p ob, H1 p = none → BareO ob → Q (.ref p) (upd H1 p (.frz ob (.tup xs)))) I ?_) fun us s1 ⟨xs, H1, I1, r, hz, q⟩ => ⟨by rw [← r.length]; exact hz, end_tup I1 r hz q⟩)
  refine stepEs R S w fun ρ1 H1 hs1 vs xs st R1 S1 rs hz w => ⟨by rw [rs.length, hz, sizeLine_eq]; omega, fun p ob hp hb => ?_⟩
  exact PV.tup (PV.on w st) R1 rs hp hb
theorem s_dnew : PE X (.Dict [] [] pos) (tE z X.K W (.dctK [] [])) := by
  refine PE.imp pe_dnewK fun σ H Q ⟨ρ, hs, σz, R, S, w⟩ => ?_
  have w : wp (alloc (.dK []) hs) (PV X.K ρ hs H Q) (PX X.K z ρ hs H (WE W σ)) := w
  exact fun p hp => alloc_new w R hp (fun ρ' x t => ⟨[], upd_same, .nil⟩) fun _ _ => rfl
theorem s_var {i : Nat} {x : Str} (hN : X.N[i]? = some x) (hv : Vis X.env.scope x) (hd : (x == ("__debug__" : Str)) = false) (hcd : (x == ("__classdict__" : Str)) = false) : PE X (.Name x pos) (tE z X.K W (.var i)) := by
  refine PE.imp (pe_var hN hv hd hcd) fun σ H Q ⟨ρ, hs, σz, R, S, w⟩ => ?_
  have w : wp ((match σz[i]? with | some (some v) => ret v | _ => bad) hs) (PV X.K ρ hs H Q) (PX X.K z ρ hs H (WE W σ)) := w
  cases e : σz[i]? with
  | none => rw [e] at w; exact w.elim
  | some o =>
    cases o with
    | none => rw [e] at w; exact w.elim
    | some v =>
      rw [e] at w
      obtain ⟨u, h1, h2⟩ := S.2 i v e
      exact ⟨u, h1, PV.here w R h2⟩
theorem s_int {i : Int} {j} : PE X (.Constant (.int i) j pos) (tE z X.K W (.con (.int i))) := PE.imp pe_int fun σ H Q ⟨ρ, hs, σz, R, S, w⟩ => PV.here w R (repV_int.mpr rfl)
theorem s_bl {i : Bool} {j} : PE X (.Constant (.bool i) j pos) (tE z X.K W (.con (.bl i))) := PE.imp pe_bl fun σ H Q ⟨ρ, hs, σz, R, S, w⟩ => PV.here w R (repV_bl.mpr rfl)
theorem s_non {j} : PE X (.Constant .none j pos) (tE z X.K W (.con .non)) := PE.imp pe_non fun σ H Q ⟨ρ, hs, σz, R, S, w⟩ => PV.here w R (repV_non.mpr rfl)
theorem s_str {x : Str} {j} : PE X (.Constant (.str x) j pos) (tE z X.K W (.con (.str x))) := PE.imp pe_str fun σ H Q ⟨ρ, hs, σz, R, S, w⟩ => PV.here w R (repV_str.mpr rfl)
theorem s_rev {k : Nat} {p1 p2 p3 : Pos} (he : PE X e (tE z X.K W ze)) : PE X (.Subscript e (.Slice none none (some (.UnaryOp .USub (.Constant (.int 1) k p1) p2)) p3) pos) (tE z X.K W (.rev ze)) := by
  refine PE.imp (pe_revL he) fun σ H Q ⟨ρ, hs, σz, R, S, w⟩ => stepE R S w fun ρ1 H1 hs1 vx x st R1 S1 rx w => ?_
  cases vx <;> first | exact False.elim w | skip
  obtain ⟨o, g, w⟩ := wp_rd (wp_bnd.mp w)
  obtain ⟨p, rfl, _, b⟩ := R1.at rx g
  cases o with
  | lst vs => obtain ⟨xs, h1, r⟩ := row_of b; exact ⟨p, xs, rfl, h1, fun q hq => alloc_lst (wp_mono w (fun _ _ q => PV.on q st) fun _ _ _ y => y) R1 r.reverse hq⟩
  | ro vs => obtain ⟨xs, h1, r⟩ := row_ro b; exact ⟨p, xs, rfl, h1, fun q hq => alloc_lst (wp_mono w (fun _ _ q => PV.on q st) fun _ _ _ y => y) R1 r.reverse hq⟩
  | dK _ => exact w.elim
  | dT _ => exact w.elim
  | set _ => exact w.elim
/-! slices -/
def tO (z : Zx) (K : PySem.W.Frag) (W : WX) (out : Bool) (e : E) : TO := fun σ H Q => ∃ ρ hs σz, RelH K ρ hs H ∧ RelS ρ H σz σ ∧ wp (bnd (evalE z.C e σz) (partV out) hs) (fun o hs' => ∀ ρ' H', Stp ρ hs H ρ' hs' H' → RelH K ρ' hs' H' → Q o H') (PX K z ρ hs H (WE W σ))
theorem s_poN (hz : ze = .con .non) : PO X none (tO z X.K W ze.isNon ze) := by
  subst hz
  refine ⟨fun pins s σ H Q I ⟨ρ, hs, σz, R, S, w⟩ => ?_⟩
  exact po_none.run pins s σ H Q I (show Q none H from w ρ H R.refl R)
theorem s_poS (he : PE X e (tE z X.K W ze)) (hz : ze.isNon = false) : PO X (some e) (tO z X.K W ze.isNon ze) := by
  refine ⟨fun pins s σ H Q I ⟨ρ, hs, σz, R, S, w⟩ => (po_some he).run pins s σ H Q I ?_⟩
  rw [hz] at w
  refine stepE R S w fun ρ1 H1 hs1 vx x st R1 S1 rx w => ?_
  cases vx <;> first | exact False.elim w | skip
  rw [repV_int] at rx
  exact ⟨_, rx, w ρ1 H1 st R1⟩
theorem s_slice {lo hi : Option Expr} {zl zh : E} {p2 : Pos} (he : PE X e (tE z X.K W ze)) (hl : PO X lo (tO z X.K W zl.isNon zl)) (hh : PO X hi (tO z X.K W zh.isNon zh)) : PE X (.Subscript e (.Slice lo hi none p2) pos) (tE z X.K W (.sl ze zl zh)) := by
  refine PE.imp (pe_slice or_slice he hl hh) fun σ H Q ⟨ρ, hs, σz, R, S, w⟩ => stepE R S w fun ρ1 H1 hs1 vx x st R1 S1 rx w => ?_
  refine ⟨ρ1, hs1, σz, R1, S1, wp_bnd.mpr (wp_mono (wp_bnd.mp w) (fun v hs2 w1 => wp_mono (wp_bnd.mp w1) (fun l hs3 w2 ρ2 H2 st2 R2 => ?_) fun _ _ _ y => y) fun _ _ _ y => y)⟩
  refine ⟨ρ2, hs3, σz, R2, S1.on st2, wp_bnd.mpr (wp_mono (wp_bnd.mp w2) (fun v hs4 w3 => wp_mono (wp_bnd.mp w3) (fun u hs5 w4 ρ3 H3 st3 R3 => ?_) fun _ _ _ y => PX.on y st2) fun _ _ _ y => PX.on y st2)⟩
  exact ⟨ρ3, hs5, vx, R3, (rx.on st2).on st3, _, wp_mono w4 (fun _ _ q => PV.on q (st.trans (st2.trans st3))) fun _ _ _ y => y⟩
/-! calls of what is built in -/
theorem s_biB {b : Bi} {id : String} {x : Str} {p : Pos} (hc : CallR X (.builtin id) (denB X.K b)) (hg : Gl X x) (hm : X.mg x = none) (hv : bootBuiltins x = some (.builtin id)) (hn : x ≠ "__name__") (hdb : (x == ("__debug__" : Str)) = false)
    (hs : es.all nsE = true) (hes : nsE e = true) (ha : PA X (e :: es) (tEs z X.K W zes)) : PE X (.Call (.Name x p) (e :: es) [] pos) (tE z X.K W (.bi b zes)) :=
  PE.imp (pe_callB hc hg hm hv ha hn hdb (star_cons hes) (star_plain hs)) fun σ H Q ⟨ρ, hs, σz, R, S, w⟩ => stepEs R S w fun ρ1 H1 hs1 vs xs st R1 S1 rs _ w => denL_of R1 rs st w
theorem s_biT {b : Bi} {id : String} {x : Str} {p : Pos} (hc : CallR X (.type id) (denB X.K b)) (hg : Gl X x) (hm : X.mg x = none) (hv : bootBuiltins x = some (.type id)) (hn : x ≠ "__name__") (hdb : (x == ("__debug__" : Str)) = false)
    (hs : es.all nsE = true) (hes : nsE e = true) (ha : PA X (e :: es) (tEs z X.K W zes)) : PE X (.Call (.Name x p) (e :: es) [] pos) (tE z X.K W (.bi b zes)) := by
  refine ⟨fun pins s σ H Q I ⟨ρ, hs2, σz, R, S, w⟩ => ?_⟩
  refine Call_ (ld_blt I hg hm hv (PyProof.Rows.callWith_type1 (thn (ha.run pos pins s σ H (fun xs H1 => denB X.K b xs H1 Q) I ?_) fun us s1 ⟨vs, H1, I1, r1, q1⟩ => hc pins s1 σ H1 vs us Q I1 r1 q1) (star_cons hes) (star_plain hs)) hn hdb)
  exact stepEs R S w fun ρ1 H1 hs1 vs xs st R1 S1 rs _ w => denL_of R1 rs st w
end
end Z
-- ZS13
namespace Z
open PySem PySem.Spec PyProof.Rows L2
section
variable {X : Cx} {z : Zx} {W : WX} {e : Expr} {es : List Expr} {ze : E} {zes : List E} {pos : Pos}
/-! ## short rows of arguments -/
theorem bnd_assoc {α β γ : Type} (x : M α) (f : α → M β) (g : β → M γ) : bnd (bnd x f) g = bnd x fun a => bnd (f a) g := by
  funext h
  unfold bnd
  cases x h <;> rfl
theorem bnd_ret {α β : Type} (a : α) (f : α → M β) : bnd (ret a) f = f a := rfl
theorem evalEs_one {β : Type} {C : Nat → List Val → M Val} {a : E} {σz : Zt} {k : List Val → M β} : bnd (evalEs C [a] σz) k = bnd (evalE C a σz) fun v => k [v] := by
  show bnd (bnd (evalE C a σz) fun v => bnd (ret []) fun vs => ret (v :: vs)) k = _
  rw [bnd_assoc]
  rfl
theorem evalEs_two {β : Type} {C : Nat → List Val → M Val} {a b : E} {σz : Zt} {k : List Val → M β} : bnd (evalEs C [a, b] σz) k = bnd (evalE C a σz) fun u => bnd (evalE C b σz) fun v => k [u, v] := by
  show bnd (bnd (evalE C a σz) fun v => bnd (evalEs C [b] σz) fun vs => ret (v :: vs)) k = _
  rw [bnd_assoc]
  congr 1
  funext u
  rw [bnd_assoc, evalEs_one]
  rfl
/-! ## isinstance -/
/-- a name of a built-in type, as an expression -/
def IsTyN (X : Cx) (c : Expr) (n : String) : Prop := ∃ p, c = .Name (Str.ofString n) p ∧ Gl X (Str.ofString n) ∧ X.mg (Str.ofString n) = none ∧ bootBuiltins (Str.ofString n) = some (.type n) ∧ Str.ofString n ≠ "__name__" ∧ (Str.ofString n == ("__debug__" : Str)) = false
theorem IsTyN.ns {c : Expr} {n : String} (h : IsTyN X c n) : nsE c = true := by
  obtain ⟨p, rfl, _⟩ := h; rfl
theorem IsTyN.pe {c : Expr} {n : String} (h : IsTyN X c n) : PE X c (tC (.ty n)) := by
  obtain ⟨p, rfl, h1, h2, h3, h4, h5⟩ := h
  exact pe_bltn h1 h2 h3 rfl h4 h5
theorem s_isi1 {t : Ty} {c : Expr} {p : Pos} (hg : Gl X "isinstance") (hm : X.mg "isinstance" = none) (hn : nsE e = true) (he : PE X e (tE z X.K W ze)) (hc : IsTyN X c (tyS t)) :
    PE X (.Call (.Name "isinstance" p) [e, c] [] pos) (tE z X.K W (.bi (.isinst [t]) [ze])) := by
  have hcn : nsE c = true := hc.ns
  refine PE.imp (pe_callB call_isi hg hm (by decide +kernel) (pa_cons he (pa_cons hc.pe pa_nil (star_cons hcn)) (star_cons hn)) (by decide) (by decide) (star_cons hn) (star_plain (by rw [List.all_cons, hcn]; rfl))) fun σ H Q ⟨ρ, hs, σz, R, S, w⟩ => ?_
  have w : wp (bnd (evalEs z.C [ze] σz) (fun vs => builtin (.isinst [t]) vs) hs) (PV X.K ρ hs H Q) (PX X.K z ρ hs H (WE W σ)) := w
  rw [evalEs_one] at w
  refine stepE R S w fun ρ1 H1 hs1 vx x st R1 S1 rx w => ?_
  have w := wp_bnd.mp w
  have wt : wp (isTy t vx hs1) (fun _ _ => True) (fun _ _ _ => True) := wp_mono (wp_bnd.mp w) (fun _ _ _ => trivial) fun _ _ _ _ => trivial
  obtain ⟨n, hn, ty, k⟩ := tyx_of R1 rx wt
  obtain ⟨b, kb, wb⟩ := any_ty (K := X.K) hn k w
  have kone : PySem.W.kitOne X.K (.type n) (.type (tyS t)) = some (tyQ t n) := kit_ty (kit_all t n hn)
  have hb : b = tyQ t n := by
    have e1 : PySem.W.kitAny X.K (.type n) [.type (tyS t)] = some (tyQ t n) := kitAny_cons kone (fun q => by rw [q]; rfl) (fun q => q)
    have kb : PySem.W.kitAny X.K (.type n) [.type (tyS t)] = some b := kb
    rw [e1] at kb
    exact (Option.some.inj kb).symm
  exact ⟨x, .ty (tyS t), .type n, .type (tyS t), tyQ t n, rfl, .ty _, ty, kone, by rw [← hb]; exact wb ρ1 H1 _ st R1 (repV_bl.mpr rfl)⟩
theorem s_isiT {ts : List Ty} {cs : List Expr} {p p2 : Pos} {k2} (hg : Gl X "isinstance") (hm : X.mg "isinstance" = none) (hn : nsE e = true) (he : PE X e (tE z X.K W ze)) (hc : Paired (fun (t : Ty) (c : Expr) => IsTyN X c (tyS t)) ts cs) (h0 : ts ≠ []) (hl : ts.length ≤ 1000) :
    PE X (.Call (.Name "isinstance" p) [e, .Tuple cs k2 p2] [] pos) (tE z X.K W (.bi (.isinst ts) [ze])) := by
  have hcs : ∀ {ts : List Ty} {cs : List Expr}, Paired (fun (t : Ty) (c : Expr) => IsTyN X c (tyS t)) ts cs → PA X cs (fun _ H Q => Q (ts.map fun t => V.ty (tyS t)) H) := by
    intro ts cs h
    induction h with
    | nil => exact pa_nil
    | cons h1 _ ih =>
      exact pa_cons h1.pe ih (star_cons h1.ns)
  have cls : ∀ ts : List Ty, Paired ClsV (ts.map fun t => V.ty (tyS t)) (ts.map fun t => Value.type (tyS t)) := fun ts => by
    induction ts with
    | nil => exact .nil
    | cons t ts ih => exact .cons (.ty _) ih
  refine PE.imp (pe_callB call_isiT hg hm (by decide +kernel) (pa_cons he (pa_cons (pe_tup (hcs hc)) pa_nil (star_cons rfl)) (star_cons hn)) (by decide) (by decide) (star_cons hn) (star_plain rfl)) fun σ H Q ⟨ρ, hs, σz, R, S, w⟩ => ?_
  have w : wp (bnd (evalEs z.C [ze] σz) (fun vs => builtin (.isinst ts) vs) hs) (PV X.K ρ hs H Q) (PX X.K z ρ hs H (WE W σ)) := w
  rw [evalEs_one] at w
  refine stepE R S w fun ρ1 H1 hs1 vx x st R1 S1 rx w => ⟨by rw [List.length_map, sizeLine_eq]; omega, fun tp htp => ?_⟩
  have w := wp_bnd.mp w
  cases ts with
  | nil => exact absurd rfl h0
  | cons t ts =>
    have wt : wp (isTy t vx hs1) (fun _ _ => True) (fun _ _ _ => True) := wp_mono (wp_bnd.mp w) (fun _ _ _ => trivial) fun _ _ _ _ => trivial
    obtain ⟨n, hn, ty, k⟩ := tyx_of (R1.side (o := .tup ((t :: ts).map fun t => V.ty (tyS t))) htp) (rx.on (R1.sideS htp)) wt
    obtain ⟨b, kb, wb⟩ := any_ty (K := X.K) hn k w
    exact ⟨x, tp, (t :: ts).map fun t => V.ty (tyS t), .type n, _, b, rfl, upd_same, cls _, ty, kb, wb ρ1 _ _ (st.trans (R1.sideS htp)) (R1.side htp) (repV_bl.mpr rfl)⟩
/-! ## ranges as rows -/
theorem rgV_rep {ρ : Rho} {H : Hp} (a b : Int) : RepVs ρ H (rangeV a b) (rgV a b) := by
  have : ∀ l : List Nat, RepVs ρ H (l.map fun (k : Nat) => Val.int (a + (k : Int))) (l.map fun i => V.int (a + (i : Nat))) := fun l => by
    induction l with
    | nil => exact .nil'
    | cons x l ih => exact .cons' (repV_int.mpr rfl) ih
  exact this _
/-- the ranges that a built-in function takes -/
def tRg (z : Zx) (K : PySem.W.Frag) (W : WX) (es : List E) : L2.St → Hp → (Int → Int → Hp → Prop) → Prop := fun σ H Q => ∃ ρ hs σz, RelH K ρ hs H ∧ RelS ρ H σz σ ∧
  wp (bnd (evalEs z.C es σz) (fun vs => match vs with | [.int b] => ret (0, b) | [.int a, .int b] => ret (a, b) | _ => bad) hs) (fun ab hs' => ∀ ρ' H', Stp ρ hs H ρ' hs' H' → RelH K ρ' hs' H' → Q ab.1 ab.2 H') (PX K z ρ hs H (WE W σ))
theorem s_rg1 {p : Pos} (hg : Gl X "range") (hm : X.mg "range" = none) (hn : nsE e = true) (he : PE X e (tE z X.K W ze)) : PRg X (.Call (.Name "range" p) [e] [] pos) (tRg z X.K W [ze]) := by
  intro pins s σ H Q I ⟨ρ, hs, σz, R, S, w⟩
  refine prg_1 hg hm he (star_cons hn) pins s σ H Q I ?_
  rw [evalEs_one] at w
  refine stepE R S w fun ρ1 H1 hs1 vx x st R1 S1 rx w => ?_
  cases vx <;> first | exact False.elim w | skip
  exact ⟨_, repV_int.mp rx, w ρ1 H1 st R1⟩
theorem s_rg2 {e2 : Expr} {ze2 : E} {p : Pos} (hg : Gl X "range") (hm : X.mg "range" = none) (hn : nsE e = true) (hn2 : nsE e2 = true) (he : PE X e (tE z X.K W ze)) (he2 : PE X e2 (tE z X.K W ze2)) : PRg X (.Call (.Name "range" p) [e, e2] [] pos) (tRg z X.K W [ze, ze2]) := by
  intro pins s σ H Q I ⟨ρ, hs, σz, R, S, w⟩
  refine prg_2 hg hm he he2 (star_cons hn) (star_cons hn2) (star_plain (by rw [List.all_cons, hn2]; rfl)) pins s σ H Q I ?_
  rw [evalEs_two] at w
  refine stepE R S w fun ρ1 H1 hs1 vx x st R1 S1 rx w => stepE R1 S1 w fun ρ2 H2 hs2 vy y st2 R2 S2 ry w => ?_
  cases vx <;> cases vy <;> first | exact False.elim w | skip
  exact ⟨_, _, repV_int.mp rx, repV_int.mp ry, w ρ2 H2 (st.trans st2) R2⟩
theorem wp_rgs {b : Bi} {vs : List Val} {hs : Hs} {P : Val → Hs → Prop} {E : Nat → List Val → Hs → Prop} (hb : b = .listRange ∨ b = .tupleRange) (w : wp (builtin b vs hs) P E) :
    ∃ lo hi : Int, 0 ≤ lo ∧ lo ≤ 16777216 ∧ 0 ≤ hi ∧ hi ≤ 16777216 ∧ (match vs with | [.int b] => ret ((0 : Int), b) | [.int a, .int b] => ret (a, b) | _ => bad) hs = .ok (lo, hi) hs ∧ wp ((if b = .listRange then alloc (.lst (rangeV lo hi)) else ret (.tup (rangeV lo hi))) hs) P E := by
  rcases hb with rfl | rfl
  all_goals
    cases vs with
    | nil => exact w.elim
    | cons a t =>
      cases t with
      | nil =>
        cases a <;> first | exact False.elim w | skip
        obtain ⟨h1, w⟩ := wp_guard (wp_bnd.mp w)
        have h1 := of_decide_eq_true h1
        exact ⟨0, _, by omega, by omega, h1.1, h1.2, rfl, w⟩
      | cons b t =>
        cases t with
        | cons _ _ => cases a <;> cases b <;> exact w.elim
        | nil =>
          cases a <;> cases b <;> first | exact False.elim w | skip
          obtain ⟨h1, w⟩ := wp_guard (wp_bnd.mp w)
          have h1 := of_decide_eq_true h1
          exact ⟨_, _, h1.1, h1.2.1, h1.2.2.1, h1.2.2.2, rfl, w⟩
theorem s_listRg {p : Pos} (hc : X.calm = true) (hg : Gl X "list") (hm : X.mg "list" = none) (hn : nsE e = true) (he : PRg X e (tRg z X.K W zes)) : PE X (.Call (.Name "list" p) [e] [] pos) (tE z X.K W (.bi .listRange zes)) := by
  refine PE.imp (pe_listRg hc hg hm he (star_cons hn)) fun σ H Q ⟨ρ, hs, σz, R, S, w⟩ => ⟨ρ, hs, σz, R, S, wp_bnd.mpr (wp_mono (wp_bnd.mp w) (fun vs hs1 w1 => ?_) fun _ _ _ y => y)⟩
  obtain ⟨lo, hi, h1, h2, h3, h4, e1, w1⟩ := wp_rgs (.inl rfl) w1
  rw [e1]
  intro ρ' H' st R'
  exact ⟨RgOk.of_le h1 h4 h2 h3, fun q hq => alloc_lst (wp_mono w1 (fun _ _ y => PV.on y st) fun _ _ _ y => y) R' (rgV_rep _ _) hq⟩
theorem s_tupRg {p : Pos} (hc : X.calm = true) (hg : Gl X "tuple") (hm : X.mg "tuple" = none) (hn : nsE e = true) (he : PRg X e (tRg z X.K W zes)) : PE X (.Call (.Name "tuple" p) [e] [] pos) (tE z X.K W (.bi .tupleRange zes)) := by
  refine ⟨fun pins s σ H Q I ⟨ρ, hs, σz, R, S, w⟩ => ?_⟩
  have hq : tRg z X.K W zes σ H (fun a b H1 => RgOk a b ∧ ∀ q ob, H1 q = none → BareO ob → Q (.ref q) (upd H1 q (.frz ob (.tup (rgV a b))))) := by
    refine ⟨ρ, hs, σz, R, S, wp_bnd.mpr (wp_mono (wp_bnd.mp w) (fun vs hs1 w1 => ?_) fun _ _ _ y => y)⟩
    obtain ⟨lo, hi, h1, h2, h3, h4, e1, w1⟩ := wp_rgs (.inr rfl) w1
    rw [e1]
    intro ρ' H' st R'
    exact ⟨RgOk.of_le h1 h4 h2 h3, fun q ob hq hb => PV.tup (PV.on w1 st) R' (rgV_rep _ _) hq hb⟩
  refine Call_ (ld_blt I hg hm boot_tuple (PyProof.Rows.callWith_type1 (args_cons (thn (he pins s σ H _ I hq) fun x s1 ⟨r, a, b, t, u, v, H1, ex, hr, I1, ok, q⟩ => args_nil ?_) (star_cons hn)) (star_cons hn)))
  subst ex
  obtain ⟨b1, b2, b3, b4, b5⟩ := ok
  refine call_tuple_range (n := (b - a).toNat) (I1.ok.hd hc) hr (small_one b1 b2 b3 b4) (rangeSize_nat a b) b5 fun h' tk acc hk hi => ?_
  have I2 : Inv X pins σ H1 { s1 with heap := h', toks := tk } := I1.kept hk
  have z1 : (rgV a b).length ≤ sizeLine := by rw [rgV_length, sizeLine_eq]; omega
  have := end_tup (us := acc.toList) I2 (vals_rg hi) z1 (Q := Q) q
  rwa [Array.toArray_toList] at this
/-! ## sorted(set(..)) -/
def tSetI (K : PySem.W.Frag) (w : World) (te : TE) : TE := fun σ H Q => te σ H fun x H1 => ∃ (p : Addr) (ns : List Int), x = .ref p ∧ (SqL K H1 p (ns.map V.int) ∨ SqT K H1 p (ns.map V.int)) ∧ ns.length ≤ 60 ∧ ∀ a c, H1 a = none → c ≤ ns.length → Q (.ref a) (upd H1 a (SetO w a (fun j => decide (j ∈ ns)) c))
theorem pe_setI {te : TE} {p : Pos} (hc : X.calm = true) (hg : Gl X "set") (hm : X.mg "set" = none) (hn : nsE e = true) (he : PE X e te) : PE X (.Call (.Name "set" p) [e] [] pos) (tSetI X.K X.w te) := by
  refine ⟨fun pins s σ H Q I h => ?_⟩
  refine Call_ (ld_blt I hg hm (show bootBuiltins "set" = some (.type "set") by decide +kernel) (PyProof.Rows.callWith_type1 (args_cons (thn (he.run pins s σ H _ I h) fun x s1 ⟨v, H1, I1, r1, p0, ns, ev, hq, hl, q⟩ => args_nil ?_) (star_cons hn)) (star_cons hn)))
  subst ev
  cases r1
  have fin : ∀ (h' : Heap) (tk c : Nat), SetR X.w h' s1.heap.objs.size (fun j => decide (j ∈ ns)) c → c ≤ ns.length → (∀ b o, s1.heap.get? b = some o → h'.get? b = some o) → EP X pins σ Q (.ref s1.heap.objs.size) { s1 with heap := h', toks := tk } := fun h' tk c hR hcn hk =>
    ⟨.ref s1.heap.objs.size, upd H1 s1.heap.objs.size (SetO X.w s1.heap.objs.size (fun j => decide (j ∈ ns)) c), I1.laid (t' := tk) hk (Nat.le_refl _) (setO_new hR), rfl, q _ c (I1.hok.fresh (Nat.le_refl _)) hcn⟩
  rcases hq with hq | hq
  · obtain ⟨its, rv, pl, hz⟩ := I1.list hq
    exact call_set_listI ns (I1.ok.hd hc) pl.isList (by simpa using rv.ints) (by unfold scanBound; omega) fin
  · obtain ⟨its, rv, pl, hz⟩ := I1.tuple hq
    exact call_set_tupI ns (I1.ok.hd hc) pl (by simpa using rv.ints) (by unfold scanBound; omega) fin
theorem s_sortedSet {p p2 pos2 : Pos} (hc : X.calm = true) (hg : Gl X "sorted") (hm : X.mg "sorted" = none) (hg2 : Gl X "set") (hm2 : X.mg "set" = none) (hn : nsE e = true) (he : PE X e (tE z X.K W ze)) :
    PE X (.Call (.Name "sorted" p) [.Call (.Name "set" p2) [e] [] pos2] [] pos) (tE z X.K W (.bi .sortedSet [ze])) := by
  refine PE.imp (pe_callB (cr_sortedSet hc) hg hm (by decide +kernel) (pa_cons (pe_setI hc hg2 hm2 hn he) pa_nil (star_cons rfl)) (by decide) (by decide) (star_cons rfl) (star_plain rfl)) fun σ H Q ⟨ρ, hs, σz, R, S, w⟩ => ?_
  have w : wp (bnd (evalEs z.C [ze] σz) (fun vs => builtin .sortedSet vs) hs) (PV X.K ρ hs H Q) (PX X.K z ρ hs H (WE W σ)) := w
  rw [evalEs_one] at w
  refine stepE R S w fun ρ1 H1 hs1 vx x st R1 S1 rx w => ?_
  obtain ⟨p, vs, xs, rfl, hp, r, w⟩ := wp_items R1 rx (wp_bnd.mp w)
  cases e1 : intsOf vs with
  | none => rw [e1] at w; exact w.elim
  | some ns =>
    rw [e1] at w
    obtain ⟨h1, w⟩ := wp_guard (wp_bnd.mp w)
    rw [intsOf_is e1] at r
    rw [r.ints] at hp
    have hl := of_decide_eq_true h1
    refine ⟨p, ns, rfl, by rcases hp with hp | ⟨_, hp⟩; exact .inl hp; exact .inr hp.sq, hl, fun a c ha hcn => ⟨a, _, c, rfl, upd_same, by omega, fun ms q h2 h3 h4 hq => ?_⟩⟩
    have e2 : ms = sortI (dedupI ns) := asc_ext h2 (sortI_asc (nodup_dedupI ns)) fun k => by
      rw [h3, decide_eq_true_eq, (sortI_perm (dedupI ns)).mem_iff, mem_dedupI]
    subst e2
    have hqa : q ≠ a := fun e => by rw [e, upd_same] at hq; cases hq
    have st2 := R1.sideS (o := SetO X.w a (fun j => decide (j ∈ ns)) c) ha
    exact alloc_lst (wp_mono w (fun _ _ y => PV.on (PV.on y st) st2) fun _ _ _ y => y) (R1.side ha) (RepVs.of_ints _) hq
end
end Z
-- ZS14
namespace Z
open PySem PySem.Spec PyProof.Rows L2
section
variable {X : Cx} {z : Zx} {W : WX} {e o a b c : Expr} {es : List Expr} {ze zo ea eb ec : E} {zes : List E} {pos : Pos}
/-! ## methods -/
theorem star_few : ∀ {es : List Expr} {env : Env} {pos : Pos}, es.all nsE = true → (backTo pos (starEach es env)).all (fun x => !x.1) = true
  | [], _, _, _ => rfl
  | e :: es, env, pos, h => by
    rw [List.all_cons, Bool.and_eq_true] at h
    rw [star_cons h.1]
    show (!false && (backTo pos (starEach es env)).all (fun x => !x.1)) = true
    rw [star_few h.2]; rfl
theorem s_me {m : Me} {apos cpos : Pos} (hu : X.A.units + 200 < cLine) (hbase : attributeBase o (Str.ofString (meS m)) X.env (eval o X.env) = eval o X.env) (hline : (apos.endLine == cpos.line) = true) (hs : es.all nsE = true) (hl : es.length < 29) (h0 : es = [] → zes = [])
    (ho : PE X o (tE z X.K W zo)) (ha : PA X es (tEs z X.K W zes)) : PE X (.Call (.Attribute o (Str.ofString (meS m)) apos) es [] cpos) (tE z X.K W (.me m zo zes)) := by
  refine ⟨fun pins s σ H Q I ⟨ρ, hs0, σz, R, S, w⟩ => ?_⟩
  have hfew : ((backTo cpos (starEach es X.env)).all (fun x => !x.1) && (backToKw cpos (keywordEach [] X.env)).all (fun x => x.1.isSome) && decide (es.length + ([] : List Keyword).length + (if ([] : List Keyword).isEmpty then 0 else 1) < 30)) = true := by
    rw [star_few hs, show decide (es.length + ([] : List Keyword).length + (if ([] : List Keyword).isEmpty then 0 else 1) < 30) = true from decide_eq_true (by show es.length + 0 + 0 < 30; omega)]
    rfl
  refine wpAny_Call_method_late hbase hfew hline rfl (thn (ho.run pins s σ H (fun x H1 => ∃ ρ1 hs1 vx, RelH X.K ρ1 hs1 H1 ∧ RelS ρ1 H1 σz σ ∧ RepV ρ1 H1 vx x ∧ Stp ρ hs0 H ρ1 hs1 H1 ∧
      wp (bnd (kdOf m vx) (fun k => bnd (evalEs z.C zes σz) fun vs => meth m k vx vs) hs1) (PV X.K ρ hs0 H Q) (PX X.K z ρ1 hs1 H1 (WE W σ))) I
    (stepE R S w fun ρ1 H1 hs1 vx x st R1 S1 rx w => ⟨ρ1, hs1, vx, R1, S1, rx, st, w⟩)) fun v s1 ⟨x, H1, I1, r1, ρ1, hs1, vx, R1, S1, rx, st, w⟩ => ?_)
  obtain ⟨k, hk, w, t1, t2⟩ := kd_is I1 R1 rx r1 (wp_bnd.mp w)
  obtain ⟨id, so, hm⟩ := meth_ok (X := X) hu hk
  refine ⟨kdS k, id, so.pa, so.slot, so.ty, t1, t2, ?_⟩
  have hA := ha.run cpos pins s1 σ H1 (fun xs H2 => denM X.K m k x xs H2 Q) I1 (stepEs R1 S1 w fun ρ2 H2 hs2 vs xs st2 R2 S2 rs _ w => ⟨ρ2, hs2, vx, vs, R2, rx.on st2, rs, _, wp_mono w (fun _ _ q => PV.on q (st.trans st2)) fun _ _ _ y => y⟩)
  cases es with
  | nil =>
    refine Calls.callWith_builtin rfl (PySem.evalArgs_none ?_)
    rw [h0 rfl] at w
    have w : wp (meth m k vx [] hs1) (PV X.K ρ hs0 H Q) (PX X.K z ρ1 hs1 H1 (WE W σ)) := w
    exact hm pins s1 σ H1 x [] v [] Q I1 r1 .nil ⟨ρ1, hs1, vx, [], R1, rx, .nil', _, wp_mono w (fun _ _ q => PV.on q st) fun _ _ _ y => y⟩
  | cons e es =>
    rw [List.all_cons, Bool.and_eq_true] at hs
    rw [star_cons hs.1] at hA ⊢
    refine Calls.callWith_builtin (by show (false || (backTo cpos (starEach es X.env)).any (·.1)) = false; rw [star_plain hs.2]; rfl) (Calls.evalArgs_plain ?_)
    exact thn hA fun us s2 ⟨vs, H2, I2, r2, q2⟩ => hm pins s2 σ H2 x vs v us Q I2 r1 r2 q2
/-! ## calls of defs -/
def spZ (z : Zx) (K : PySem.W.Frag) (f np : Nat) : Sp := fun xs H Q E => xs.length = np ∧ ∃ ρ hs vs, RelH K ρ hs H ∧ RepVs ρ H vs xs ∧ wp (z.C f vs hs) (PV K ρ hs H Q) (PX K z ρ hs H E)
structure CallOk (X : Cx) (z : Zx) (x : Str) (f np : Nat) : Prop where
  ex : ∃ (k : Nat) (fa : Addr) (fd : FuncData) (ps : List Str), FnOk X.prog X.w X.K X.mg X.base (L2.CX X.prog X.w) k fa fd ps (spZ z X.K f np) ∧ Room k X.A ∧ X.mg x = some (.ref fa) ∧ PySem.W.keepIn X.K (.ref fa) = true ∧ Binds X.K fd ps []
theorem s_call {x : Str} {f np : Nat} {p : Pos} (tk : Takes X W) (ok : CallOk X z x f np) (hg : Gl X x) (hdb : (x == ("__debug__" : Str)) = false) (hes : nsE e = true) (hs : es.all nsE = true) (hl : zes.length = np) (ha : PA X (e :: es) (tEs z X.K W zes)) :
    PE X (.Call (.Name x p) (e :: es) [] pos) (tE z X.K W (.call f zes)) := by
  obtain ⟨k, fa, fd, ps, F, hr, hm, hk, hb⟩ := ok.ex
  refine PE.imp (pe_callS F hr hg hm hk hb (passAt tk) ha hdb (star_cons hes) (star_plain hs)) fun σ H Q ⟨ρ, hs, σz, R, S, w⟩ => stepEs R S w fun ρ1 H1 hs1 vs xs st R1 S1 rs hz w => ?_
  exact ⟨by rw [rs.length, hz, hl], ρ1, hs1, vs, R1, rs, wp_mono w (fun _ _ q => PV.on q st) fun _ _ _ y => y⟩
/-! ## tests -/
theorem cmp_bl {op : Cop} {x y : Val} {hs : Hs} {P : Val → Hs → Prop} {F : Nat → List Val → Hs → Prop} (w : wp (cmpop op x y hs) P F) : wp (cmpop op x y hs) (fun v h => (∃ t, v = .bl t) ∧ P v h) F := by
  have go : ∀ {m : M Bool} {f : Bool → Bool}, wp (bnd m (fun b => ret (.bl (f b))) hs) P F → wp (bnd m (fun b => ret (.bl (f b))) hs) (fun v h => (∃ t, v = .bl t) ∧ P v h) F := fun {m f} w =>
    wp_bnd.mpr (wp_mono (wp_bnd.mp w) (fun b h p => ⟨⟨_, rfl⟩, p⟩) fun _ _ _ q => q)
  cases op
  · exact go (f := id) w
  · exact go (f := fun b => !b) w
  · exact go (f := id) w
  · exact go (f := fun b => !b) w
  · exact go (f := id) w
  · exact go (f := fun b => !b) w
  · cases y <;> first | exact w.elim | exact ⟨⟨_, rfl⟩, w⟩
  · cases y <;> first | exact w.elim | exact ⟨⟨_, rfl⟩, w⟩
  · exact go (f := id) w
  · exact go (f := fun b => !b) w
theorem s_cmpT {op : Cop} (hu : X.A.units + 200 < cLine) (ha : PE X a (tE z X.K W ea)) (hb : PE X b (tE z X.K W eb)) (hn : ∀ es k p, b ≠ .Set es k p) : PT X (.Compare a [pyCmp op] [b] pos) (tT z X.K W (.cmp op ea eb)) := by
  refine PT.imp (pt_cmpR (or_cmp hu op) ha hb (nomarkC hn)) fun σ H Q ⟨ρ, hs, σz, R, S, w⟩ => ?_
  have w : wp (bnd (bnd (evalE z.C ea σz) fun x => bnd (evalE z.C eb σz) fun y => cmpop op x y) truth hs) (PB X.K ρ hs H Q) (PX X.K z ρ hs H (WE W σ)) := w
  rw [bnd_assoc] at w
  refine stepE R S w fun ρ1 H1 hs1 vx x st R1 S1 rx w => ?_
  rw [bnd_assoc] at w
  refine stepE R1 S1 w fun ρ2 H2 hs2 vy y st2 R2 S2 ry w => ⟨ρ2, hs2, vx, vy, R2, rx.on st2, ry, _, wp_mono (cmp_bl (wp_bnd.mp w)) (fun v hs3 ⟨⟨t, e⟩, w⟩ ρ3 H3 v' st3 R3 rv => ?_) fun _ _ _ y => y⟩
  subst e
  exact ⟨t, repV_bl.mp rv, w ρ3 H3 (st.trans (st2.trans st3)) R3⟩
theorem s_chainT {op op2 : Cop} (hu : X.A.units + 200 < cLine) (ha : PE X a (tE z X.K W ea)) (hb : PE X b (tE z X.K W eb)) (hc : PE X c (tE z X.K W ec)) (hn : ∀ es k p, c ≠ .Set es k p) : PT X (.Compare a [pyCmp op, pyCmp op2] [b, c] pos) (tT z X.K W (.chain op op2 ea eb ec)) := by
  refine PT.imp (pt_chain (or_cmp hu op) (or_cmp hu op2) ha hb hc (lastMarksC hn)) fun σ H Q ⟨ρ, hs, σz, R, S, w⟩ => ?_
  have w : wp (bnd (bnd (evalE z.C ea σz) fun x => bnd (evalE z.C eb σz) fun y => bnd (cmpop op x y) fun q => andV q (bnd (evalE z.C ec σz) fun u => cmpop op2 y u)) truth hs) (PB X.K ρ hs H Q) (PX X.K z ρ hs H (WE W σ)) := w
  rw [bnd_assoc] at w
  refine stepE R S w fun ρ1 H1 hs1 vx x st R1 S1 rx w => ?_
  rw [bnd_assoc] at w
  refine stepE R1 S1 w fun ρ2 H2 hs2 vy y st2 R2 S2 ry w => ?_
  rw [bnd_assoc] at w
  refine ⟨ρ2, hs2, vx, vy, R2, rx.on st2, ry, _, wp_mono (wp_bnd.mp w) (fun v hs3 w ρ3 H3 v' st3 R3 rv => ?_) (fun _ _ _ y => y)⟩
  obtain ⟨t, rfl, w2⟩ := wp_andV (wp_bnd.mp w)
  refine ⟨t, repV_bl.mp rv, ?_⟩
  cases t with
  | false =>
    rw [if_neg (by decide)] at w2 ⊢
    exact ⟨false, rfl, w2 ρ3 H3 (st.trans (st2.trans st3)) R3⟩
  | true =>
    rw [if_pos rfl] at w2 ⊢
    refine stepE R3 (S2.on st3) (wp_mono w2 (fun _ _ y => y) fun _ _ _ y => PX.on y st3) fun ρ4 H4 hs4 vw w' st4 R4 S4 rw' w => ?_
    refine ⟨ρ4, hs4, vy, vw, R4, (ry.on st3).on st4, rw', _, wp_mono (cmp_bl w) (fun v hs5 ⟨⟨t, e⟩, w⟩ ρ5 H5 v5 st5 R5 rv5 => ?_) fun _ _ _ y => y⟩
    subst e
    exact ⟨t, repV_bl.mp rv5, w ρ5 H5 (st.trans (st2.trans (st3.trans (st4.trans st5)))) R5⟩
theorem s_and1 (ha : PT X a (tT z X.K W ea)) : PW X (.BoolOp .And [a] pos) (tT z X.K W ea) := pw_and1 ha
theorem s_or1 (ha : PT X a (tT z X.K W ea)) : PW X (.BoolOp .Or [a] pos) (tT z X.K W ea) := pw_or1 ha
theorem s_andT {r : List Expr} (ha : PT X a (tT z X.K W ea)) (hb : PW X (.BoolOp .And (b :: r) pos) (tT z X.K W eb)) : PW X (.BoolOp .And (a :: b :: r) pos) (tT z X.K W (.and ea eb)) := by
  refine PW.imp (pw_and ha hb) fun σ H Q ⟨ρ, hs, σz, R, S, w⟩ => ?_
  have w : wp (bnd (bnd (evalE z.C ea σz) fun x => andV x (evalE z.C eb σz)) truth hs) (PB X.K ρ hs H Q) (PX X.K z ρ hs H (WE W σ)) := w
  rw [bnd_assoc] at w
  have w : wp (bnd (evalE z.C ea σz) (fun v => bnd (truth v) fun t => if t then bnd (evalE z.C eb σz) truth else ret false) hs) (PB X.K ρ hs H Q) (PX X.K z ρ hs H (WE W σ)) := by
    refine wp_bnd.mpr (wp_mono (wp_bnd.mp w) (fun v hs1 w1 => ?_) fun _ _ _ y => y)
    cases v <;> first | exact False.elim w1 | skip
    rename_i t
    cases t
    · exact w1
    · exact w1
  refine stepT R S w fun ρ1 H1 hs1 t st R1 S1 w => ?_
  cases t with
  | true => rw [if_pos rfl] at w ⊢; exact ⟨ρ1, hs1, σz, R1, S1, wp_mono w (fun _ _ q => PB.on q st) fun _ _ _ y => y⟩
  | false => rw [if_neg (by decide)] at w ⊢; exact w ρ1 H1 st R1
theorem s_orT {r : List Expr} (ha : PT X a (tT z X.K W ea)) (hb : PW X (.BoolOp .Or (b :: r) pos) (tT z X.K W eb)) : PW X (.BoolOp .Or (a :: b :: r) pos) (tT z X.K W (.or ea eb)) := by
  refine PW.imp (pw_or ha hb) fun σ H Q ⟨ρ, hs, σz, R, S, w⟩ => ?_
  have w : wp (bnd (bnd (evalE z.C ea σz) fun x => orV x (evalE z.C eb σz)) truth hs) (PB X.K ρ hs H Q) (PX X.K z ρ hs H (WE W σ)) := w
  rw [bnd_assoc] at w
  have w : wp (bnd (evalE z.C ea σz) (fun v => bnd (truth v) fun t => if t then ret true else bnd (evalE z.C eb σz) truth) hs) (PB X.K ρ hs H Q) (PX X.K z ρ hs H (WE W σ)) := by
    refine wp_bnd.mpr (wp_mono (wp_bnd.mp w) (fun v hs1 w1 => ?_) fun _ _ _ y => y)
    cases v <;> first | exact False.elim w1 | skip
    rename_i t
    cases t
    · exact w1
    · exact w1
  refine stepT R S w fun ρ1 H1 hs1 t st R1 S1 w => ?_
  cases t with
  | false => rw [if_neg (by decide)] at w ⊢; exact ⟨ρ1, hs1, σz, R1, S1, wp_mono w (fun _ _ q => PB.on q st) fun _ _ _ y => y⟩
  | true => rw [if_pos rfl] at w ⊢; exact w ρ1 H1 st R1
end
end Z
-- ZS15
namespace Z
open PySem PySem.Spec PyProof.Rows L2
/-! # Things that stand aside -/
section
variable {K : PySem.W.Frag} {ρ ρ' : Rho} {hs hs' : Hs} {H H' : Hp} {D : Addr}
theorem RelH.side2 {o : HO} (R : RelH K ρ hs H) (nt : ¬ Told ρ hs D) {xs : List V} (hD : H D = some (.lst xs)) : RelH K ρ hs (upd H D o) := by
  have mu : Mut (H D) := by rw [hD]; trivial
  refine ⟨R.ne, R.shape, fun d i w e => ?_, R.wf, R.inj⟩
  obtain ⟨a, h1, h2⟩ := R.ob d i w e
  refine ⟨a, h1, ?_⟩
  by_cases hw : w.isRo = true
  · cases w with
    | ro vs =>
      obtain ⟨ys, g1, g2⟩ := h2
      refine ⟨ys, ?_, RepVs.mono (RX.refl _) (tupX_mut mu) _ _ g2⟩
      rcases g1 with ⟨ob, h⟩ | h
      · have hne : a ≠ D := fun z => by subst z; rw [hD] at h; cases h
        exact .inl ⟨ob, by rw [upd_ne hne]; exact h⟩
      · exact .inr h
    | lst _ => simp [Ob.isRo] at hw
    | dK _ => simp [Ob.isRo] at hw
    | dT _ => simp [Ob.isRo] at hw
    | set _ => simp [Ob.isRo] at hw
  · have hne : a ≠ D := fun z => nt ⟨d, i, w, e, by simpa using hw, by rw [← z]; exact h1⟩
    exact ObRep.mono (RX.refl _) (tupX_mut mu) (fun v hv => by rw [upd_ne hne]; exact hv) h2
theorem Stp.side2 {o : HO} (s : Stp ρ hs H ρ' hs' H') (h : H D = none) (mu : Mut (H' D)) : Stp ρ hs H ρ' hs' (upd H' D o) :=
  ⟨s.grow, s.tup.trans (tupX_mut mu), fun a u e n => by
    obtain ⟨h1, h2⟩ := s.kp a u e n
    have : a ≠ D := fun z => by rw [z, h] at e; cases e
    exact ⟨by rw [upd_ne this]; exact h1, h2⟩⟩
theorem told_snoc {r : List Addr} {rr : Rho} {q : List Ob} {rest : Hs} {o : Ob} {a : Addr} (hl : r.length = q.length) (hn : rr.length = rest.length) (t : Told ((r ++ [D]) :: rr) ((q ++ [o]) :: rest) a) : Told (r :: rr) (q :: rest) a ∨ a = D := by
  obtain ⟨d, i, w, h1, h2, h3⟩ := t
  rw [get_cons] at h1
  rw [rget_cons] at h3
  by_cases hd : d = rest.length
  · rw [if_pos hd] at h1
    rw [if_pos (hd.trans hn.symm)] at h3
    by_cases hi : i < q.length
    · rw [List.getElem?_append_left hi] at h1
      rw [List.getElem?_append_left (by omega)] at h3
      exact .inl ⟨d, i, w, by rw [get_cons, if_pos hd]; exact h1, h2, by rw [rget_cons, if_pos (hd.trans hn.symm)]; exact h3⟩
    · rw [List.getElem?_append_right (by omega)] at h3
      have h4 := (List.getElem?_eq_some_iff.mp h3).1
      simp at h4
      have : i - r.length = 0 := by omega
      rw [this] at h3
      simp at h3
      exact .inr h3.symm
  · rw [if_neg hd] at h1
    rw [if_neg (fun z => hd (z.trans hn))] at h3
    exact .inl ⟨d, i, w, by rw [get_cons, if_neg hd]; exact h1, h2, by rw [rget_cons, if_neg (fun z => hd (z.trans hn))]; exact h3⟩
/-- what stood aside is told from now on -/
theorem RelH.tell {r : List Addr} {rr : Rho} {q : List Ob} {rest : Hs} {o : Ob} (R : RelH K (r :: rr) (q :: rest) H) (nt : ¬ Told (r :: rr) (q :: rest) D) (ho : ObRep K ((r ++ [D]) :: rr) H D o) (hro : o.isRo = false) (ok : o.okAt rest.length = true) :
    RelH K ((r ++ [D]) :: rr) ((q ++ [o]) :: rest) H := by
  have hl : r.length = q.length := by have := R.shape; simp only [List.map_cons, List.cons.injEq] at this; exact this.1
  have hn : rr.length = rest.length := by have := R.len; simpa using this
  have g : Grow (r :: rr) ((r ++ [D]) :: rr) := ⟨r, [D], rr, rfl, rfl⟩
  have old : ∀ d i w, get ((q ++ [o]) :: rest) d i = some w → (get (q :: rest) d i = some w) ∨ (d = rest.length ∧ i = q.length ∧ w = o) := fun d i w e => by
    rw [get_cons] at e
    by_cases hd : d = rest.length
    · rw [if_pos hd] at e
      by_cases hi : i < q.length
      · rw [List.getElem?_append_left hi] at e
        exact .inl (by rw [get_cons, if_pos hd]; exact e)
      · rw [List.getElem?_append_right (by omega)] at e
        have : i - q.length = 0 := by
          have h1 := (List.getElem?_eq_some_iff.mp e).1
          simp at h1; omega
        rw [this] at e
        simp at e
        exact .inr ⟨hd, by omega, e.symm⟩
    · rw [if_neg hd] at e
      exact .inl (by rw [get_cons, if_neg hd]; exact e)
  have newAt : rget ((r ++ [D]) :: rr) rest.length q.length = some D := by
    rw [rget_cons, if_pos hn.symm, ← hl]; simp
  refine ⟨by simp, by have := R.shape; simp only [List.map_cons, List.cons.injEq] at this ⊢; exact ⟨by simp [this.1], this.2⟩, fun d i w e => ?_, fun d i w e => ?_, fun d i w e' j v a h1 h2 n1 n2 a1 a2 => ?_⟩
  · rcases old d i w e with e | ⟨rfl, rfl, rfl⟩
    · obtain ⟨a, h1, h2⟩ := R.ob d i w e
      exact ⟨a, g.rx _ _ _ h1, ObRep.mono g.rx (TupX.refl _) (fun _ h => h) h2⟩
    · exact ⟨D, newAt, ho⟩
  · rcases old d i w e with e | ⟨rfl, rfl, rfl⟩
    · exact R.wf d i w e
    · exact ok
  · have key : ∀ {d i w a}, get (q :: rest) d i = some w → w.isRo = false → rget ((r ++ [D]) :: rr) d i = some a → rget (r :: rr) d i = some a ∧ a ≠ D := fun {d i w a} h n ha => by
      obtain ⟨a', b1, _⟩ := R.ob d i w h
      have c1 := g.rx _ _ _ b1
      rw [ha] at c1; cases c1
      exact ⟨b1, fun z => nt ⟨d, i, w, h, n, by rw [← z]; exact b1⟩⟩
    rcases old d i w h1 with h1 | ⟨rfl, rfl, ew⟩
    · obtain ⟨b1, c1⟩ := key h1 n1 a1
      rcases old e' j v h2 with h2 | ⟨rfl, rfl, ev⟩
      · exact R.inj d i w e' j v _ h1 h2 n1 n2 b1 (key h2 n2 a2).1
      · rw [newAt] at a2; cases a2; exact absurd rfl c1
    · rcases old e' j v h2 with h2 | ⟨rfl, rfl, ev⟩
      · obtain ⟨b1, c1⟩ := key h2 n2 a2
        rw [newAt] at a1; cases a1; exact absurd rfl c1
      · exact ⟨rfl, rfl⟩
/-- the end of a row that was built aside -/
theorem tell_end {ρ0 ρ1 : Rho} {hs0 hs1 : Hs} {H0 H1 : Hp} {Q : VK} {zs : List Val} {xs : List V} {E : Nat → List Val → Hs → Prop} (w : wp (alloc (.lst zs) hs') (PV K ρ0 hs0 H0 Q) E) (st0 : Stp ρ0 hs0 H0 ρ1 hs1 H1) (h1 : H1 D = none) (st : Stp ρ1 hs1 H1 ρ' hs' H')
    (R : RelH K ρ' hs' H') (hD : H' D = some (.lst xs)) (nt : ¬ Told ρ' hs' D) (r : RepVs ρ' H' zs xs) : Q (.ref D) H' := by
  obtain ⟨q, rest, rfl, w⟩ := wp_alloc w
  cases ρ' with
  | nil => exact absurd rfl R.ne
  | cons rc rr =>
    have hl : rc.length = q.length := by have := R.shape; simp only [List.map_cons, List.cons.injEq] at this; exact this.1
    have hn : rr.length = rest.length := by have := R.len; simpa using this
    have g : Grow (rc :: rr) ((rc ++ [D]) :: rr) := ⟨rc, [D], rr, rfl, rfl⟩
    have R2 := R.tell (o := .lst zs) nt ⟨xs, hD, RepVs.mono g.rx (TupX.refl _) _ _ r⟩ rfl (by show (List.all _ _) = true; exact RepVs.okAll (by simp [hn]) r)
    have st2 := st0.trans st
    refine w _ _ _ ⟨st2.grow.trans g, st2.tup, fun a u e n => ?_⟩ R2 (repV_loc.mpr ⟨D, rfl, ?_⟩)
    · obtain ⟨e1, n1⟩ := st0.kp a u e n
      have ne : a ≠ D := fun z => by rw [z, h1] at e1; cases e1
      obtain ⟨e2, n2⟩ := st.kp a u e1 n1
      exact ⟨e2, fun t => (told_snoc hl hn t).elim n2 ne⟩
    · rw [rget_cons, if_pos hn.symm, ← hl]
      simp
end
/-! # Targets -/
mutual
def T.ixs : T → List Nat
  | .nm i => [i]
  | .tp ts => T.ixss ts
def T.ixss : List T → List Nat
  | [] => []
  | t :: ts => t.ixs ++ T.ixss ts
end
def RepT (K : PySem.W.Frag) (ρ : Rho) (H : Hp) : T → Val → V → Prop
  | .nm _, v, x => RepV ρ H v x
  | .tp _, v, x => ∀ vs, v = .tup vs → ∃ a xs, x = .ref a ∧ SqT K H a xs ∧ RepVs ρ H vs xs
theorem RepV.toT {K : PySem.W.Frag} {ρ : Rho} {H : Hp} {v : Val} {x : V} (h : RepV ρ H v x) : ∀ t : T, RepT K ρ H t v x
  | .nm _ => h
  | .tp _ => fun vs e => by
    subst e
    obtain ⟨a, xs, e1, t, r⟩ := repV_tup.mp h
    exact ⟨a, xs, e1, t.sq, r⟩
def Off (is : List Nat) (σ σ' : L2.St) : Prop := σ'.length = σ.length ∧ ∀ i, i ∉ is → σ'[i]? = σ[i]?
theorem Off.refl (is : List Nat) (σ : L2.St) : Off is σ σ := ⟨rfl, fun _ _ => rfl⟩
theorem Off.trans {is js : List Nat} {σ σ1 σ2 : L2.St} (a : Off is σ σ1) (b : Off js σ1 σ2) : Off (is ++ js) σ σ2 :=
  ⟨b.1.trans a.1, fun i h => by rw [List.mem_append, not_or] at h; exact (b.2 i h.2).trans (a.2 i h.1)⟩
theorem wipe_at {σ : L2.St} : ∀ {vs : List Nat} {i : Nat}, i ∉ vs → (L2.wipe σ vs)[i]? = σ[i]? := fun {vs i} h => L2.wipe_out h
theorem wipe_in {σ : L2.St} : ∀ {vs : List Nat} {i : Nat}, i ∈ vs → (L2.wipe σ vs)[i]? = if i < σ.length then some none else none
  | v :: vs, i, h => by
    unfold L2.wipe
    by_cases e : v = i
    · subst e
      by_cases hl : v < σ.length
      · rw [if_pos hl, List.getElem?_set_self (by rw [L2.wipe_length]; exact hl)]
      · rw [if_neg hl, List.getElem?_eq_none (by rw [List.length_set, L2.wipe_length]; omega)]
    · rw [List.getElem?_set_ne e]
      exact wipe_in ((List.mem_cons.mp h).resolve_left fun q => e q.symm)
theorem wipe_off {is vs : List Nat} {σ σ' : L2.St} (h : Off is (L2.wipe σ vs) σ') (hi : ∀ i ∈ is, i ∈ vs) : L2.wipe σ' vs = L2.wipe σ vs := by
  have hlen : σ'.length = σ.length := by rw [h.1, L2.wipe_length]
  apply List.ext_getElem?
  intro i
  by_cases hv : i ∈ vs
  · rw [wipe_in hv, wipe_in hv, hlen]
  · rw [wipe_at hv, wipe_at hv, h.2 i fun q => hv (hi i q), wipe_at hv]
def gZ (K : PySem.W.Frag) (t : T) : TG := fun x σ H Q => ∃ ρ hs σz v, RelH K ρ hs H ∧ RelS ρ H σz σ ∧ RepT K ρ H t v x ∧ ∃ E, wp (bindT t v σz hs) (fun σz' hs' => ∀ ρ' H' σ', Stp ρ hs H ρ' hs' H' → RelH K ρ' hs' H' → RelS ρ' H' σz' σ' → Off t.ixs σ σ' → Q σ' H') E
def gZs (K : PySem.W.Frag) (ts : List T) : TGs := fun xs σ H Q => ∃ ρ hs σz vs, RelH K ρ hs H ∧ RelS ρ H σz σ ∧ RepVs ρ H vs xs ∧ ∃ E, wp (bindTs ts vs σz hs) (fun σz' hs' => ∀ ρ' H' σ', Stp ρ hs H ρ' hs' H' → RelH K ρ' hs' H' → RelS ρ' H' σz' σ' → Off (T.ixss ts) σ σ' → Q σ' H') E
theorem PG.imp {X : Cx} {e : Expr} {t t' : TG} (h : PG X e t) (i : ∀ v σ H Q, t' v σ H Q → t v σ H Q) : PG X e t' := ⟨fun pins s σ H v u Q I r q => h.run pins s σ H v u Q I r (i v σ H Q q)⟩
theorem PGs.imp {X : Cx} {e : List Expr} {t t' : TGs} (h : PGs X e t) (i : ∀ v σ H Q, t' v σ H Q → t v σ H Q) : PGs X e t' := ⟨fun pins s σ H v u Q I r q => h.run pins s σ H v u Q I r (i v σ H Q q)⟩
section
variable {X : Cx} {pos : Pos}
theorem s_gname {i : Nat} {x : Str} (hN : X.N.Nodup) (hi : X.N[i]? = some x) (hx : Loc X.env.scope x) (hf : X.fn x = true ∨ X.env.scope.names.lookup x = some .local) : PG X (.Name x pos) (gZ X.K (.nm i)) :=
  PG.imp (pg_name hN hi hx hf) fun v σ H Q ⟨ρ, hs, σz, a, R, S, r, E, w⟩ => by
    refine w ρ H _ R.refl R (S.set i r) ⟨by simp, fun j hj => ?_⟩
    have : i ≠ j := fun e => hj (by rw [e]; exact List.mem_singleton.mpr rfl)
    exact List.getElem?_set_ne this
theorem assign_plain {e : Expr} {es : List Expr} {env : Env} (h : nsE e = true) : assignEach (e :: es) env = (false, assign e env) :: assignEach es env := by
  cases e <;> first | rfl | (simp [nsE] at h; done) | (simp [assignEach]; done)
theorem assign_len : ∀ {es : List Expr} {env : Env}, es.all nsE = true → (assignEach es env).length = es.length ∧ (assignEach es env).findIdx? (·.1) = none
  | [], _, _ => ⟨rfl, rfl⟩
  | e :: es, env, h => by
    rw [List.all_cons, Bool.and_eq_true] at h
    obtain ⟨h1, h2⟩ := assign_len (env := env) h.2
    rw [assign_plain h.1]
    refine ⟨by simp [h1], ?_⟩
    rw [List.findIdx?_cons, h2]; rfl
theorem s_gnil : PGs X [] (gZs X.K []) := PGs.imp pgs_nil fun xs σ H Q ⟨ρ, hs, σz, vs, R, S, r, E, w⟩ => by
  cases vs with
  | nil => exact ⟨repVs_nil.mp r, w ρ H σ R.refl R S (Off.refl _ _)⟩
  | cons _ _ => exact w.elim
theorem s_gcons {e : Expr} {es : List Expr} {t : T} {ts : List T} (hn : nsE e = true) (h1 : PG X e (gZ X.K t)) (h2 : PGs X es (gZs X.K ts)) : PGs X (e :: es) (gZs X.K (t :: ts)) :=
  PGs.imp (pgs_cons h1 h2 (by rw [assign_plain hn]; rfl)) fun xs σ H Q ⟨ρ, hs, σz, vs, R, S, r, E, w⟩ => by
    cases vs with
    | nil => exact w.elim
    | cons v vs =>
      obtain ⟨x, ys, rfl, r1, r2⟩ := repVs_cons.mp r
      refine ⟨x, ys, rfl, ρ, hs, σz, v, R, S, r1.toT t, E, wp_mono (wp_bnd.mp w) (fun σz1 hs1 w1 ρ1 H1 σ1 st R1 S1 o1 => ?_) fun _ _ _ y => y⟩
      exact ⟨ρ1, hs1, σz1, vs, R1, S1, r2.on st, E, wp_mono w1 (fun σz2 hs2 q ρ2 H2 σ2 st2 R2 S2 o2 => q ρ2 H2 σ2 (st.trans st2) R2 S2 (o1.trans o2)) fun _ _ _ y => y⟩
theorem bindTs_len : ∀ {ts : List T} {vs : List Val} {σz : Zt} {hs : Hs} {P : Zt → Hs → Prop} {E : Nat → List Val → Hs → Prop}, wp (bindTs ts vs σz hs) P E → (∀ c vs h, ¬ E c vs h) → vs.length = ts.length
  | [], [], _, _, _, _, _, _ => rfl
  | [], _ :: _, _, _, _, _, w, _ => w.elim
  | _ :: _, [], _, _, _, _, w, _ => w.elim
  | t :: ts, v :: vs, σz, hs, P, E, w, ne => by
    have w := wp_bnd.mp w
    cases e : bindT t v σz hs with
    | ok a h' => rw [e] at w; rw [List.length_cons, List.length_cons, bindTs_len w ne]
    | exc c us h' => rw [e] at w; exact absurd w (ne _ _ _)
    | bad => rw [e] at w; exact w.elim
mutual
theorem bindT_noexc : ∀ (t : T) (v : Val) (σz : Zt) (hs : Hs) {P : Zt → Hs → Prop} {E : Nat → List Val → Hs → Prop}, wp (bindT t v σz hs) P E → wp (bindT t v σz hs) P fun _ _ _ => False
  | .nm i, v, σz, hs, P, E, w => w
  | .tp ts, v, σz, hs, P, E, w => by
    cases v with
    | tup vs => exact bindTs_noexc ts vs σz hs w
    | _ => exact w.elim
theorem bindTs_noexc : ∀ (ts : List T) (vs : List Val) (σz : Zt) (hs : Hs) {P : Zt → Hs → Prop} {E : Nat → List Val → Hs → Prop}, wp (bindTs ts vs σz hs) P E → wp (bindTs ts vs σz hs) P fun _ _ _ => False
  | [], [], σz, hs, P, E, w => w
  | [], _ :: _, σz, hs, P, E, w => w.elim
  | _ :: _, [], σz, hs, P, E, w => w.elim
  | t :: ts, v :: vs, σz, hs, P, E, w => by
    have w1 := bindT_noexc t v σz hs (wp_bnd.mp w)
    exact wp_bnd.mpr (wp_mono w1 (fun σ1 h1 w2 => bindTs_noexc ts vs σ1 h1 w2) fun _ _ _ y => y)
end
theorem s_gtup {es : List Expr} {k : Nat} {ts : List T} (hc : X.calm = true) (hn : es.all nsE = true) (hl : es.length = ts.length) (h : PGs X es (gZs X.K ts)) : PG X (.Tuple es k pos) (gZ X.K (.tp ts)) :=
  PG.imp (pg_tup hc h ((assign_len hn).1.trans hl) (assign_len hn).2) fun x σ H Q ⟨ρ, hs, σz, v, R, S, r, E, w⟩ => by
    cases v with
    | tup vs =>
      obtain ⟨a, xs, e, hq, rs⟩ := r vs rfl
      have w := bindTs_noexc ts vs σz hs w
      exact ⟨a, xs, e, hq, by rw [rs.length]; exact bindTs_len w (fun _ _ _ y => y), ρ, hs, σz, vs, R, S, rs, _, w⟩
    | _ => exact w.elim
end
end Z
-- ZS16
namespace Z
open PySem PySem.Spec PyProof.Rows L2
/-! # What is walked -/
def ItRel (K : PySem.W.Frag) (ρ : Rho) (H : Hp) (t : T) (J : Z.It) (J2 : L2.It) : Prop := ∀ ρ' hs' H', RX ρ ρ' → TupX H H' → RelH K ρ' hs' H' → still hs' J.src = true →
  (∀ i v, J.items[i]? = some v → J2.go i H' ∧ ∀ x H2, J2.yld i H' x H2 → Stp ρ' hs' H' ρ' hs' H2 ∧ RelH K ρ' hs' H2 ∧ RepT K ρ' H2 t v x) ∧ (∀ i, J.items.length ≤ i → J2.stop i H')
def iZ (z : Zx) (K : PySem.W.Frag) (W : WX) (t : T) (it : I) : TI := fun σ H R => ∃ ρ hs σz, RelH K ρ hs H ∧ RelS ρ H σz σ ∧
  wp (evalI z.C it σz hs) (fun J hs' => ∀ ρ' H' J2, Stp ρ hs H ρ' hs' H' → RelH K ρ' hs' H' → ItRel K ρ' H' t J J2 → R J2 H') (PX K z ρ hs H (WE W σ))
theorem PI.imp {X : Cx} {tg e : Expr} {t t' : TI} (h : PI X tg e t) (i : ∀ σ H R, t' σ H R → t σ H R) : PI X tg e t' := ⟨fun pins s σ H R I q => h.run pins s σ H R I (i σ H R q)⟩
theorem still_get {hs : Hs} {d i : Nat} {o : Ob} {r : List (Nat × Nat × Ob)} (h : still hs ((d, i, o) :: r) = true) : get hs d i = some o ∧ still hs r = true := by
  unfold still at h
  rw [Bool.and_eq_true] at h
  exact ⟨of_decide_eq_true h.1, h.2⟩
section
variable {X : Cx} {z : Zx} {W : WX} {e a b tg : Expr} {ze za zb : E} {pos : Pos} {t : T}
/-- a list or a tuple -/
def iSeq (K : PySem.W.Frag) (tl : TE) : TI := fun σ H R => tl σ H fun x H1 => ∃ a, x = .ref a ∧ ((∃ xs, SqL K H1 a xs ∧ R (Itl K a) H1) ∨ ∃ xs, SqT K H1 a xs ∧ R (Itt K a) H1)
theorem pi_seq {l : Expr} {tl : TE} (hl : PE X l tl) : PI X tg l (iSeq X.K tl) := by
  refine ⟨fun pins s σ H R I h => thn (hl.run pins s σ H _ I h) fun v s1 ⟨x, H1, I1, r1, p, ex, q⟩ => ?_⟩
  subst ex
  cases r1
  have fp : ∀ b ∈ [s1.heap.objs.size], FpOk X pins H1 b := fun b hb => by
    rw [List.mem_singleton.mp hb]
    exact I1.fpOk (Nat.le_refl _) (I1.hok.fresh (Nat.le_refl _))
  rcases q with ⟨xs, hq, q⟩ | ⟨xs, hq, q⟩
  · obtain ⟨its, rv, pl, hz⟩ := I1.list hq
    exact wpAny_pyIter_list pl.isList ⟨s1.heap.objs.size, [s1.heap.objs.size], _, _, H1, rfl, I1.kept (t' := s1.toks) fun b o e => Heap.get?_push_of_some _ e, turn_list p _, ⟨_, Heap.get?_push_size _ rfl, rfl, rfl⟩, fp, q⟩
  · obtain ⟨its, rv, pl, hz⟩ := I1.tuple hq
    exact wpAny_pyIter_tuple (show s1.heap.IsTuple p its.toArray from pl) ⟨s1.heap.objs.size, [s1.heap.objs.size], _, _, H1, rfl, I1.kept (t' := s1.toks) fun b o e => Heap.get?_push_of_some _ e, turn_tuple p _, ⟨_, Heap.get?_push_size _ rfl, rfl, rfl⟩, fp, q⟩
theorem rel_list {K : PySem.W.Frag} {ρ : Rho} {H : Hp} {p : Addr} {d i : Nat} {o : Ob} {vs : List Val} (hr : rget ρ d i = some p) (ho : o = .lst vs ∨ o = .ro vs) : ItRel K ρ H t ⟨vs, [(d, i, o)]⟩ (Itl K p) := by
  intro ρ' hs' H' rx tx R st
  obtain ⟨g, _⟩ := still_get st
  obtain ⟨p', h1, ob⟩ := R.ob d i o g
  have := rx _ _ _ hr
  rw [this] at h1; cases h1
  obtain ⟨xs, h2, r⟩ : ∃ xs, SqL K H' p xs ∧ RepVs ρ' H' vs xs := by
    rcases ho with rfl | rfl
    · exact row_of ob
    · exact row_ro ob
  refine ⟨fun j v hv => ?_, fun j hj => ⟨xs, h2, by rw [r.length]; exact hj⟩⟩
  obtain ⟨w, hw, rw'⟩ := r.get hv
  exact ⟨⟨xs, w, h2, hw⟩, fun x H2 ⟨e, f⟩ => by
    subst e
    have := f xs h2
    rw [hw] at this; cases this
    exact ⟨R.refl, R, rw'.toT t⟩⟩
theorem rel_tup {K : PySem.W.Frag} {ρ : Rho} {H : Hp} {p : Addr} {vs : List Val} {xs : List V} (ht : TupD H p xs) (r : RepVs ρ H vs xs) : ItRel K ρ H t ⟨vs, []⟩ (Itt K p) := by
  intro ρ' hs' H' rx tx R st
  have h2 : SqT K H' p xs := (tx _ _ ht).sq
  have r := RepVs.mono rx tx _ _ r
  refine ⟨fun j v hv => ?_, fun j hj => ⟨xs, h2, by rw [r.length]; exact hj⟩⟩
  obtain ⟨w, hw, rw'⟩ := r.get hv
  exact ⟨⟨xs, w, h2, hw⟩, fun x H2 ⟨e, f⟩ => by
    subst e
    have := f xs h2
    rw [hw] at this; cases this
    exact ⟨R.refl, R, rw'.toT t⟩⟩
theorem rel_rng {K : PySem.W.Frag} {ρ : Rho} {H : Hp} {lo hi : Int} : ItRel K ρ H t ⟨rangeV lo hi, []⟩ (Itr lo (hi - lo).toNat) := by
  intro ρ' hs' H' rx tx R st
  have hl : (rangeV lo hi).length = (hi - lo).toNat := by unfold rangeV; rw [List.length_map, List.length_range]
  refine ⟨fun j v hv => ?_, fun j hj => by rw [← hl]; exact hj⟩
  have hj : j < (hi - lo).toNat := by rw [← hl]; exact (List.getElem?_eq_some_iff.mp hv).1
  have e : v = .int (lo + (j : Int)) := by
    unfold rangeV at hv
    rw [List.getElem?_map, List.getElem?_range hj] at hv
    exact (Option.some.inj hv).symm
  exact ⟨hj, fun x H2 ⟨e1, e2⟩ => by
    subst e1 e2 e
    exact ⟨R.refl, R, RepV.toT (v := .int (lo + (j : Int))) (repV_int.mpr rfl) t⟩⟩
theorem s_iseq (he : PE X e (tE z X.K W ze)) : PI X tg e (iZ z X.K W t (.seq ze)) :=
  PI.imp (pi_seq he) fun σ H R ⟨ρ, hs, σz, R0, S, w⟩ => by
    have w : wp (bnd (evalE z.C ze σz) seqIt hs) (fun J hs' => ∀ ρ' H' J2, Stp ρ hs H ρ' hs' H' → RelH X.K ρ' hs' H' → ItRel X.K ρ' H' t J J2 → R J2 H') (PX X.K z ρ hs H (WE W σ)) := w
    refine stepE R0 S w fun ρ1 H1 hs1 vx x st R1 S1 rx w => ?_
    cases vx with
    | tup vs =>
      obtain ⟨p, xs, rfl, tt, r⟩ := repV_tup.mp rx
      exact ⟨p, rfl, .inr ⟨xs, tt.sq, w ρ1 H1 _ st R1 (rel_tup tt r)⟩⟩
    | loc d i =>
      obtain ⟨o, g, w⟩ := wp_rd (wp_bnd.mp w)
      obtain ⟨p, rfl, hp, ob⟩ := R1.at rx g
      cases o with
      | lst vs => obtain ⟨xs, h1, r⟩ := row_of ob; exact ⟨p, rfl, .inl ⟨xs, h1, w ρ1 H1 _ st R1 (rel_list hp (.inl rfl))⟩⟩
      | ro vs => obtain ⟨xs, h1, r⟩ := row_ro ob; exact ⟨p, rfl, .inl ⟨xs, h1, w ρ1 H1 _ st R1 (rel_list hp (.inr rfl))⟩⟩
      | dK _ => exact w.elim
      | dT _ => exact w.elim
      | set _ => exact w.elim
    | _ => exact w.elim
theorem s_irng1 {p : Pos} (hg : Gl X "range") (hm : X.mg "range" = none) (hn : nsE a = true) (ha : PE X a (tE z X.K W za)) : PI X tg (.Call (.Name "range" p) [a] [] pos) (iZ z X.K W t (.rng1 za)) :=
  PI.imp (pi_range1 hg hm (pa_cons ha pa_nil (star_cons hn)) (star_cons hn)) fun σ H R ⟨ρ, hs, σz, R0, S, w⟩ => by
    refine stepE R0 S w fun ρ1 H1 hs1 vx x st R1 S1 rx w => ?_
    cases vx <;> first | exact False.elim w | skip
    rename_i n
    obtain ⟨h1, w⟩ := wp_guard (wp_bnd.mp w)
    have h1 := of_decide_eq_true h1
    rw [repV_int] at rx
    subst rx
    have q := w ρ1 H1 (Itr 0 (n - 0).toNat) st R1 rel_rng
    rw [Int.sub_zero] at q
    exact ⟨n, rfl, by omega, by omega, q⟩
theorem s_irng2 {p : Pos} (hg : Gl X "range") (hm : X.mg "range" = none) (hn : nsE a = true) (hn2 : nsE b = true) (ha : PE X a (tE z X.K W za)) (hb : PE X b (tE z X.K W zb)) : PI X tg (.Call (.Name "range" p) [a, b] [] pos) (iZ z X.K W t (.rng2 za zb)) :=
  PI.imp (pi_range2 hg hm (pa_cons ha (pa_cons hb pa_nil (star_cons hn2)) (star_cons hn)) (by rw [star_cons hn, star_cons hn2]; rfl) (star_cons hn2)) fun σ H R ⟨ρ, hs, σz, R0, S, w⟩ => by
    refine stepE R0 S w fun ρ1 H1 hs1 vx x st R1 S1 rx w => stepE R1 S1 w fun ρ2 H2 hs2 vy y st2 R2 S2 ry w => ?_
    cases vx <;> cases vy <;> first | exact False.elim w | skip
    obtain ⟨h1, w⟩ := wp_guard (wp_bnd.mp w)
    have h1 := of_decide_eq_true h1
    rw [repV_int] at rx ry
    subst rx ry
    exact ⟨_, _, rfl, ⟨by omega, by omega, by omega, by omega⟩, w ρ2 H2 _ (st.trans st2) R2 rel_rng⟩
/-! # Rows made by a for within -/
theorem wp_guardH {p : Hs → Bool} {hs : Hs} {P : Unit → Hs → Prop} {E : Nat → List Val → Hs → Prop} (w : wp (guardH p hs) P E) : p hs = true ∧ P () hs := by
  unfold guardH at w
  by_cases c : p hs = true
  · rw [if_pos c] at w; exact ⟨c, w⟩
  · rw [if_neg c] at w; exact w.elim
def noW : WX := fun _ _ _ _ => False
theorem px_no {K : PySem.W.Frag} {z : Zx} {ρ : Rho} {hs : Hs} {H : Hp} {σ : L2.St} {c : Nat} {vs : List Val} {h : Hs} (q : False) : PX K z ρ hs H (WE noW σ) c vs h := q.elim
def tCs (z : Zx) (K : PySem.W.Frag) (W : WX) (cs : List E) : TT := fun σ H Q => ∃ ρ hs σz, RelH K ρ hs H ∧ RelS ρ H σz σ ∧ wp (evalC z.C cs σz hs) (PB K ρ hs H Q) (PX K z ρ hs H (WE W σ))
theorem s_c0 : PTs X [] (tCs z X.K W []) := ⟨fun pins s σ H Q I ⟨ρ, hs, σz, R, S, w⟩ => pts_nil.run pins s σ H Q I (w ρ H R.refl R)⟩
theorem s_c1 (h : PT X e (tT z X.K W ze)) : PTs X [e] (tCs z X.K W [ze]) := ⟨fun pins s σ H Q I ⟨ρ, hs, σz, R, S, w⟩ => (pts_one h).run pins s σ H Q I ⟨ρ, hs, σz, R, S, w⟩⟩
theorem wp_some {α : Type} {x : Res α} {P : α → Hs → Prop} (w : wp x P fun _ _ _ => False) : ∃ a h, P a h := by
  cases x with
  | ok a h => exact ⟨a, h, w⟩
  | exc => exact w.elim
  | bad => exact w.elim
theorem s_comp {elt iter : Expr} {ifs : List Expr} {scope : Scope} {own : List (Str × Nat)} {zelt : E} {zit : I} {zcs : List E} (hc : X.calm = true) (hN : X.N.Nodup) (hi : PI X tg iter (iZ z X.K W t zit)) (ok : BlkOk X.N X.env.scope scope own)
    (hg : ∀ (s : Shared) (H : Hp) (C : Addr) (cl : List (Str × Addr)) (fp : List Addr), PG (X.blk s H scope (compEnvC scope cl C X.env) fp) tg (gZ X.K t)) (ht : ∀ (s : Shared) (H : Hp) (C : Addr) (cl : List (Str × Addr)) (fp : List Addr), PTs (X.blk s H scope (compEnvC scope cl C X.env) fp) ifs (tCs z X.K noW zcs))
    (he : ∀ (s : Shared) (H : Hp) (C : Addr) (cl : List (Str × Addr)) (fp : List Addr), PE (X.blk s H scope (compEnvC scope cl C X.env) fp) elt (tE z X.K noW zelt)) (hix : ∀ i ∈ t.ixs, i ∈ own.map (·.2)) :
    ∀ σ H Q, tE z X.K W (.comp zelt t zit zcs (own.map (·.2))) σ H Q → tLc (iZ z X.K W t zit) (gZ X.K t) (tCs z X.K noW zcs) (tE z X.K noW zelt) (own.map (·.2)) σ H Q := by
  intro σ H Q ⟨ρ, hs, σz, R, S, w⟩
  generalize hv : own.map (·.2) = vs at w hix
  refine ⟨ρ, hs, σz, R, S, wp_mono (wp_bnd.mp w) (fun J hs1 w ρ1 H1 J2 st R1 rel D hD => ?_) fun _ _ _ y => y⟩
  have w := wp_noExc.mp (wp_bnd.mp w)
  -- the walk
  refine ⟨fun i m H' => m = J.items.length - i ∧ i ≤ J.items.length ∧ ∃ ρ' hs' zacc acc, Stp ρ1 hs1 H1 ρ' hs' H' ∧ RelH X.K ρ' hs' H' ∧ H' D = some (.lst acc) ∧ ¬ Told ρ' hs' D ∧ RepVs ρ' H' zacc acc ∧
      wp (walk J.src (fun x => bnd (bindT t x (wipe σz vs)) fun σ2 => bnd (evalC z.C zcs σ2) fun b => if b then bnd (evalE z.C zelt σ2) fun y => ret [y] else ret []) (J.items.drop i) hs')
        (fun ys h => wp (bnd (guard (decide ((zacc ++ ys).length ≤ SL))) (fun _ => alloc (.lst (zacc ++ ys))) h) (PV X.K ρ hs H Q) (PX X.K z ρ hs H (WE W σ))) fun _ _ _ => False,
    ⟨_, rfl, Nat.zero_le _, ρ1, hs1, [], [], R1.sideS hD, R1.side hD, upd_same, fun q => R1.untold hD q, .nil', w⟩, ?_⟩
  rintro i m H' ⟨rfl, hi2, ρ', hs', zacc, acc, st', R', hD', nt, racc, w⟩
  have tx' := st'.tup
  by_cases hlt : i < J.items.length
  · rw [List.drop_eq_getElem_cons hlt] at w
    obtain ⟨h1, w⟩ := wp_guardH (wp_bnd.mp w)
    have w := wp_bnd.mp (wp_bnd.mp w)
    obtain ⟨hgo, _⟩ := rel ρ' hs' H' st'.rx st'.tup R' h1
    obtain ⟨go, yl⟩ := hgo i _ (List.getElem?_eq_getElem hlt)
    refine .inr ⟨go, fun H2 => i + 1 ≤ J.items.length ∧ ∃ ρ' hs' zacc acc, Stp ρ1 hs1 H1 ρ' hs' H2 ∧ RelH X.K ρ' hs' H2 ∧ H2 D = some (.lst acc) ∧ ¬ Told ρ' hs' D ∧ RepVs ρ' H2 zacc acc ∧
      wp (walk J.src (fun x => bnd (bindT t x (wipe σz vs)) fun σ2 => bnd (evalC z.C zcs σ2) fun b => if b then bnd (evalE z.C zelt σ2) fun y => ret [y] else ret []) (J.items.drop (i + 1)) hs')
        (fun ys h => wp (bnd (guard (decide ((zacc ++ ys).length ≤ SL))) (fun _ => alloc (.lst (zacc ++ ys))) h) (PV X.K ρ hs H Q) (PX X.K z ρ hs H (WE W σ))) fun _ _ _ => False,
      fun H2 hn => ⟨_, by omega, rfl, hn⟩, fun x H2 hy => ?_⟩
    obtain ⟨st2, R2, rt⟩ := yl x H2 hy
    obtain ⟨d2, n2⟩ := st2.kp D _ hD' nt
    have S2 : RelS ρ' H2 (wipe σz vs) (L2.wipe σ vs) := (((S.on st).on st').on st2).wipe vs
    refine ⟨ρ', hs', wipe σz vs, _, R2, S2, rt, _, wp_mono w (fun σz3 hs3 w ρ3 H3 σ3 st3 R3 S3 off => ⟨wipe_off off hix, ?_⟩) fun _ _ _ y => y⟩
    refine ⟨ρ3, hs3, σz3, R3, S3, wp_mono (wp_bnd.mp w) (fun b hs4 w ρ4 H4 st4 R4 => ?_) fun _ _ _ y => px_no y⟩
    obtain ⟨d3, n3⟩ := st3.kp D _ d2 n2
    obtain ⟨d4, n4⟩ := st4.kp D _ d3 n3
    have st14 := st'.trans (st2.trans (st3.trans st4))
    cases b with
    | false =>
      rw [if_neg (by decide)] at w ⊢
      refine ⟨hlt, ρ4, hs4, zacc, acc, st14, R4, d4, n4, racc.on (st2.trans (st3.trans st4)), ?_⟩
      exact wp_bnd.mp w
    | true =>
      rw [if_pos rfl] at w ⊢
      refine ⟨ρ4, hs4, σz3, R4, S3.on st4, wp_mono (wp_bnd.mp w) (fun y hs5 w ρ5 H5 y' st5 R5 ry => ?_) fun _ _ _ y => px_no y⟩
      obtain ⟨d5, n5⟩ := st5.kp D _ d4 n4
      have w := wp_bnd.mp w
      have racc5 := racc.on (st2.trans (st3.trans (st4.trans st5)))
      have mu : Mut (H5 D) := by rw [d5]; trivial
      refine ⟨acc, d5, ?_, hlt, ρ5, hs5, zacc ++ [y], acc ++ [y'], (st14.trans st5).side2 hD mu, R5.side2 n5 d5, upd_same, n5, RepVs.mono (RX.refl _) (tupX_mut mu) _ _ (racc5.append (.cons' ry .nil')), wp_mono w (fun ys h w => ?_) fun _ _ _ y => y⟩
      · obtain ⟨ys, h, w⟩ := wp_some w
        obtain ⟨h2, _⟩ := wp_guard (wp_bnd.mp w)
        have h2 := of_decide_eq_true h2
        rw [racc5.length, ← SL_eq]
        rw [List.length_append, List.length_append, List.length_singleton] at h2
        omega
      · rw [List.append_assoc]
        exact w
  · have e : i = J.items.length := by omega
    rw [List.drop_eq_nil_of_le (by omega)] at w
    obtain ⟨h1, w⟩ := wp_guardH (wp_bnd.mp w)
    obtain ⟨_, hstop⟩ := rel ρ' hs' H' st'.rx st'.tup R' h1
    obtain ⟨_, w⟩ := wp_guard (wp_bnd.mp w)
    rw [List.append_nil] at w
    exact .inl ⟨hstop i (by omega), tell_end w st hD st' R' hD' nt racc⟩
end
end Z
-- ZS17
namespace Z
open PySem PySem.Spec PyProof.Rows L2
/-! # Statements -/
def EQ (z : Zx) (K : PySem.W.Frag) (W : WX) (D : Ends) (ρ : Rho) (hs : Hs) (H : Hp) : Out → Hs → Prop
  | .nx σz', hs' => ∀ ρ' H' σ', Stp ρ hs H ρ' hs' H' → RelH K ρ' hs' H' → RelS ρ' H' σz' σ' → D.nx σ' H'
  | .bk σz', hs' => ∀ ρ' H' σ', Stp ρ hs H ρ' hs' H' → RelH K ρ' hs' H' → RelS ρ' H' σz' σ' → D.bk σ' H'
  | .ct σz', hs' => ∀ ρ' H' σ', Stp ρ hs H ρ' hs' H' → RelH K ρ' hs' H' → RelS ρ' H' σz' σ' → D.ct σ' H'
  | .rt v, hs' => ∀ ρ' H' w, Stp ρ hs H ρ' hs' H' → RelH K ρ' hs' H' → RepV ρ' H' v w → D.rt w H'
  | .xc c vs σz', hs' => ∀ ρ' H' σ' d, Stp ρ hs H ρ' hs' H' → RelH K ρ' hs' H' → RelS ρ' H' σz' σ' → ExR z c vs d → W (z.cl c) d σ' H'
section
variable {z : Zx} {K : PySem.W.Frag} {W : WX} {D : Ends} {ρ ρ1 : Rho} {hs hs1 hs2 : Hs} {H H1 : Hp} {σz : Zt} {σ : L2.St}
theorem EQ.on : ∀ {o : Out}, EQ z K W D ρ hs H o hs2 → Stp ρ hs H ρ1 hs1 H1 → EQ z K W D ρ1 hs1 H1 o hs2
  | .nx _, h, s => fun ρ2 H2 σ' s2 R S => h ρ2 H2 σ' (s.trans s2) R S
  | .bk _, h, s => fun ρ2 H2 σ' s2 R S => h ρ2 H2 σ' (s.trans s2) R S
  | .ct _, h, s => fun ρ2 H2 σ' s2 R S => h ρ2 H2 σ' (s.trans s2) R S
  | .rt _, h, s => fun ρ2 H2 w s2 R r => h ρ2 H2 w (s.trans s2) R r
  | .xc _ _ _, h, s => fun ρ2 H2 σ' d s2 R S x => h ρ2 H2 σ' d (s.trans s2) R S x
def tS (z : Zx) (K : PySem.W.Frag) (W : WX) (s : S) : TS := fun D σ H => ∃ ρ hs σz, RelH K ρ hs H ∧ RelS ρ H σz σ ∧ wps (exec z.C s σz hs) (EQ z K W D ρ hs H)
def tSs (z : Zx) (K : PySem.W.Frag) (W : WX) (s : List S) : TS := fun D σ H => ∃ ρ hs σz, RelH K ρ hs H ∧ RelS ρ H σz σ ∧ wps (execs z.C s σz hs) (EQ z K W D ρ hs H)
/-- an error of an expression, behind a statement -/
theorem EQ.px (S : RelS ρ H σz σ) {c : Nat} {vs : List Val} (h : EQ z K W D ρ hs H (.xc c vs σz) hs2) : PX K z ρ hs H (WE W σ) c vs hs2 := fun ρ' H' d st R x => h ρ' H' σ d st R (S.on st) x
theorem stepS {α : Type} {x : M α} {k : α → SM} (S : RelS ρ H σz σ) (w : wps (ev σz x k hs) (EQ z K W D ρ hs H)) : wp (x hs) (fun a h => wps (k a h) (EQ z K W D ρ hs H)) (PX K z ρ hs H (WE W σ)) :=
  wp_mono (wps_ev.mp w) (fun _ _ y => y) fun _ _ _ y => EQ.px S y
theorem stepSE {e : E} {k : Val → SM} {Q : VK} (R : RelH K ρ hs H) (S : RelS ρ H σz σ) (w : wps (ev σz (evalE z.C e σz) k hs) (EQ z K W D ρ hs H))
    (h : ∀ ρ1 H1 hs1 vx x, Stp ρ hs H ρ1 hs1 H1 → RelH K ρ1 hs1 H1 → RelS ρ1 H1 σz σ → RepV ρ1 H1 vx x → wps (k vx hs1) (EQ z K W D ρ1 hs1 H1) → Q x H1) : tE z K W e σ H Q :=
  ⟨ρ, hs, σz, R, S, wp_mono (stepS S w) (fun vx hs1 w1 ρ1 H1 x st R1 rx => h ρ1 H1 hs1 vx x st R1 (S.on st) rx (wps_mono w1 fun _ _ y => y.on st)) fun _ _ _ y => y⟩
theorem stepST {e : E} {k : Bool → SM} {Q : Bool → Hp → Prop} (R : RelH K ρ hs H) (S : RelS ρ H σz σ) (w : wps (ev σz (bnd (evalE z.C e σz) truth) k hs) (EQ z K W D ρ hs H))
    (h : ∀ ρ1 H1 hs1 b, Stp ρ hs H ρ1 hs1 H1 → RelH K ρ1 hs1 H1 → RelS ρ1 H1 σz σ → wps (k b hs1) (EQ z K W D ρ1 hs1 H1) → Q b H1) : tT z K W e σ H Q :=
  ⟨ρ, hs, σz, R, S, wp_mono (stepS S w) (fun b hs1 w1 ρ1 H1 st R1 => h ρ1 H1 hs1 b st R1 (S.on st) (wps_mono w1 fun _ _ y => y.on st)) fun _ _ _ y => y⟩
end
section
variable {X : Cx} {z : Zx} {W : WX} {e o i c tg : Expr} {ze zo zi : E} {pos : Pos} {t : T} {st : Stmt} {sts a b : List Stmt} {s : S} {ss sa sb : List S}
theorem s_snil : PSs X [] (tSs z X.K W []) := PSs.imp pss_nil fun D σ H ⟨ρ, hs, σz, R, S, w⟩ => w ρ H σ R.refl R S
theorem s_scons (h1 : PS X st (tS z X.K W s)) (h2 : PSs X sts (tSs z X.K W ss)) : PSs X (st :: sts) (tSs z X.K W (s :: ss)) :=
  PSs.imp (pss_cons h1 h2) fun D σ H ⟨ρ, hs, σz, R, S, w⟩ => by
    have w := wps_sq.mp (show wps (sq (exec z.C s σz) (fun σ' => execs z.C ss σ') hs) (EQ z X.K W D ρ hs H) from w)
    refine ⟨ρ, hs, σz, R, S, wps_mono w fun o hs1 q => ?_⟩
    cases o with
    | nx σ1 => exact fun ρ1 H1 σ1' st R1 S1 => ⟨ρ1, hs1, σ1, R1, S1, wps_mono q fun _ _ y => y.on st⟩
    | bk _ => exact q
    | ct _ => exact q
    | rt _ => exact q
    | xc _ _ _ => exact q
theorem s_pass : PS X (.Pass pos) (tS z X.K W .pass) := PS.imp ps_pass fun D σ H ⟨ρ, hs, σz, R, S, w⟩ => w ρ H σ R.refl R S
theorem s_brk : PS X (.Break pos) (tS z X.K W .brk) := PS.imp ps_break fun D σ H ⟨ρ, hs, σz, R, S, w⟩ => w ρ H σ R.refl R S
theorem s_cont : PS X (.Continue pos) (tS z X.K W .cont) := PS.imp ps_continue fun D σ H ⟨ρ, hs, σz, R, S, w⟩ => w ρ H σ R.refl R S
theorem s_retn : PS X (.Return none pos) (tS z X.K W .retn) := PS.imp ps_retN fun D σ H ⟨ρ, hs, σz, R, S, w⟩ => w ρ H .non R.refl R (repV_non.mpr rfl)
theorem s_ret (he : PE X e (tE z X.K W ze)) : PS X (.Return (some e) pos) (tS z X.K W (.ret ze)) :=
  PS.imp (ps_ret he) fun D σ H ⟨ρ, hs, σz, R, S, w⟩ => stepSE R S w fun ρ1 H1 hs1 vx x st R1 S1 rx w => w ρ1 H1 x R1.refl R1 rx
theorem s_ex (he : PE X e (tE z X.K W ze)) (hs : swapsWith e none pos.line X.env = pure false) : PS X (.Expr e pos) (tS z X.K W (.ex ze)) :=
  PS.imp (ps_expr he hs) fun D σ H ⟨ρ, hs, σz, R, S, w⟩ => stepSE R S w fun ρ1 H1 hs1 vx x st R1 S1 rx w => w ρ1 H1 σ R1.refl R1 S1
theorem s_if (hc : PT X c (tT z X.K W ze)) (ha : PSs X a (tSs z X.K W sa)) (hb : PSs X b (tSs z X.K W sb)) : PS X (.If c a b pos) (tS z X.K W (.iff ze sa sb)) :=
  PS.imp (ps_if hc ha hb) fun D σ H ⟨ρ, hs, σz, R, S, w⟩ => stepST R S w fun ρ1 H1 hs1 t st R1 S1 w => by
    cases t with
    | true => rw [if_pos rfl] at w ⊢; exact ⟨ρ1, hs1, σz, R1, S1, w⟩
    | false => rw [if_neg (by decide)] at w ⊢; exact ⟨ρ1, hs1, σz, R1, S1, w⟩
/-- target = value -/
theorem asg_imp {te : TE} (hte : ∀ σ H Q, tE z X.K W ze σ H Q → te σ H Q) {D : Ends} {σ : L2.St} {H : Hp} (h : tS z X.K W (.asg t ze) D σ H) : tAsg te (gZ X.K t) D σ H := by
  obtain ⟨ρ, hs, σz, R, S, w⟩ := h
  have w := stepS S (show wps (ev σz (bnd (evalE z.C ze σz) fun v => bindT t v σz) (fun σ' => fin (.nx σ')) hs) (EQ z X.K W D ρ hs H) from w)
  refine hte _ _ _ (stepE R S w fun ρ1 H1 hs1 vx x st R1 S1 rx w => ?_)
  exact ⟨ρ1, hs1, σz, vx, R1, S1, rx.toT t, _, wp_mono w (fun σz2 hs2 q ρ2 H2 σ2 st2 R2 S2 _ => q ρ2 H2 σ2 (st.trans st2) R2 S2) fun _ _ _ y => y⟩
theorem s_asg (he : PE X e (tE z X.K W ze)) (hg : PG X tg (gZ X.K t)) (hs : swapsWithSole [tg] e pos.line X.env = pure false) (hw : swappedStores [tg] e X.env = pure none) (hn : nsE tg = true) : PS X (.Assign [tg] e pos) (tS z X.K W (.asg t ze)) :=
  PS.imp (ps_asg he hg hs hw (by rw [assign_plain hn]; rfl)) fun D σ H h => asg_imp (fun _ _ _ y => y) h
/-- o[i] = e -/
theorem s_sub {tpos : Pos} (hu : X.A.units + 200 < cLine) (he : PE X e (tE z X.K W ze)) (ho : PE X o (tE z X.K W zo)) (hi : PE X i (tE z X.K W zi)) (hs : swapsWithSole [.Subscript o i tpos] e pos.line X.env = pure false) (hw : swappedStores [.Subscript o i tpos] e X.env = pure none)
    (ha : ∀ v, assign (.Subscript o i tpos) X.env v = (do
      let ov ← holding [v] (eval o X.env)
      let iv ← holding [v, ov] (eval i X.env)
      standAt tpos
      holding [v, ov, iv] (setItem ov iv v)
      release [v, ov, iv] [])) : PS X (.Assign [.Subscript o i tpos] e pos) (tS z X.K W (.sub zo zi ze)) :=
  PS.imp (ps_asg he (pg_sub ho hi (or_store (by omega)) ha) hs hw rfl) fun D σ H ⟨ρ, hs, σz, R, S, w⟩ =>
    stepSE R S w fun ρ1 H1 hs1 vx x st R1 S1 rx w => stepSE R1 S1 w fun ρ2 H2 hs2 vo o st2 R2 S2 ro w => stepSE R2 S2 w fun ρ3 H3 hs3 vi i st3 R3 S3 ri w =>
      ⟨ρ3, hs3, vo, vi, vx, R3, ro.on st3, ri, (rx.on st2).on st3, _, wp_mono (stepS S3 w) (fun _ hs4 q ρ4 H4 st4 R4 => q ρ4 H4 σ st4 R4 (S3.on st4)) fun _ _ _ y => y⟩
/-! x op= e -/
def denA (K : PySem.W.Frag) (op : Bop) : TIp := den2 K (augop op)
theorem or_aug (op : Bop) : PIp X (pyOp op) (denA X.K op) := by
  intro pins s σ H x y v u Q I rx ry h
  obtain ⟨ρ, hs, a, b, R, ra, rb, E, w⟩ := h
  cases a <;> cases b <;> first | exact False.elim w | skip
  rename_i i j
  rw [repV_int] at ra rb
  cases op
  · exact iop_add pins s σ H x y v u Q I rx ry ⟨i, j, ra, rb, PV.here w R (repV_int.mpr rfl)⟩
  · exact iop_sub pins s σ H x y v u Q I rx ry ⟨i, j, ra, rb, PV.here w R (repV_int.mpr rfl)⟩
  · obtain ⟨h1, w⟩ := wp_guard (wp_bnd.mp w)
    have h1 := of_decide_eq_true h1
    rw [lim_eq] at h1
    exact iop_mul pins s σ H x y v u Q I rx ry ⟨i, j, ra, rb, h1, PV.here w R (repV_int.mpr rfl)⟩
  · obtain ⟨h1, w⟩ := wp_guard (wp_bnd.mp w)
    have h1 := of_decide_eq_true h1
    exact iop_fdiv pins s σ H x y v u Q I rx ry ⟨i, j, ra, rb, h1, PV.here w R (repV_int.mpr rfl)⟩
  · obtain ⟨h1, w⟩ := wp_guard (wp_bnd.mp w)
    exact iop_mod pins s σ H x y v u Q I rx ry ⟨i, j, ra, rb, of_decide_eq_true h1, PV.here w R (repV_int.mpr rfl)⟩
  · exact w.elim
  · obtain ⟨h1, w⟩ := wp_guard (wp_bnd.mp w)
    have h1 := of_decide_eq_true h1
    exact iop_shl pins s σ H x y v u Q I rx ry ⟨i, j, ra, rb, ⟨h1.1, h1.2.1, natAbs_lim h1.2.2⟩, PV.here w R (repV_int.mpr rfl)⟩
  · obtain ⟨h1, w⟩ := wp_guard (wp_bnd.mp w)
    exact iop_shr pins s σ H x y v u Q I rx ry ⟨i, j, ra, rb, of_decide_eq_true h1, PV.here w R (repV_int.mpr rfl)⟩
  · exact iop_and pins s σ H x y v u Q I rx ry ⟨i, j, ra, rb, PV.here w R (repV_int.mpr rfl)⟩
  · exact iop_or pins s σ H x y v u Q I rx ry ⟨i, j, ra, rb, PV.here w R (repV_int.mpr rfl)⟩
  · exact iop_xor pins s σ H x y v u Q I rx ry ⟨i, j, ra, rb, PV.here w R (repV_int.mpr rfl)⟩
theorem s_aug {j : Nat} {x : Str} {op : Bop} {pos' : Pos} (hN : X.N.Nodup) (hi : X.N[j]? = some x) (hx : Loc X.env.scope x) (he : PE X e (tE z X.K W ze)) (hf : X.fn x = true ∨ X.env.scope.names.lookup x = some .local) : PS X (.AugAssign (.Name x pos') (pyOp op) e pos) (tS z X.K W (.aug j op ze)) :=
  PS.imp (ps_aug hN hi hx he (or_aug op) hf) fun D σ H ⟨ρ, hs, σz, R, S, w⟩ => by
    have w := wps_ev.mp (show wps (ev σz (evalE z.C (.var j) σz) (fun v => ev σz (evalE z.C ze σz) fun u => ev σz (augop op v u) fun q => fin (.nx (σz.set j (some q)))) hs) (EQ z X.K W D ρ hs H) from w)
    have w : wp ((match σz[j]? with | some (some v) => ret v | _ => bad) hs) (fun v h => wps (ev σz (evalE z.C ze σz) (fun u => ev σz (augop op v u) fun q => fin (.nx (σz.set j (some q)))) h) (EQ z X.K W D ρ hs H)) (fun c vs h => EQ z X.K W D ρ hs H (.xc c vs σz) h) := w
    cases e1 : σz[j]? with
    | none => rw [e1] at w; exact w.elim
    | some q =>
      cases q with
      | none => rw [e1] at w; exact w.elim
      | some v =>
        rw [e1] at w
        obtain ⟨u, h1, h2⟩ := S.2 j v e1
        refine ⟨u, h1, stepSE R S w fun ρ1 H1 hs1 vx x st R1 S1 rx w => ?_⟩
        exact ⟨ρ1, hs1, v, vx, R1, h2.on st, rx, _, wp_mono (stepS S1 w) (fun r hs2 q ρ2 H2 y st2 R2 ry => q ρ2 H2 _ st2 R2 ((S1.on st2).set j ry)) fun _ _ _ y => y⟩
/-! while -/
/-- how a turn ends -/
theorem turn_end {body : SM} {k : Zt → SM} {D : Ends} {N : L2.St → Hp → Prop} {ρ : Rho} {hs : Hs} {H : Hp} (w : wps (turnS body k hs) (EQ z X.K W D ρ hs H))
    (hN : ∀ ρ' hs' H' σz' σ', Stp ρ hs H ρ' hs' H' → RelH X.K ρ' hs' H' → RelS ρ' H' σz' σ' → wps (k σz' hs') (EQ z X.K W D ρ' hs' H') → N σ' H') : wps (body hs) (EQ z X.K W { D with nx := N, ct := N, bk := D.nx } ρ hs H) := by
  refine wps_mono (wps_turn.mp w) fun o h q => ?_
  cases o with
  | nx σ1 => exact fun ρ1 H1 σ1' st R1 S1 => hN ρ1 h H1 σ1 σ1' st R1 S1 (wps_mono q fun _ _ y => y.on st)
  | ct σ1 => exact fun ρ1 H1 σ1' st R1 S1 => hN ρ1 h H1 σ1 σ1' st R1 S1 (wps_mono q fun _ _ y => y.on st)
  | bk σ1 => exact q
  | rt v => exact q
  | xc c vs σ1 => exact q
theorem s_while (hp : PassesOwn (model X.prog X.w) X.A X.env X.xe) (hc : PT X c (tT z X.K W ze)) (hb : PSs X b (tSs z X.K W sb)) : PS X (.While c b [] pos) (tS z X.K W (.while_ ze sb)) :=
  PS.imp (ps_while hp hc hb) fun D σ H ⟨ρ, hs, σz, R, S, w⟩ => by
    refine ⟨fun n σ' H' => ∃ ρ' hs' σz', RelH X.K ρ' hs' H' ∧ RelS ρ' H' σz' σ' ∧ wps (loopW (fun σ => bnd (evalE z.C ze σ) truth) (fun σ => execs z.C sb σ) n σz' hs') (EQ z X.K W D ρ' hs' H'), ⟨WF, ρ, hs, σz, R, S, w⟩, ?_⟩
    rintro n σ' H' ⟨ρ', hs', σz', R', S', w⟩
    cases n with
    | zero => exact w.elim
    | succ n =>
      have w : wps (ev σz' (bnd (evalE z.C ze σz') truth) (fun b => if b then turnS (execs z.C sb σz') (loopW (fun σ => bnd (evalE z.C ze σ) truth) (fun σ => execs z.C sb σ) n) else fin (.nx σz')) hs') (EQ z X.K W D ρ' hs' H') := w
      refine stepST R' S' w fun ρ1 H1 hs1 t st1 R1 S1 w => ?_
      cases t with
      | false => rw [if_neg (by decide)] at w ⊢; exact w ρ1 H1 σ' R1.refl R1 S1
      | true =>
        rw [if_pos rfl] at w ⊢
        exact ⟨_, fun σ2 H2 q => ⟨n, Nat.lt_succ_self n, q⟩, ρ1, hs1, σz', R1, S1, turn_end w fun ρ2 hs2 H2 σz2 σ2 _ R2 S2 w => ⟨ρ2, hs2, σz2, R2, S2, w⟩⟩
/-! for -/
theorem wps_still {σz : Zt} {src : List (Nat × Nat × Ob)} {k : SM} {hs : Hs} {Q : Out → Hs → Prop} (w : wps (stillS σz src k hs) Q) : still hs src = true ∧ wps (k hs) Q := by
  unfold stillS at w
  by_cases c : still hs src = true
  · rw [if_pos c] at w; exact ⟨c, w⟩
  · rw [if_neg c] at w; exact w.elim
theorem s_for {zit : I} (hp : PassesOwn (model X.prog X.w) X.A X.env X.xe) (hc : X.calm = true) (hi : PI X tg e (iZ z X.K W t zit)) (hg : PG X tg (gZ X.K t)) (hb : PSs X b (tSs z X.K W sb)) (hf : ∀ x, foldedSetIterable e X.env x = pure x) : PS X (.For tg e b [] pos) (tS z X.K W (.for_ t zit sb)) :=
  PS.imp (ps_for hp hc hi hg hb hf) fun D σ H ⟨ρ, hs, σz, R, S, w⟩ => by
    refine ⟨ρ, hs, σz, R, S, wp_mono (stepS S w) (fun J hs1 w ρ1 H1 J2 st R1 rel => ?_) fun _ _ _ y => y⟩
    have w := wps_mono w fun _ _ y => y.on st
    refine ⟨fun i m σ' H' => m = J.items.length - i ∧ i ≤ J.items.length ∧ ∃ ρ' hs' σz', Stp ρ1 hs1 H1 ρ' hs' H' ∧ RelH X.K ρ' hs' H' ∧ RelS ρ' H' σz' σ' ∧ wps (loopF J.src (fun x σ => ev σ (bindT t x σ) fun σ' => execs z.C sb σ') (J.items.drop i) σz' hs') (EQ z X.K W D ρ' hs' H'),
      ⟨_, rfl, Nat.zero_le _, ρ1, hs1, σz, R1.refl, R1, S.on st, w⟩, ?_⟩
    rintro i m σ' H' ⟨rfl, hi2, ρ', hs', σz', st', R', S', w⟩
    by_cases hlt : i < J.items.length
    · rw [List.drop_eq_getElem_cons hlt] at w
      obtain ⟨h1, w⟩ := wps_still w
      obtain ⟨hgo, _⟩ := rel ρ' hs' H' st'.rx st'.tup R' h1
      obtain ⟨go, yl⟩ := hgo i _ (List.getElem?_eq_getElem hlt)
      refine .inr ⟨go, fun σ2 H2 => i + 1 ≤ J.items.length ∧ ∃ ρ' hs' σz', Stp ρ1 hs1 H1 ρ' hs' H2 ∧ RelH X.K ρ' hs' H2 ∧ RelS ρ' H2 σz' σ2 ∧ wps (loopF J.src (fun x σ => ev σ (bindT t x σ) fun σ' => execs z.C sb σ') (J.items.drop (i + 1)) σz' hs') (EQ z X.K W D ρ' hs' H2),
        fun σ2 H2 hn => ⟨_, by omega, rfl, hn⟩, fun x H2 hy => ?_⟩
      obtain ⟨st2, R2, rt⟩ := yl x H2 hy
      have w := wps_mono w fun _ _ y => y.on st2
      have w := turn_end (N := fun σ2 H2 => i + 1 ≤ J.items.length ∧ ∃ ρ' hs' σz', Stp ρ1 hs1 H1 ρ' hs' H2 ∧ RelH X.K ρ' hs' H2 ∧ RelS ρ' H2 σz' σ2 ∧ wps (loopF J.src (fun x σ => ev σ (bindT t x σ) fun σ' => execs z.C sb σ') (J.items.drop (i + 1)) σz' hs') (EQ z X.K W D ρ' hs' H2)) w
        fun ρ3 hs3 H3 σz3 σ3 st3 R3 S3 w => ⟨hlt, ρ3, hs3, σz3, st'.trans (st2.trans st3), R3, S3, w⟩
      have S2 := S'.on st2
      exact ⟨ρ', hs', σz', _, R2, S2, rt, _, wp_mono (wps_ev.mp w) (fun σz3 hs3 w ρ3 H3 σ3 st3 R3 S3 _ => ⟨ρ3, hs3, σz3, R3, S3, wps_mono w fun _ _ y => y.on st3⟩) fun _ _ _ y => y⟩
    · rw [List.drop_eq_nil_of_le (by omega)] at w
      obtain ⟨h1, w⟩ := wps_still w
      obtain ⟨_, hstop⟩ := rel ρ' hs' H' st'.rx st'.tup R' h1
      exact .inl ⟨hstop i (by omega), w ρ' H' σ' R'.refl R' S'⟩
end
end Z
-- ZS18
namespace Z
open PySem PySem.Spec PyProof.Rows L2
section
variable {X : Cx} {z : Zx} {W : WX} {e o i c tg a b : Expr} {ze zo zi za zb : E} {pos : Pos} {t : T} {st : Stmt} {sts : List Stmt} {s : S} {ss sa sb : List S}
/-! a, b = x, y -/
theorem s_par {j k : Nat} {x y : Str} {px py pt : Pos} {kt k2 pt2} (hc : X.calm = true) (hN : X.N.Nodup) (hi : X.N[j]? = some x) (hj : X.N[k]? = some y) (hij : j ≠ k) (hx : X.env.scope.names.lookup x = some .local) (hy : X.env.scope.names.lookup y = some .local)
    (ha : PE X a (tE z X.K W za)) (hb : PE X b (tE z X.K W zb)) (hna : nsE a = true) (hnb : nsE b = true) (hw : swappedStores [.Tuple [.Name x px, .Name y py] kt pt] (.Tuple [a, b] k2 pt2) X.env = pure (some [x, y])) :
    PS X (.Assign [.Tuple [.Name x px, .Name y py] kt pt] (.Tuple [a, b] k2 pt2) pos) (tS z X.K W (.par j k za zb)) :=
  PS.imp (ps_par hc hN hi hj hij hx hy (pa_cons ha (pa_cons hb pa_nil (star_cons hnb)) (star_cons hna)) hw rfl) fun D σ H ⟨ρ, hs, σz, R, S, w⟩ =>
    stepSE R S w fun ρ1 H1 hs1 vx x st R1 S1 rx w => stepSE R1 S1 w fun ρ2 H2 hs2 vy y st2 R2 S2 ry w => ⟨x, y, rfl, w ρ2 H2 _ R2.refl R2 ((S2.set j (rx.on st2)).set k ry)⟩
/-! rows made by a for within -/
theorem s_lc {elt iter : Expr} {ifs : List Expr} {scope : Scope} {own : List (Str × Nat)} {zelt : E} {zit : I} {zcs : List E} (hc : X.calm = true) (hN : X.N.Nodup) (hi : PI X tg iter (iZ z X.K W t zit)) (ok : BlkOk X.N X.env.scope scope own)
    (hg : ∀ (s : Shared) (H : Hp) (C : Addr) (cl : List (Str × Addr)) (fp : List Addr), PG (X.blk s H scope (compEnvC scope cl C X.env) fp) tg (gZ X.K t)) (ht : ∀ (s : Shared) (H : Hp) (C : Addr) (cl : List (Str × Addr)) (fp : List Addr), PTs (X.blk s H scope (compEnvC scope cl C X.env) fp) ifs (tCs z X.K noW zcs))
    (he : ∀ (s : Shared) (H : Hp) (C : Addr) (cl : List (Str × Addr)) (fp : List Addr), PE (X.blk s H scope (compEnvC scope cl C X.env) fp) elt (tE z X.K noW zelt)) (hix : ∀ i ∈ t.ixs, i ∈ own.map (·.2)) (hf : ∀ x, foldedSetIterable iter X.env x = pure x) :
    PE X (.ListComp elt [⟨tg, iter, ifs, 0⟩] scope pos) (tE z X.K W (.comp zelt t zit zcs (own.map (·.2)))) :=
  PE.imp (pe_lc hc hN hi ok hg ht he hf) (s_comp hc hN hi ok hg ht he hix)
theorem s_setLc {j : Nat} {y : Str} {py spos : Pos} {elt iter : Expr} {ifs : List Expr} {scope : Scope} {own : List (Str × Nat)} {zelt : E} {zit : I} {zcs : List E} (hc : X.calm = true) (hN : X.N.Nodup) (hy : X.N[j]? = some y) (hyl : X.env.scope.names.lookup y = some .local)
    (hsw : swapsWith (.ListComp elt [⟨tg, iter, ifs, 0⟩] scope pos) (some (.Name y py)) spos.line X.env = pure true) (hi : PI X tg iter (iZ z X.K W t zit)) (ok : BlkOk X.N X.env.scope scope own)
    (hg : ∀ (s : Shared) (H : Hp) (C : Addr) (cl : List (Str × Addr)) (fp : List Addr), PG (X.blk s H scope (compEnvC scope cl C X.env) fp) tg (gZ X.K t)) (ht : ∀ (s : Shared) (H : Hp) (C : Addr) (cl : List (Str × Addr)) (fp : List Addr), PTs (X.blk s H scope (compEnvC scope cl C X.env) fp) ifs (tCs z X.K noW zcs))
    (he : ∀ (s : Shared) (H : Hp) (C : Addr) (cl : List (Str × Addr)) (fp : List Addr), PE (X.blk s H scope (compEnvC scope cl C X.env) fp) elt (tE z X.K noW zelt)) (hix : ∀ i ∈ t.ixs, i ∈ own.map (·.2)) (hf : ∀ x, foldedSetIterable iter X.env x = pure x) :
    PS X (.Assign [.Name y py] (.ListComp elt [⟨tg, iter, ifs, 0⟩] scope pos) spos) (tS z X.K W (.asg (.nm j) (.comp zelt t zit zcs (own.map (·.2))))) :=
  PS.imp (ps_setLc hc hN hy hyl hsw hi ok hg ht he hf) fun D σ H ⟨ρ, hs, σz, R, S, w⟩ => by
    have w := stepS S (show wps (ev σz (bnd (evalE z.C (.comp zelt t zit zcs (own.map (·.2))) σz) fun v => bindT (.nm j) v σz) (fun σ' => fin (.nx σ')) hs) (EQ z X.K W D ρ hs H) from w)
    refine s_comp hc hN hi ok hg ht he hix σ H _ (stepE R S w fun ρ1 H1 hs1 vx x st R1 S1 rx w => ?_)
    exact w ρ1 H1 _ st R1 (S1.set j rx)
/-! raise -/
structure ClsOk (X : Cx) (x : Str) (v : Value) : Prop where
  ex : ∃ (C : Addr) (bmB : List Value) (B newId initId : String), v = .ref C ∧ ExcBaseFacts B newId initId bmB ∧ PySem.W.excIn X.K C bmB newId = true ∧ X.mg x = some (.ref C) ∧ PySem.W.keepIn X.K (.ref C) = true ∧ Raises X (.ref C)
theorem pmk_none {x : Str} {p : Pos} {C : Addr} {bmB : List Value} {B newId initId : String} (F : ExcBaseFacts B newId initId bmB) (q : PySem.W.excIn X.K C bmB newId = true) (gC : X.mg x = some (.ref C)) (kC : PySem.W.keepIn X.K (.ref C) = true) (r : Raises X (.ref C)) (hg : Gl X x)
    (hdb : (x == ("__debug__" : Str)) = false) : PMk X (.Call (.Name x p) [] [] pos) (fun _ H Q => Q (.ref C) none H) := by
  intro pins s σ H Q I h
  refine wpAny_Call_Name_kw (ld_glob I hg gC ?_ hdb)
  refine PySem.W.callWith_K0 I.kIn kC ?_
  obtain ⟨bm, N, nm, qn, bs, hdct, sn, sub, ab, col, dd, k0, k1, k2, k3, k5, mN, hC, hN, hni, T⟩ := exc_obj I.kIn q
  exact wpAny_call_exc_subT F T hC hN hni (fun h' e hm => mk_of I hm r h (I.hok.gone hm.new)) (Nat.zero_le _)
theorem s_raise {x : Str} {n : Nat} {p : Pos} {cpos : Pos} (hc : X.calm = true) (tk : Takes X W) (ok : ClsOk X x (z.cl n)) (hn : n < z.nc) (hg : Gl X x) (hdb : (x == ("__debug__" : Str)) = false) : PS X (.Raise (some (.Call (.Name x p) [] [] cpos)) none pos) (tS z X.K W (.raise n [])) := by
  obtain ⟨C, bmB, B, newId, initId, e1, F, q, gC, kC, r⟩ := ok.ex
  refine PS.imp (ps_raise hc tk (pmk_none F q gC kC r hg hdb)) fun D σ H ⟨ρ, hs, σz, R, S, w⟩ => ?_
  rw [← e1]
  exact w ρ H σ none R.refl R S ⟨hn, rfl, rfl⟩
/-! try -/
/-- the clauses, one by one: what they catch, and their suites -/
inductive HdOk (X : Cx) (z : Zx) : List ExceptHandler → List (List Nat × List S) → List (Value × (Addr → Value → Option Addr → TS)) → Prop
  | nil : HdOk X z [] [] []
  | cons {x : Str} {k : Nat} {cs : List Nat} {zs : List S} {b₀ : Stmt} {suite : List Stmt} {np pos' : Pos} {hds : List ExceptHandler} {zh : List (List Nat × List S)} {l : List (Value × (Addr → Value → Option Addr → TS))} (hc : Names X x (z.cl k))
      (hm : ∀ c, c < z.nc → PySem.W.exmOne X.K (z.cl c) (z.cl k) = some (decide (c ∈ cs)))
      (hsu : ∀ (a : Addr) (pn : List (Addr × Obj)), PSs (X.suite a pn) (b₀ :: suite) (tSs z X.K noW zs)) (r : HdOk X z hds zh l) :
      HdOk X z (.ExceptHandler (some (.Name x np)) none (b₀ :: suite) pos' :: hds) ((cs, zs) :: zh) ((z.cl k, fun _ _ _ => tSs z X.K noW zs) :: l)
theorem HdOk.hds {hds : List ExceptHandler} {zh : List (List Nat × List S)} {l : List (Value × (Addr → Value → Option Addr → TS))} (h : HdOk X z hds zh l) : HdsOk X hds l := by
  induction h with
  | nil => exact .nil
  | cons hc hm hsu _ ih => exact .cons hc (fun a oe cls d pn _ _ => hsu a _) ih
theorem hd_wish {K : PySem.W.Frag} (hK : X.K = K) {D : Ends} {ρ : Rho} {hs h' : Hs} {H : Hp} {cc : Nat} {vs : List Val} {σz : Zt} {hds : List ExceptHandler} {zh : List (List Nat × List S)} {l : List (Value × (Addr → Value → Option Addr → TS))} (h : HdOk X z hds zh l)
    (w : wps (handle z.C zh cc vs σz h') (EQ z K W D ρ hs H)) : EQ z K (wMany K W D l) D ρ hs H (.xc cc vs σz) h' := by
  subst hK
  intro ρ' H' σ' d st R S x
  induction h with
  | nil => exact w ρ' H' σ' d st R S x
  | @cons y k cs zs b₀ suite np pos' hds2 zh2 l2 hc hm hsu r ih =>
    refine ⟨decide (cc ∈ cs), hm cc x.1, fun hb a ha => ?_, fun hb => ?_⟩
    · have hb := of_decide_eq_true hb
      have w : wps ((if cc ∈ cs then calmS (execs z.C zs σz) else handle z.C zh2 cc vs σz) h') (EQ z X.K W D ρ hs H) := w
      rw [if_pos hb] at w
      refine ⟨ρ', h', σz, R, S, wps_mono (wps_calm w) fun o h2 ⟨ne, q⟩ => ?_⟩
      have q := q.on st
      cases o with
      | xc c2 vs2 σ2 => exact absurd rfl (ne _ _ _)
      | nx _ => exact q
      | bk _ => exact q
      | ct _ => exact q
      | rt _ => exact q
    · have hb := of_decide_eq_false hb
      have w : wps ((if cc ∈ cs then calmS (execs z.C zs σz) else handle z.C zh2 cc vs σz) h') (EQ z X.K W D ρ hs H) := w
      rw [if_neg hb] at w
      exact ih w
theorem s_try {body : List Stmt} {h₀ : ExceptHandler} {hds : List ExceptHandler} {zb : List S} {zh : List (List Nat × List S)} {l : List (Value × (Addr → Value → Option Addr → TS))} (hs : X.stack = X.env :: X.outer) (hf : X.env.frame = some X.env.locals) (tk : Takes X W)
    (hb : ∀ (W : WX) (pn : List (Addr × Obj)) (xe : Value → Shared → Prop), Takes (X.tr pn xe) W → PassesOwn (model X.prog X.w) X.A X.env xe → PSs (X.tr pn xe) body (tSs z X.K W zb))
    (hh : HdOk X z (h₀ :: hds) zh l) : PS X (.Try body (h₀ :: hds) [] [] pos) (tS z X.K W (.try_ zb zh)) := by
  refine PS.imp (ps_try_many hs hf tk (tb := fun W => tSs z X.K W zb) hb hh.hds) fun D σ H ⟨ρ, hs, σz, R, S, w⟩ => ⟨ρ, hs, σz, R, S, ?_⟩
  have w : wps (match execs z.C zb σz hs with | some (.xc c vs σ', h') => handle z.C zh c vs σ' h' | r => r) (EQ z X.K W D ρ hs H) := w
  cases e1 : execs z.C zb σz hs with
  | none => rw [e1] at w; exact w
  | some q =>
    obtain ⟨o, h'⟩ := q
    rw [e1] at w
    cases o with
    | xc c vs σ' => exact hd_wish rfl hh w
    | nx _ => exact w
    | bk _ => exact w
    | ct _ => exact w
    | rt _ => exact w
end
end Z
-- ZS19
namespace Z
open PySem PySem.Spec PyProof.Rows L2
/-! # The check: a tree of the program is a tree of the interpreter -/
/-- what the defs of a text have in common: built-in names that nobody hides, the defs with how many they take, the classes of errors, which is caught where which is named -/
structure Gb where
  frees : List Str
  fns : List (Str × Nat)
  cls : List Str
  mat : List (List Bool)
  consts : List (Str × Val)
def Gb.caught (g : Gb) (c k : Nat) : Bool := ((g.mat[c]?.getD [])[k]?).getD false
/-- where a tree stands -/
structure Cc where
  sc : Scope
  N : List Str
  fn : Str → Bool
  calm : Bool
  top : Bool
def Cc.blk (c : Cc) (scope : Scope) : Cc := { c with sc := relS scope c.sc, fn := fun x => scope.names.lookup x == some .cell, top := false }
def Cc.inTry (c : Cc) : Cc := c
def Cc.suite (c : Cc) : Cc := { c with calm := false, top := false }
inductive Job where
  | e (x : Expr) (z : E) | t (x : Expr) (z : E) | es (xs : List Expr) (zs : List E) | bt (op : BoolOp) (xs : List Expr) (z : E) | bv (op : BoolOp) (xs : List Expr) (z : E)
  | it (x : Expr) (z : I) | g (x : Expr) (t : T) | gs (xs : List Expr) (ts : List T) | cs (xs : List Expr) (zs : List E) | po (x : Option Expr) (z : E) | rg (x : Expr) (zs : List E)
  | s (x : Stmt) (z : S) | ss (xs : List Stmt) (zs : List S) | hd (xs : List ExceptHandler) (zs : List (List Nat × List S))
def opC : Operator → Bop → Bool
  | .Add, .add => true | .Sub, .sub => true | .Mult, .mul => true | .FloorDiv, .fdiv => true | .Mod, .mod => true | .Pow, .pow => true | .LShift, .shl => true | .RShift, .shr => true
  | .BitAnd, .band => true | .BitOr, .bor => true | .BitXor, .bxor => true | _, _ => false
theorem opC_is {o : Operator} {b : Bop} (h : opC o b = true) : o = pyOp b := by
  cases o <;> cases b <;> first | rfl | (exact absurd h (by decide))
def cmpC : CmpOp → Cop → Bool
  | .Eq, .eq => true | .NotEq, .ne => true | .Lt, .lt => true | .LtE, .le => true | .Gt, .gt => true | .GtE, .ge => true | .Is, .is => true | .IsNot, .isnot => true | .In, .isin => true | .NotIn, .notin => true
  | _, _ => false
theorem cmpC_is {o : CmpOp} {b : Cop} (h : cmpC o b = true) : o = pyCmp b := by
  cases o <;> cases b <;> first | rfl | (exact absurd h (by decide))
def noSet : Expr → Bool
  | .Set .. => false
  | _ => true
def noSlice : Expr → Bool
  | .Slice .. => false
  | _ => true
def noRows : Expr → Bool
  | .ListComp .. => false | .SetComp .. => false | .DictComp .. => false
  | _ => true
def noCall0 : Expr → Bool
  | .Call (.Name _ _) [] [] _ => false
  | _ => true
/-- a name's kind -/
def visC (sc : Scope) (x : Str) : Bool := match sc.names.lookup x with
  | some .local => true | some .cell => true | some .free => true | _ => false
def locC (c : Cc) (x : Str) : Bool := match c.sc.names.lookup x with
  | some .local => true | some .cell => c.fn x | _ => false
def localC (sc : Scope) (x : Str) : Bool := match sc.names.lookup x with
  | some .local => true | _ => false
def glC (sc : Scope) (x : Str) : Bool := decide (sc.names.lookup x = some NameKind.globalImplicit)
def bltC (g : Gb) (c : Cc) (nm x : Str) : Bool := decide (nm = x) && glC c.sc x && g.frees.contains x
/-- the built-in functions that are called by name: the name, whether it is a type -/
def biS : Bi → Option (String × Bool)
  | .len => some ("len", false) | .abs => some ("abs", false) | .int => some ("int", true) | .tuple => some ("tuple", true) | .list => some ("list", true) | .sorted => some ("sorted", false)
  | .min => some ("min", false) | .max => some ("max", false) | .sum => some ("sum", false) | .all => some ("all", false) | .any => some ("any", false) | .bool => some ("bool", true)
  | _ => none
/-- does a row by for take the place of its name's old value on the way -/
def swB (sc : Scope) (scope : Scope) (y : Str) (py pos : Pos) : Bool := decide (sc.kind = .function) && localC sc y && (py.line == pos.line) && !(scope.names.any fun (n, k) => n == y && (k == .local || k == .cell))
def pairC : List Expr → Expr → Bool
  | [.Tuple ..], .Tuple .. => true
  | [.List ..], .Tuple .. => true
  | _, _ => false
def tyNames (g : Gb) (c : Cc) : List Expr → List Ty → Bool
  | [], [] => true
  | .Name n _ :: r, t :: ts => bltC g c n (Str.ofString (tyS t)) && tyNames g c r ts
  | _, _ => false
def conC : Val → Const → Bool
  | .int i, .int j => decide (i = j)
  | .bl a, .bool b => decide (a = b)
  | .non, .none => true
  | .str a, .str b => decide (a = b)
  | _, _ => false
def chk (g : Gb) : Nat → Cc → Job → Bool
  | 0, _, _ => false
  | n + 1, c, .e x ze => match ze with
    | .var i => (match x with
      | .Name nm _ => decide (c.N[i]? = some nm) && visC c.sc nm && !(nm == ("__debug__" : Str)) && !(nm == ("__classdict__" : Str))
      | _ => false)
    | .con v => (match x with
      | .Constant k _ _ => conC v k
      | .Name nm _ => glC c.sc nm && !(nm == ("__debug__" : Str)) && v.flat && g.consts.any (fun p => decide (p.1 = nm) && decide (p.2 = v))
      | _ => false)
    | .bin op a b => (match x with
      | .BinOp p o q _ => opC o op && chk g n c (.e p a) && chk g n c (.e q b)
      | _ => false)
    | .cmp op a b => (match x with
      | .Compare p [o] [q] _ => cmpC o op && noSet q && chk g n c (.e p a) && chk g n c (.e q b)
      | _ => false)
    | .chain op op2 a b d => (match x with
      | .Compare p [o, o2] [q, r] _ => cmpC o op && cmpC o2 op2 && noSet r && chk g n c (.e p a) && chk g n c (.e q b) && chk g n c (.e r d)
      | _ => false)
    | .neg a => (match x with
      | .UnaryOp .USub p _ => chk g n c (.e p a)
      | _ => false)
    | .inv a => (match x with
      | .UnaryOp .Invert p _ => chk g n c (.e p a)
      | _ => false)
    | .not a => (match x with
      | .UnaryOp .Not p _ => chk g n c (.e p a)
      | _ => false)
    | .and a b => (match x with
      | .BoolOp .And xs _ => chk g n c (.bv .And xs (.and a b))
      | _ => false)
    | .or a b => (match x with
      | .BoolOp .Or xs _ => chk g n c (.bv .Or xs (.or a b))
      | _ => false)
    | .ifx d a b => (match x with
      | .IfExp r p q _ => chk g n c (.t r d) && chk g n c (.e p a) && chk g n c (.e q b)
      | _ => false)
    | .idx a i => (match x with
      | .Subscript p q _ => noSlice q && chk g n c (.e p a) && chk g n c (.e q i)
      | _ => false)
    | .sl a lo hi => (match x with
      | .Subscript p (.Slice l h none _) _ => chk g n c (.e p a) && chk g n c (.po l lo) && chk g n c (.po h hi)
      | _ => false)
    | .rev a => (match x with
      | .Subscript p (.Slice none none (some (.UnaryOp .USub (.Constant (.int 1) _ _) _)) _) _ => chk g n c (.e p a)
      | _ => false)
    | .lst es => (match x with
      | .List xs _ => decide (es.length ≤ 1000) && chk g n c (.es xs es)
      | _ => false)
    | .tup es => (match x with
      | .Tuple xs _ _ => decide (es.length ≤ 1000) && chk g n c (.es xs es)
      | _ => false)
    | .dctK ks vs => (match x with
      | .Dict [] [] _ => ks.isEmpty && vs.isEmpty
      | _ => false)
    | .call f es => (match x with
      | .Call (.Name nm _) xs [] _ => c.calm && glC c.sc nm && decide (g.fns[f]? = some (nm, es.length)) && !xs.isEmpty && !(nm == ("__debug__" : Str)) && chk g n c (.es xs es)
      | _ => false)
    | .bi b es => (match x with
      | .Call (.Name nm _) xs [] _ => (match b with
        | .isinst ts => (match xs, es with
          | [p, .Tuple cs _ _], [a] => bltC g c nm "isinstance" && nsE p && !ts.isEmpty && decide (ts.length ≤ 1000) && tyNames g c cs ts && chk g n c (.e p a)
          | [p, q], [a] => (match ts with
            | [t] => bltC g c nm "isinstance" && nsE p && tyNames g c [q] [t] && chk g n c (.e p a)
            | _ => false)
          | _, _ => false)
        | .listRange => (match xs with
          | [r] => c.calm && bltC g c nm "list" && nsE r && chk g n c (.rg r es)
          | _ => false)
        | .tupleRange => (match xs with
          | [r] => c.calm && bltC g c nm "tuple" && nsE r && chk g n c (.rg r es)
          | _ => false)
        | .sortedSet => (match xs, es with
          | [.Call (.Name nm2 _) [p] [] _], [a] => c.calm && bltC g c nm "sorted" && bltC g c nm2 "set" && nsE p && chk g n c (.e p a)
          | _, _ => false)
        | b => (match biS b with
          | some (q, _) => c.calm && bltC g c nm (Str.ofString q) && !xs.isEmpty && chk g n c (.es xs es)
          | none => false))
      | _ => false)
    | .me m o es => (match x with
      | .Call (.Attribute p nm ap) xs [] cp => decide (nm = Str.ofString (meS m)) && (ap.endLine == cp.line) && decide (xs.length < 29) && noCall0 p && chk g n c (.e p o) && chk g n c (.es xs es)
      | _ => false)
    | .comp elt t it cs own => (match x with
      | .ListComp ex [⟨tg, iter, ifs, 0⟩] scope _ => c.calm && blkC c.N c.sc scope (own.map fun i => (c.N.getD i "", i)) && t.ixs.all (fun i => own.contains i) && chk g n c (.it iter it) && chk g n (c.blk scope) (.g tg t) &&
          chk g n (c.blk scope) (.cs ifs cs) && chk g n (c.blk scope) (.e ex elt)
      | _ => false)
    | _ => false
  | n + 1, c, .es xs zs => (match xs, zs with
    | [], [] => true
    | x :: xs, z :: zs => nsE x && chk g n c (.e x z) && chk g n c (.es xs zs)
    | _, _ => false)
  | n + 1, c, .t x ze => (match x with
    | .BoolOp op xs _ => chk g n c (.bt op xs ze)
    | .UnaryOp .Not p _ => (match ze with
      | .not a => chk g n c (.t p a)
      | _ => false)
    | .IfExp .. => false
    | .Compare p [o] [q] _ => (match ze with
      | .cmp op a b => cmpC o op && noSet q && chk g n c (.e p a) && chk g n c (.e q b)
      | _ => false)
    | .Compare p [o, o2] [q, r] _ => (match ze with
      | .chain op op2 a b d => cmpC o op && cmpC o2 op2 && noSet r && chk g n c (.e p a) && chk g n c (.e q b) && chk g n c (.e r d)
      | _ => false)
    | .Name nm p => chk g n c (.e (.Name nm p) ze)
    | .Constant v k p => chk g n c (.e (.Constant v k p) ze)
    | .Call f a k p => chk g n c (.e (.Call f a k p) ze)
    | .Subscript a b p => chk g n c (.e (.Subscript a b p) ze)
    | .BinOp a o b p => chk g n c (.e (.BinOp a o b p) ze)
    | .ListComp e g' s p => chk g n c (.e (.ListComp e g' s p) ze)
    | _ => false)
  | n + 1, c, .bt op xs ze => (match xs with
    | [x] => chk g n c (.t x ze)
    | x :: y :: r => (match op, ze with
      | .And, .and a b => chk g n c (.t x a) && chk g n c (.bt .And (y :: r) b)
      | .Or, .or a b => chk g n c (.t x a) && chk g n c (.bt .Or (y :: r) b)
      | _, _ => false)
    | [] => false)
  | n + 1, c, .bv op xs ze => (match xs with
    | [x] => chk g n c (.e x ze)
    | x :: y :: r => (match op, ze with
      | .And, .and a b => chk g n c (.e x a) && chk g n c (.bv .And (y :: r) b)
      | .Or, .or a b => chk g n c (.e x a) && chk g n c (.bv .Or (y :: r) b)
      | _, _ => false)
    | [] => false)
  | n + 1, c, .it x zi => noSet x && (match zi with
    | .seq ze => chk g n c (.e x ze)
    | .rng1 a => (match x with
      | .Call (.Name nm _) [p] [] _ => bltC g c nm "range" && nsE p && chk g n c (.e p a)
      | _ => false)
    | .rng2 a b => (match x with
      | .Call (.Name nm _) [p, q] [] _ => bltC g c nm "range" && nsE p && nsE q && chk g n c (.e p a) && chk g n c (.e q b)
      | _ => false)
    | _ => false)
  | n + 1, c, .g x t => (match x, t with
    | .Name nm _, .nm i => decide (c.N[i]? = some nm) && locC c nm
    | .Tuple xs _ _, .tp ts => c.calm && chk g n c (.gs xs ts)
    | _, _ => false)
  | n + 1, c, .gs xs ts => (match xs, ts with
    | [], [] => true
    | x :: xs, t :: ts => nsE x && chk g n c (.g x t) && chk g n c (.gs xs ts)
    | _, _ => false)
  | n + 1, c, .cs xs zs => (match xs, zs with
    | [], [] => true
    | [x], [z] => chk g n c (.t x z)
    | _, _ => false)
  | n + 1, c, .po x ze => (match x with
    | none => (match ze with
      | .con .non => true
      | _ => false)
    | some x => !ze.isNon && chk g n c (.e x ze))
  | n + 1, c, .rg x zs => (match x with
    | .Call (.Name nm _) [p] [] _ => (match zs with
      | [a] => bltC g c nm "range" && nsE p && chk g n c (.e p a)
      | _ => false)
    | .Call (.Name nm _) [p, q] [] _ => (match zs with
      | [a, b] => bltC g c nm "range" && nsE p && nsE q && chk g n c (.e p a) && chk g n c (.e q b)
      | _ => false)
    | _ => false)
  | n + 1, c, .s x zs => (match zs with
    | .asg t e => (match x with
      | .Assign [tg] (.ListComp ex gs scope pos) _ => (match tg with
        | .Name y py => (match swB c.sc scope y py pos with
          | true => (match gs, t, e with
            | [⟨tg2, iter, ifs, 0⟩], .nm j, .comp elt t2 it cs own => decide (c.N[j]? = some y) && c.calm && blkC c.N c.sc scope (own.map fun i => (c.N.getD i "", i)) && t2.ixs.all (fun i => own.contains i) && chk g n c (.it iter it) && chk g n (c.blk scope) (.g tg2 t2) &&
              chk g n (c.blk scope) (.cs ifs cs) && chk g n (c.blk scope) (.e ex elt)
            | _, _, _ => false)
          | false => chk g n c (.g (.Name y py) t) && chk g n c (.e (.ListComp ex gs scope pos) e))
        | _ => false)
      | .Assign [tg] ex _ => noRows ex && !pairC [tg] ex && nsE tg && chk g n c (.g tg t) && chk g n c (.e ex e)
      | _ => false)
    | .par i j a b => (match x with
      | .Assign [.Tuple [.Name nx px, .Name ny py] _ _] (.Tuple [p, q] _ _) _ => c.calm && decide (c.sc.kind = .function) && decide (c.N[i]? = some nx) && decide (c.N[j]? = some ny) && decide (i ≠ j) && decide (nx ≠ ny) && localC c.sc nx && localC c.sc ny && (px.line == py.line) &&
        nsE p && nsE q && !([p, q].all (foldedForSure 8)) && !([p, q].all (constantsAlone 8)) && chk g n c (.e p a) && chk g n c (.e q b)
      | _ => false)
    | .sub o i e => (match x with
      | .Assign [.Subscript p q _] ex _ => noSlice q && chk g n c (.e ex e) && chk g n c (.e p o) && chk g n c (.e q i)
      | _ => false)
    | .aug j op e => (match x with
      | .AugAssign (.Name nm _) o ex _ => opC o op && decide (c.N[j]? = some nm) && locC c nm && chk g n c (.e ex e)
      | _ => false)
    | .ex e => (match x with
      | .Expr ex _ => noRows ex && chk g n c (.e ex e)
      | _ => false)
    | .ret e => (match x with
      | .Return (some ex) _ => chk g n c (.e ex e)
      | _ => false)
    | .retn => (match x with
      | .Return none _ => true
      | _ => false)
    | .iff d a b => (match x with
      | .If p xs ys _ => chk g n c (.t p d) && chk g n c (.ss xs a) && chk g n c (.ss ys b)
      | _ => false)
    | .for_ t it b => (match x with
      | .For tg ex xs [] _ => c.calm && chk g n c (.it ex it) && chk g n c (.g tg t) && chk g n c (.ss xs b)
      | _ => false)
    | .while_ d b => (match x with
      | .While p xs [] _ => chk g n c (.t p d) && chk g n c (.ss xs b)
      | _ => false)
    | .raise k es => (match x with
      | .Raise (some (.Call (.Name nm _) [] [] _)) none _ => c.calm && es.isEmpty && glC c.sc nm && !(nm == ("__debug__" : Str)) && decide (g.cls[k]? = some nm)
      | _ => false)
    | .try_ b hs => (match x with
      | .Try xs (h :: hds) [] [] _ => c.top && c.calm && chk g n c (.ss xs b) && chk g n c (.hd (h :: hds) hs)
      | _ => false)
    | .brk => (match x with
      | .Break _ => true
      | _ => false)
    | .cont => (match x with
      | .Continue _ => true
      | _ => false)
    | .pass => (match x with
      | .Pass _ => true
      | _ => false)
    | _ => false)
  | n + 1, c, .ss xs zs => (match xs, zs with
    | [], [] => true
    | x :: xs, z :: zs => chk g n c (.s x z) && chk g n c (.ss xs zs)
    | _, _ => false)
  | n + 1, c, .hd xs zs => (match xs, zs with
    | [], [] => true
    | .ExceptHandler (some (.Name nm _)) none (b :: suite) _ :: xs, (cs, b2) :: zs => glC c.sc nm && !(nm == ("__debug__" : Str)) && (match g.cls.findIdx? (· == nm) with
        | some k => decide (g.cls[k]? = some nm) && (List.range g.cls.length).all (fun i => g.caught i k == decide (i ∈ cs))
        | none => false) && chk g n c.suite (.ss (b :: suite) b2) && chk g n c (.hd xs zs)
    | _, _ => false)
end Z
-- ZS20
namespace Z
open PySem PySem.Spec PyProof.Rows L2
structure XOk (X : Cx) (z : Zx) (g : Gb) (c : Cc) : Prop where
  kd : X.env.scope.kind = .function
  sc : X.env.scope = c.sc
  N : X.N = c.N
  nd : X.N.Nodup
  fn : X.fn = c.fn
  calm : c.calm = true → X.calm = true
  units : X.A.units + 200 < cLine
  frees : ∀ x ∈ g.frees, X.mg x = none
  consts : ∀ p ∈ g.consts, ∃ u, X.mg p.1 = some u ∧ RelV (flatW p.2) u
  call : c.calm = true → ∀ f x np, g.fns[f]? = some (x, np) → CallOk X z x f np
  nc : z.nc = g.cls.length
  cls : ∀ n x, g.cls[n]? = some x → ClsOk X x (z.cl n)
  mat : ∀ n k, n < g.cls.length → k < g.cls.length → PySem.W.exmOne X.K (z.cl n) (z.cl k) = some (g.caught n k)
  top : c.top = true → X.stack = X.env :: X.outer ∧ X.env.frame = some X.env.locals
section
variable {X : Cx} {z : Zx} {g : Gb} {c : Cc}
theorem CallOk.same {X Y : Cx} {x : Str} {f np : Nat} (h : CallOk X z x f np) (h1 : Y.prog = X.prog) (h2 : Y.w = X.w) (h3 : Y.K = X.K) (h4 : Y.mg = X.mg) (h5 : Y.base = X.base) (h6 : Y.A = X.A) : CallOk Y z x f np := by
  obtain ⟨k, fa, fd, ps, q⟩ := h.ex
  exact ⟨k, fa, fd, ps, by rw [h1, h2, h3, h4, h5, h6]; exact q⟩
theorem ClsOk.same {X Y : Cx} {x : Str} {v : Value} (h : ClsOk X x v) (h3 : Y.K = X.K) (h4 : Y.mg = X.mg) : ClsOk Y x v := by
  obtain ⟨C, bmB, B, n1, n2, q1, q2, q3, q4, q5, q6⟩ := h.ex
  exact ⟨C, bmB, B, n1, n2, q1, q2, by rw [h3]; exact q3, by rw [h4]; exact q4, by rw [h3]; exact q5, fun M h0 k => q6 M h0 (by rw [← h3]; exact k)⟩
theorem XOk.blk (h : XOk X z g c) (s : Shared) (H : Hp) (C : Addr) (cl : List (Str × Addr)) (fp : List Addr) (scope : Scope) (hk : scope.kind = .function) : XOk (X.blk s H scope (compEnvC scope cl C X.env) fp) z g (c.blk scope) :=
  ⟨hk, by show relS scope X.env.scope = relS scope c.sc; rw [h.sc], h.N, h.nd, rfl, h.calm, h.units, h.frees, h.consts, fun hc f x np e => (h.call hc f x np e).same rfl rfl rfl rfl rfl rfl, h.nc, (fun n x e => (h.cls n x e).same rfl rfl), h.mat, (fun e => Bool.noConfusion e)⟩
theorem XOk.suite (h : XOk X z g c) (a : Addr) (pn : List (Addr × PySem.Obj)) : XOk (X.suite a pn) z g c.suite :=
  ⟨h.kd, h.sc, h.N, h.nd, h.fn, (fun e => Bool.noConfusion e), h.units, h.frees, h.consts, (fun e => Bool.noConfusion e), h.nc, (fun n x e => (h.cls n x e).same rfl rfl), h.mat, (fun e => Bool.noConfusion e)⟩
theorem XOk.tr (h : XOk X z g c) (pn : List (Addr × PySem.Obj)) (xe : Value → Shared → Prop) : XOk (X.tr pn xe) z g c :=
  ⟨h.kd, h.sc, h.N, h.nd, h.fn, h.calm, h.units, h.frees, h.consts, fun hc f x np e => (h.call hc f x np e).same rfl rfl rfl rfl rfl rfl, h.nc, fun n x e => (h.cls n x e).same rfl rfl, h.mat, h.top⟩
theorem XOk.gl (h : XOk X z g c) {x : Str} (e : glC c.sc x = true) : Gl X x := by
  show X.env.scope.names.lookup x = some .globalImplicit
  rw [h.sc]
  exact of_decide_eq_true e
theorem XOk.blt (h : XOk X z g c) {nm x : Str} (e : bltC g c nm x = true) : nm = x ∧ Gl X x ∧ X.mg x = none := by
  unfold bltC at e
  rw [Bool.and_eq_true, Bool.and_eq_true] at e
  exact ⟨of_decide_eq_true e.1.1, h.gl e.1.2, h.frees x (by simpa using e.2)⟩
theorem XOk.vis (h : XOk X z g c) {x : Str} (e : visC c.sc x = true) : Vis X.env.scope x := by
  unfold visC at e
  rw [← h.sc] at e
  unfold Vis
  split at e <;> first | exact .inl (by assumption) | exact .inr (.inl (by assumption)) | exact .inr (.inr (by assumption)) | cases e
theorem XOk.loc (h : XOk X z g c) {x : Str} (e : locC c x = true) : L2.Loc X.env.scope x ∧ (X.fn x = true ∨ X.env.scope.names.lookup x = some .local) := by
  unfold locC at e
  rw [← h.sc] at e
  unfold L2.Loc
  split at e
  · rename_i q; exact ⟨.inl q, .inr q⟩
  · rename_i q; exact ⟨.inr q, .inl (by rw [h.fn]; exact e)⟩
  · cases e
theorem XOk.loc1 (h : XOk X z g c) {x : Str} (e : localC c.sc x = true) : X.env.scope.names.lookup x = some .local := by
  unfold localC at e
  rw [← h.sc] at e
  split at e
  · assumption
  · cases e
theorem XOk.ix (h : XOk X z g c) {i : Nat} {x : Str} (e : decide (c.N[i]? = some x) = true) : X.N[i]? = some x := by
  rw [h.N]; exact of_decide_eq_true e
end
def JobOk (X : Cx) (z : Zx) (W : WX) : Job → Prop
  | .e x ze => PE X x (tE z X.K W ze)
  | .t x ze => PT X x (tT z X.K W ze)
  | .es xs zs => PA X xs (tEs z X.K W zs) ∧ xs.all nsE = true ∧ xs.length = zs.length
  | .bt op xs ze => ∀ pos, PW X (.BoolOp op xs pos) (tT z X.K W ze)
  | .bv op xs ze => ∀ pos, PE X (.BoolOp op xs pos) (tE z X.K W ze)
  | .it x zi => (∀ tg t, PI X tg x (iZ z X.K W t zi)) ∧ ∀ q, foldedSetIterable x X.env q = pure q
  | .g x t => PG X x (gZ X.K t)
  | .gs xs ts => PGs X xs (gZs X.K ts) ∧ xs.all nsE = true ∧ xs.length = ts.length
  | .cs xs zs => PTs X xs (tCs z X.K W zs)
  | .po x ze => PO X x (tO z X.K W ze.isNon ze)
  | .rg x zs => PRg X x (tRg z X.K W zs)
  | .s x zs => PS X x (tS z X.K W zs)
  | .ss xs zs => PSs X xs (tSs z X.K W zs)
  | .hd xs zs => ∃ l, HdOk X z xs zs l
theorem noSet_is {b : Expr} (h : noSet b = true) : ∀ es k p, b ≠ .Set es k p := fun es k p e => by
  subst e; cases h
theorem folded_of {x : Expr} {env : Env} (h : noSet x = true) (q : Value) : foldedSetIterable x env q = pure q := by
  cases x <;> first | rfl | (cases h)
theorem plainIx_of {b : Expr} (h : noSlice b = true) : PlainIx b := by
  intro o i
  cases b <;> first | rfl | (cases h)
theorem base_of {p : Expr} {nm : Str} {env : Env} (h : noCall0 p = true) : attributeBase p nm env (eval p env) = eval p env := by
  unfold attributeBase
  cases p <;> first | rfl | skip
  rename_i f as ks pos
  cases f <;> first | rfl | skip
  cases as <;> first | rfl | skip
  cases ks <;> first | rfl | skip
  exact absurd h (by simp [noCall0])
theorem swaps_of {e : Expr} {tg : Option Expr} {l : Nat} {env : Env} (h : noRows e = true) : swapsWith e tg l env = pure false := by
  unfold swapsWith
  cases e <;> first | rfl | (cases h)
theorem s_not {X : Cx} {z : Zx} {W : WX} {a : Expr} {ea : E} {pos : Pos} (ha : PE X a (tE z X.K W ea)) : PE X (.UnaryOp .Not a pos) (tE z X.K W (.not ea)) := by
  refine ⟨fun pins s σ H Q I ⟨ρ, hs, σz, R, S, w⟩ => ?_⟩
  refine UnaryOp_ (thn (ha.run pins s σ H (fun x H1 => denT X.K x H1 fun b H2 => Q (.bl (!b)) H2) I (stepE R S w fun ρ1 H1 hs1 vx x st R1 S1 rx w => ?_)) fun v s1 ⟨x, H1, I1, r1, q1⟩ => ?_)
  · exact ⟨ρ1, hs1, vx, R1, rx, _, wp_mono (wp_bnd.mp w) (fun b hs2 w ρ2 H2 st2 R2 => w ρ2 H2 _ (st.trans st2) R2 (repV_bl.mpr rfl)) fun _ _ _ y => y⟩
  · exact not_of (thn (or_truth pins s1 σ H1 x v _ I1 r1 q1) fun b s2 ⟨H2, I2, q⟩ => ⟨.bl (!b), H2, I2, rfl, q⟩)
end Z
-- ZS21
namespace Z
open PySem PySem.Spec PyProof.Rows L2
/-- the claim at one depth -/
def ChkOk (g : Gb) (n : Nat) : Prop := ∀ (c : Cc) (j : Job), chk g n c j = true → ∀ (X : Cx) (z : Zx) (W : WX), XOk X z g c → Takes X W → PassesOwn (model X.prog X.w) X.A X.env X.xe → JobOk X z W j
theorem and2 {a b : Bool} (h : (a && b) = true) : a = true ∧ b = true := Bool.and_eq_true_iff.mp h
section
variable {g : Gb} {n : Nat} {c : Cc} {X : Cx} {z : Zx} {W : WX}
theorem flat_rep {ρ : Rho} {H : Hp} {v : Val} (h : v.flat = true) : RepV ρ H v (flatW v) := by
  cases v <;> first | (cases h; done) | skip
  · exact repV_non.mpr rfl
  · exact repV_bl.mpr rfl
  · exact repV_int.mpr rfl
  · exact repV_str.mpr rfl
theorem tyN_is (ok : XOk X z g c) {nm : Str} {t : Ty} {p : Pos} (h : bltC g c nm (Str.ofString (tyS t)) = true) : IsTyN X (.Name nm p) (tyS t) := by
  obtain ⟨rfl, hg, hm⟩ := ok.blt h
  refine ⟨p, rfl, hg, hm, ?_, ?_, ?_⟩
  · cases t <;> decide +kernel
  · cases t <;> decide +kernel
  · cases t <;> decide +kernel
theorem tyNames_is (ok : XOk X z g c) : ∀ {cs : List Expr} {ts : List Ty}, tyNames g c cs ts = true → Paired (fun (t : Ty) (e : Expr) => IsTyN X e (tyS t)) ts cs
  | [], [], _ => .nil
  | [], _ :: _, h => by cases h
  | e :: cs, ts, h => by
    cases e <;> first | (cases ts <;> cases h; done) | skip
    cases ts with
    | nil => cases h
    | cons t ts =>
      obtain ⟨h1, h2⟩ := and2 (show (bltC g c _ (Str.ofString (tyS t)) && tyNames g c cs ts) = true from h)
      exact .cons (tyN_is ok h1) (tyNames_is ok h2)
theorem chk_e (ih : ChkOk g n) {x : Expr} {ze : E} (h : chk g (n + 1) c (.e x ze) = true) (ok : XOk X z g c) (tk : Takes X W) (pas : PassesOwn (model X.prog X.w) X.A X.env X.xe) : PE X x (tE z X.K W ze) := by
  have sub : ∀ {y : Expr} {zy : E}, chk g n c (.e y zy) = true → PE X y (tE z X.K W zy) := fun {y zy} h => ih c (.e y zy) h X z W ok tk pas
  have subs : ∀ {xs : List Expr} {zs : List E}, chk g n c (.es xs zs) = true → PA X xs (tEs z X.K W zs) ∧ xs.all nsE = true ∧ xs.length = zs.length := fun {xs zs} h => ih c (.es xs zs) h X z W ok tk pas
  cases ze with
  | var i =>
    simp only [chk] at h
    split at h <;> first | (cases h; done) | skip
    obtain ⟨h, h4⟩ := and2 h
    obtain ⟨h, h3⟩ := and2 h
    obtain ⟨h1, h2⟩ := and2 h
    exact s_var (ok.ix h1) (ok.vis h2) (by simpa using h3) (by simpa using h4)
  | con v =>
    simp only [chk] at h
    split at h <;> first | (cases h; done) | skip
    · rename_i k _ _
      cases v <;> cases k <;> first | (cases h; done) | skip
      · exact s_non
      · rw [of_decide_eq_true (show decide _ = true from h)]; exact s_bl
      · rw [of_decide_eq_true (show decide _ = true from h)]; exact s_int
      · rw [of_decide_eq_true (show decide _ = true from h)]; exact s_str
    · obtain ⟨h, h4⟩ := and2 h
      obtain ⟨h, h3⟩ := and2 h
      obtain ⟨h1, h2⟩ := and2 h
      obtain ⟨p, hp, hq⟩ := List.any_eq_true.mp h4
      obtain ⟨q1, q2⟩ := and2 hq
      have q1 := of_decide_eq_true q1
      have q2 := of_decide_eq_true q2
      subst q1 q2
      obtain ⟨u, m1, m2⟩ := ok.consts p hp
      exact PE.imp (pe_glob (ok.gl h1) m1 m2 (by simpa using h2)) fun σ H Q ⟨ρ, hs, σz, R, S, w⟩ => PV.here w R (flat_rep h3)
  | bin op a b =>
    simp only [chk] at h
    split at h <;> first | (cases h; done) | skip
    obtain ⟨h, h3⟩ := and2 h
    obtain ⟨h1, h2⟩ := and2 h
    rw [opC_is h1]
    exact s_bin (sub h2) (sub h3)
  | cmp op a b =>
    simp only [chk] at h
    split at h <;> first | (cases h; done) | skip
    obtain ⟨h, h4⟩ := and2 h
    obtain ⟨h, h3⟩ := and2 h
    obtain ⟨h1, h2⟩ := and2 h
    rw [cmpC_is h1]
    exact s_cmp ok.units (sub h3) (sub h4) (noSet_is h2)
  | chain op op2 a b d =>
    simp only [chk] at h
    split at h <;> first | (cases h; done) | skip
    obtain ⟨h, h6⟩ := and2 h
    obtain ⟨h, h5⟩ := and2 h
    obtain ⟨h, h4⟩ := and2 h
    obtain ⟨h, h3⟩ := and2 h
    obtain ⟨h1, h2⟩ := and2 h
    rw [cmpC_is h1, cmpC_is h2]
    exact s_chain ok.units (sub h4) (sub h5) (sub h6) (noSet_is h3)
  | neg a =>
    simp only [chk] at h
    split at h <;> first | (cases h; done) | skip
    exact s_neg (sub h)
  | inv a =>
    simp only [chk] at h
    split at h <;> first | (cases h; done) | skip
    exact s_inv (sub h)
  | not a =>
    simp only [chk] at h
    split at h <;> first | (cases h; done) | skip
    exact s_not (sub h)
  | and a b =>
    simp only [chk] at h
    split at h <;> first | (cases h; done) | skip
    exact ih c (.bv .And _ (.and a b)) h X z W ok tk pas _
  | or a b =>
    simp only [chk] at h
    split at h <;> first | (cases h; done) | skip
    exact ih c (.bv .Or _ (.or a b)) h X z W ok tk pas _
  | ifx d a b =>
    simp only [chk] at h
    split at h <;> first | (cases h; done) | skip
    obtain ⟨h, h3⟩ := and2 h
    obtain ⟨h1, h2⟩ := and2 h
    exact s_ifx (ih c (.t _ d) h1 X z W ok tk pas) (sub h2) (sub h3)
  | idx a i =>
    simp only [chk] at h
    split at h <;> first | (cases h; done) | skip
    obtain ⟨h, h3⟩ := and2 h
    obtain ⟨h1, h2⟩ := and2 h
    exact s_idx ok.units (sub h2) (sub h3) (plainIx_of h1)
  | sl a lo hi =>
    simp only [chk] at h
    split at h <;> first | (cases h; done) | skip
    obtain ⟨h, h3⟩ := and2 h
    obtain ⟨h1, h2⟩ := and2 h
    exact s_slice (sub h1) (ih c (.po _ lo) h2 X z W ok tk pas) (ih c (.po _ hi) h3 X z W ok tk pas)
  | rev a =>
    simp only [chk] at h
    split at h <;> first | (cases h; done) | skip
    exact s_rev (sub h)
  | lst es =>
    simp only [chk] at h
    split at h <;> first | (cases h; done) | skip
    obtain ⟨h1, h2⟩ := and2 h
    exact s_lst (subs h2).1 (of_decide_eq_true h1)
  | tup es =>
    simp only [chk] at h
    split at h <;> first | (cases h; done) | skip
    obtain ⟨h1, h2⟩ := and2 h
    exact s_tup (subs h2).1 (of_decide_eq_true h1)
  | dctK ks vs =>
    simp only [chk] at h
    split at h <;> first | (cases h; done) | skip
    obtain ⟨h1, h2⟩ := and2 h
    rw [List.isEmpty_iff.mp h1, List.isEmpty_iff.mp h2]
    exact s_dnew
  | call f es =>
    simp only [chk] at h
    split at h <;> first | (cases h; done) | skip
    rename_i nm p xs pos
    obtain ⟨h, h6⟩ := and2 h
    obtain ⟨h, h5⟩ := and2 h
    obtain ⟨h, h4⟩ := and2 h
    obtain ⟨h, h3⟩ := and2 h
    obtain ⟨h1, h2⟩ := and2 h
    obtain ⟨q1, q2, q3⟩ := subs h6
    cases xs with
    | nil => cases h4
    | cons y ys =>
      rw [List.all_cons, Bool.and_eq_true] at q2
      exact s_call tk (ok.call h1 f nm es.length (of_decide_eq_true h3)) (ok.gl h2) (by simpa using h5) q2.1 q2.2 rfl q1
  | me m o es =>
    simp only [chk] at h
    split at h <;> first | (cases h; done) | skip
    obtain ⟨h, h6⟩ := and2 h
    obtain ⟨h, h5⟩ := and2 h
    obtain ⟨h, h4⟩ := and2 h
    obtain ⟨h, h3⟩ := and2 h
    obtain ⟨h1, h2⟩ := and2 h
    obtain ⟨q1, q2, q3⟩ := subs h6
    rw [of_decide_eq_true h1]
    refine s_me ok.units (base_of h4) h2 q2 (of_decide_eq_true h3) (fun e => ?_) (sub h5) q1
    rw [e] at q3
    exact List.length_eq_zero_iff.mp q3.symm
  | comp elt t it cs own =>
    simp only [chk] at h
    split at h <;> first | (cases h; done) | skip
    rename_i ex tg iter ifs scope pos
    obtain ⟨h, h7⟩ := and2 h
    obtain ⟨h, h6⟩ := and2 h
    obtain ⟨h, h5⟩ := and2 h
    obtain ⟨h, h4⟩ := and2 h
    obtain ⟨h, h3⟩ := and2 h
    obtain ⟨h1, h2⟩ := and2 h
    obtain ⟨i1, i2⟩ := ih c (.it iter it) h4 X z W ok tk pas
    have e1 : (own.map fun i => (c.N.getD i "", i)).map (·.2) = own := by
      rw [List.map_map]
      exact List.map_id own
    have bo : BlkOk X.N X.env.scope scope (own.map fun i => (c.N.getD i "", i)) := blkOk_by (by rw [ok.N, ok.sc]; exact h2)
    have := s_lc (X := X) (z := z) (W := W) (pos := pos) (zelt := elt) (zcs := cs) (zit := it) (t := t) (ok.calm h1) ok.nd (i1 tg t) bo
      (fun s H C cl fp => ih (c.blk scope) (.g tg t) h5 _ z noW (ok.blk s H C cl fp scope bo.kind) takes_none5 PassesOwn.never)
      (fun s H C cl fp => ih (c.blk scope) (.cs ifs cs) h6 _ z noW (ok.blk s H C cl fp scope bo.kind) takes_none5 PassesOwn.never)
      (fun s H C cl fp => ih (c.blk scope) (.e ex elt) h7 _ z noW (ok.blk s H C cl fp scope bo.kind) takes_none5 PassesOwn.never)
      (fun i hi => by rw [e1]; simpa using List.all_eq_true.mp h3 i hi) i2
    rw [e1] at this
    exact this
  | bi b es =>
    simp only [chk] at h
    split at h <;> first | (cases h; done) | skip
    rename_i nm p xs pos
    have plain : ∀ {q : String} {ty : Bool}, biS b = some (q, ty) → (c.calm && bltC g c nm (Str.ofString q) && !xs.isEmpty && chk g n c (.es xs es)) = true → PE X (.Call (.Name nm p) xs [] pos) (tE z X.K W (.bi b es)) := fun {q ty} hb h => by
      obtain ⟨h, h4⟩ := and2 h
      obtain ⟨h, h3⟩ := and2 h
      obtain ⟨h1, h2⟩ := and2 h
      obtain ⟨rfl, hg, hm⟩ := ok.blt h2
      obtain ⟨q1, q2, q3⟩ := subs h4
      have hc := ok.calm h1
      have hu := ok.units
      cases xs with
      | nil => cases h3
      | cons y ys =>
        rw [List.all_cons, Bool.and_eq_true] at q2
        cases b <;> simp only [biS, Option.some.injEq, Prod.mk.injEq] at hb <;> first | (cases hb; done) | skip
        all_goals obtain ⟨rfl, rfl⟩ := hb
        · exact s_biB or_len hg hm (by decide +kernel) (by decide +kernel) (by decide +kernel) q2.2 q2.1 q1
        · exact s_biB or_abs hg hm (by decide +kernel) (by decide +kernel) (by decide +kernel) q2.2 q2.1 q1
        · exact s_biT or_int hg hm (by decide +kernel) (by decide +kernel) (by decide +kernel) q2.2 q2.1 q1
        · exact s_biT or_tuple hg hm (by decide +kernel) (by decide +kernel) (by decide +kernel) q2.2 q2.1 q1
        · exact s_biT or_list hg hm (by decide +kernel) (by decide +kernel) (by decide +kernel) q2.2 q2.1 q1
        · exact s_biB (or_sorted hu) hg hm (by decide +kernel) (by decide +kernel) (by decide +kernel) q2.2 q2.1 q1
        · exact s_biB (or_min hc) hg hm (by decide +kernel) (by decide +kernel) (by decide +kernel) q2.2 q2.1 q1
        · exact s_biB (or_max hc) hg hm (by decide +kernel) (by decide +kernel) (by decide +kernel) q2.2 q2.1 q1
        · exact s_biB (or_sum hc) hg hm (by decide +kernel) (by decide +kernel) (by decide +kernel) q2.2 q2.1 q1
        · exact s_biB (or_all hc) hg hm (by decide +kernel) (by decide +kernel) (by decide +kernel) q2.2 q2.1 q1
        · exact s_biB (or_any hc) hg hm (by decide +kernel) (by decide +kernel) (by decide +kernel) q2.2 q2.1 q1
        · exact s_biT or_bool hg hm (by decide +kernel) (by decide +kernel) (by decide +kernel) q2.2 q2.1 q1
    cases b with
    | isinst ts =>
      simp only at h
      split at h
      · obtain ⟨h, h6⟩ := and2 h
        obtain ⟨h, h5⟩ := and2 h
        obtain ⟨h, h4⟩ := and2 h
        obtain ⟨h, h3⟩ := and2 h
        obtain ⟨h1, h2⟩ := and2 h
        obtain ⟨rfl, hg, hm⟩ := ok.blt h1
        exact s_isiT hg hm h2 (sub h6) (tyNames_is ok h5) (by simpa using h3) (of_decide_eq_true h4)
      · split at h <;> first | (cases h; done) | skip
        obtain ⟨h, h4⟩ := and2 h
        obtain ⟨h, h3⟩ := and2 h
        obtain ⟨h1, h2⟩ := and2 h
        obtain ⟨rfl, hg, hm⟩ := ok.blt h1
        cases tyNames_is ok h3 with
        | cons k _ => exact s_isi1 hg hm h2 (sub h4) k
      · cases h
    | listRange =>
      simp only at h
      split at h <;> first | (cases h; done) | skip
      obtain ⟨h, h4⟩ := and2 h
      obtain ⟨h, h3⟩ := and2 h
      obtain ⟨h1, h2⟩ := and2 h
      obtain ⟨rfl, hg, hm⟩ := ok.blt h2
      exact s_listRg (ok.calm h1) hg hm h3 (ih c (.rg _ es) h4 X z W ok tk pas)
    | tupleRange =>
      simp only at h
      split at h <;> first | (cases h; done) | skip
      obtain ⟨h, h4⟩ := and2 h
      obtain ⟨h, h3⟩ := and2 h
      obtain ⟨h1, h2⟩ := and2 h
      obtain ⟨rfl, hg, hm⟩ := ok.blt h2
      exact s_tupRg (ok.calm h1) hg hm h3 (ih c (.rg _ es) h4 X z W ok tk pas)
    | sortedSet =>
      simp only at h
      split at h <;> first | (cases h; done) | skip
      obtain ⟨h, h5⟩ := and2 h
      obtain ⟨h, h4⟩ := and2 h
      obtain ⟨h, h3⟩ := and2 h
      obtain ⟨h1, h2⟩ := and2 h
      obtain ⟨rfl, hg, hm⟩ := ok.blt h2
      obtain ⟨rfl, hg2, hm2⟩ := ok.blt h3
      exact s_sortedSet (ok.calm h1) hg hm hg2 hm2 h4 (sub h5)
    | _ => first | (simp [biS] at h; done) | exact plain rfl h
  | comp2 => simp [chk] at h
  | dcomp => simp [chk] at h
  | dctT => simp [chk] at h
end
end Z
-- ZS22
namespace Z
open PySem PySem.Spec PyProof.Rows L2
section
variable {g : Gb} {n : Nat} {c : Cc} {X : Cx} {z : Zx} {W : WX}
theorem chk_es (ih : ChkOk g n) {xs : List Expr} {zs : List E} (h : chk g (n + 1) c (.es xs zs) = true) (ok : XOk X z g c) (tk : Takes X W) (pas : PassesOwn (model X.prog X.w) X.A X.env X.xe) : JobOk X z W (.es xs zs) := by
  simp only [chk] at h
  split at h <;> first | (cases h; done) | skip
  · exact ⟨s_nil, rfl, rfl⟩
  · obtain ⟨h, h3⟩ := and2 h
    obtain ⟨h1, h2⟩ := and2 h
    obtain ⟨q1, q2, q3⟩ := ih c (.es _ _) h3 X z W ok tk pas
    exact ⟨s_cons h1 (ih c (.e _ _) h2 X z W ok tk pas) q1, by rw [List.all_cons, h1, q2]; rfl, by rw [List.length_cons, List.length_cons, q3]⟩
theorem chk_t (ih : ChkOk g n) {x : Expr} {ze : E} (h : chk g (n + 1) c (.t x ze) = true) (ok : XOk X z g c) (tk : Takes X W) (pas : PassesOwn (model X.prog X.w) X.A X.env X.xe) : PT X x (tT z X.K W ze) := by
  have sub : ∀ {y : Expr} {zy : E}, chk g n c (.e y zy) = true → PE X y (tE z X.K W zy) := fun {y zy} h => ih c (.e y zy) h X z W ok tk pas
  simp only [chk] at h
  split at h <;> first | (cases h; done) | skip
  · exact (ih c (.bt _ _ ze) h X z W ok tk pas _).pt
  · split at h <;> first | (cases h; done) | skip
    exact s_notT (ih c (.t _ _) h X z W ok tk pas)
  · split at h <;> first | (cases h; done) | skip
    obtain ⟨h, h4⟩ := and2 h
    obtain ⟨h, h3⟩ := and2 h
    obtain ⟨h1, h2⟩ := and2 h
    rw [cmpC_is h1]
    exact s_cmpT ok.units (sub h3) (sub h4) (noSet_is h2)
  · split at h <;> first | (cases h; done) | skip
    obtain ⟨h, h6⟩ := and2 h
    obtain ⟨h, h5⟩ := and2 h
    obtain ⟨h, h4⟩ := and2 h
    obtain ⟨h, h3⟩ := and2 h
    obtain ⟨h1, h2⟩ := and2 h
    rw [cmpC_is h1, cmpC_is h2]
    exact s_chainT ok.units (sub h4) (sub h5) (sub h6) (noSet_is h3)
  all_goals exact s_test (sub h) (fun _ => rfl)
theorem chk_bt (ih : ChkOk g n) {op : BoolOp} {xs : List Expr} {ze : E} (h : chk g (n + 1) c (.bt op xs ze) = true) (ok : XOk X z g c) (tk : Takes X W) (pas : PassesOwn (model X.prog X.w) X.A X.env X.xe) : ∀ pos, PW X (.BoolOp op xs pos) (tT z X.K W ze) := by
  intro pos
  simp only [chk] at h
  split at h <;> first | (cases h; done) | skip
  · cases op with
    | And => exact s_and1 (ih c (.t _ ze) h X z W ok tk pas)
    | Or => exact s_or1 (ih c (.t _ ze) h X z W ok tk pas)
  · split at h <;> first | (cases h; done) | skip
    · obtain ⟨h1, h2⟩ := and2 h
      exact s_andT (ih c (.t _ _) h1 X z W ok tk pas) (ih c (.bt .And _ _) h2 X z W ok tk pas pos)
    · obtain ⟨h1, h2⟩ := and2 h
      exact s_orT (ih c (.t _ _) h1 X z W ok tk pas) (ih c (.bt .Or _ _) h2 X z W ok tk pas pos)
theorem chk_bv (ih : ChkOk g n) {op : BoolOp} {xs : List Expr} {ze : E} (h : chk g (n + 1) c (.bv op xs ze) = true) (ok : XOk X z g c) (tk : Takes X W) (pas : PassesOwn (model X.prog X.w) X.A X.env X.xe) : ∀ pos, PE X (.BoolOp op xs pos) (tE z X.K W ze) := by
  intro pos
  simp only [chk] at h
  split at h <;> first | (cases h; done) | skip
  · exact pe_one (ih c (.e _ ze) h X z W ok tk pas)
  · split at h <;> first | (cases h; done) | skip
    · obtain ⟨h1, h2⟩ := and2 h
      exact s_and (ih c (.e _ _) h1 X z W ok tk pas) (ih c (.bv .And _ _) h2 X z W ok tk pas pos)
    · obtain ⟨h1, h2⟩ := and2 h
      exact s_or (ih c (.e _ _) h1 X z W ok tk pas) (ih c (.bv .Or _ _) h2 X z W ok tk pas pos)
theorem chk_it (ih : ChkOk g n) {x : Expr} {zi : I} (h : chk g (n + 1) c (.it x zi) = true) (ok : XOk X z g c) (tk : Takes X W) (pas : PassesOwn (model X.prog X.w) X.A X.env X.xe) : JobOk X z W (.it x zi) := by
  have sub : ∀ {y : Expr} {zy : E}, chk g n c (.e y zy) = true → PE X y (tE z X.K W zy) := fun {y zy} h => ih c (.e y zy) h X z W ok tk pas
  simp only [chk] at h
  obtain ⟨h0, h⟩ := and2 h
  refine ⟨fun tg t => ?_, folded_of h0⟩
  cases zi with
  | seq ze => exact s_iseq (sub h)
  | rng1 a =>
    simp only at h
    split at h <;> first | (cases h; done) | skip
    obtain ⟨h, h3⟩ := and2 h
    obtain ⟨h1, h2⟩ := and2 h
    obtain ⟨rfl, hg, hm⟩ := ok.blt h1
    exact s_irng1 hg hm h2 (sub h3)
  | rng2 a b =>
    simp only at h
    split at h <;> first | (cases h; done) | skip
    obtain ⟨h, h5⟩ := and2 h
    obtain ⟨h, h4⟩ := and2 h
    obtain ⟨h, h3⟩ := and2 h
    obtain ⟨h1, h2⟩ := and2 h
    obtain ⟨rfl, hg, hm⟩ := ok.blt h1
    exact s_irng2 hg hm h2 h3 (sub h4) (sub h5)
  | _ => cases h
theorem chk_g (ih : ChkOk g n) {x : Expr} {t : T} (h : chk g (n + 1) c (.g x t) = true) (ok : XOk X z g c) (tk : Takes X W) (pas : PassesOwn (model X.prog X.w) X.A X.env X.xe) : PG X x (gZ X.K t) := by
  simp only [chk] at h
  split at h <;> first | (cases h; done) | skip
  · obtain ⟨h1, h2⟩ := and2 h
    obtain ⟨q1, q2⟩ := ok.loc h2
    exact s_gname ok.nd (ok.ix h1) q1 q2
  · obtain ⟨h1, h2⟩ := and2 h
    obtain ⟨q1, q2, q3⟩ := ih c (.gs _ _) h2 X z W ok tk pas
    exact s_gtup (ok.calm h1) q2 q3 q1
theorem chk_gs (ih : ChkOk g n) {xs : List Expr} {ts : List T} (h : chk g (n + 1) c (.gs xs ts) = true) (ok : XOk X z g c) (tk : Takes X W) (pas : PassesOwn (model X.prog X.w) X.A X.env X.xe) : JobOk X z W (.gs xs ts) := by
  simp only [chk] at h
  split at h <;> first | (cases h; done) | skip
  · exact ⟨s_gnil, rfl, rfl⟩
  · obtain ⟨h, h3⟩ := and2 h
    obtain ⟨h1, h2⟩ := and2 h
    obtain ⟨q1, q2, q3⟩ := ih c (.gs _ _) h3 X z W ok tk pas
    exact ⟨s_gcons h1 (ih c (.g _ _) h2 X z W ok tk pas) q1, by rw [List.all_cons, h1, q2]; rfl, by rw [List.length_cons, List.length_cons, q3]⟩
theorem chk_cs (ih : ChkOk g n) {xs : List Expr} {zs : List E} (h : chk g (n + 1) c (.cs xs zs) = true) (ok : XOk X z g c) (tk : Takes X W) (pas : PassesOwn (model X.prog X.w) X.A X.env X.xe) : PTs X xs (tCs z X.K W zs) := by
  simp only [chk] at h
  split at h <;> first | (cases h; done) | skip
  · exact s_c0
  · exact s_c1 (ih c (.t _ _) h X z W ok tk pas)
theorem chk_po (ih : ChkOk g n) {x : Option Expr} {ze : E} (h : chk g (n + 1) c (.po x ze) = true) (ok : XOk X z g c) (tk : Takes X W) (pas : PassesOwn (model X.prog X.w) X.A X.env X.xe) : PO X x (tO z X.K W ze.isNon ze) := by
  simp only [chk] at h
  split at h
  · split at h <;> first | (cases h; done) | skip
    exact s_poN rfl
  · obtain ⟨h1, h2⟩ := and2 h
    exact s_poS (ih c (.e _ ze) h2 X z W ok tk pas) (by simpa using h1)
theorem chk_rg (ih : ChkOk g n) {x : Expr} {zs : List E} (h : chk g (n + 1) c (.rg x zs) = true) (ok : XOk X z g c) (tk : Takes X W) (pas : PassesOwn (model X.prog X.w) X.A X.env X.xe) : PRg X x (tRg z X.K W zs) := by
  have sub : ∀ {y : Expr} {zy : E}, chk g n c (.e y zy) = true → PE X y (tE z X.K W zy) := fun {y zy} h => ih c (.e y zy) h X z W ok tk pas
  simp only [chk] at h
  split at h <;> first | (cases h; done) | skip
  · split at h <;> first | (cases h; done) | skip
    obtain ⟨h, h3⟩ := and2 h
    obtain ⟨h1, h2⟩ := and2 h
    obtain ⟨rfl, hg, hm⟩ := ok.blt h1
    exact s_rg1 hg hm h2 (sub h3)
  · split at h <;> first | (cases h; done) | skip
    obtain ⟨h, h5⟩ := and2 h
    obtain ⟨h, h4⟩ := and2 h
    obtain ⟨h, h3⟩ := and2 h
    obtain ⟨h1, h2⟩ := and2 h
    obtain ⟨rfl, hg, hm⟩ := ok.blt h1
    exact s_rg2 hg hm h2 h3 (sub h4) (sub h5)
theorem chk_hd (ih : ChkOk g n) {xs : List ExceptHandler} {zs : List (List Nat × List S)} (h : chk g (n + 1) c (.hd xs zs) = true) (ok : XOk X z g c) (tk : Takes X W) (pas : PassesOwn (model X.prog X.w) X.A X.env X.xe) : ∃ l, HdOk X z xs zs l := by
  simp only [chk] at h
  split at h <;> first | (cases h; done) | skip
  · exact ⟨[], .nil⟩
  · obtain ⟨h, h5⟩ := and2 h
    obtain ⟨h, h4⟩ := and2 h
    obtain ⟨h, h3⟩ := and2 h
    obtain ⟨h1, h2⟩ := and2 h
    split at h3
    · rename_i k hk
      obtain ⟨h6, h7⟩ := and2 h3
      have h6 := of_decide_eq_true h6
      obtain ⟨l, hl⟩ := ih c (.hd _ _) h5 X z W ok tk pas
      have hkl : k < g.cls.length := (List.getElem?_eq_some_iff.mp h6).1
      obtain ⟨C, bmB, B, n1, n2, q1, q2, q3, q4, q5, q6⟩ := (ok.cls k _ h6).ex
      refine ⟨_, .cons (k := k) ⟨ok.gl h1, by simpa using h2, .inl (by rw [q1]; exact q4)⟩ (fun c2 hc2 => ?_) (fun a pn => ih c.suite (.ss _ _) h4 _ z noW (ok.suite a pn) takes_none5 PassesOwn.never) hl⟩
      rw [ok.nc] at hc2
      rw [ok.mat c2 k hc2 hkl]
      have := List.all_eq_true.mp h7 c2 (List.mem_range.mpr hc2)
      simp only [beq_iff_eq] at this
      rw [this]
    · cases h3
end
end Z
-- ZS23
namespace Z
open PySem PySem.Spec PyProof.Rows L2
theorem sole_of {e : Expr} {tgs : List Expr} {l : Nat} {env : Env} (h : noRows e = true) : swapsWithSole tgs e l env = pure false := by
  cases tgs with
  | nil => rfl
  | cons t r =>
    cases r with
    | nil => exact swaps_of h
    | cons _ _ => rfl
theorem noPair_of {tg e : Expr} {env : Env} (h : pairC [tg] e = false) : swappedStores [tg] e env = pure none := by
  unfold swappedStores
  cases tg <;> first | rfl | skip
  · cases e <;> first | rfl | (simp [pairC] at h; done)
  · cases e <;> first | rfl | (simp [pairC] at h; done)
section
variable {g : Gb} {n : Nat} {c : Cc} {X : Cx} {z : Zx} {W : WX}
theorem swB_of {scope : Scope} {y : Str} {py pos : Pos} {elt : Expr} {gs : List Comprehension} {l : Nat} (ok : XOk X z g c) (hk : X.env.scope.kind = .function) (b : Bool) (h : swB c.sc scope y py pos = b) : swapsWith (.ListComp elt gs scope pos) (some (.Name y py)) l X.env = pure b := by
  have hb : X.env.blockKind = .function := by unfold Env.blockKind; rw [hk]; rfl
  unfold swapsWith
  simp only [hb, Expr.pos]
  rw [← h]
  unfold swB localC Env.kindOf
  rw [← ok.sc, hk]
  have e1 : (X.env.scope.names.lookup y == some NameKind.local) = (match X.env.scope.names.lookup y with | some .local => true | _ => false) := by
    cases X.env.scope.names.lookup y with
    | none => rfl
    | some k => cases k <;> rfl
  rw [e1]
  rfl
theorem not_tt {b : Bool} (h : (!b) = true) : b = false := by revert h; cases b <;> simp
theorem swap2_of {nx ny : Str} {px py pt pt2 : Pos} {kt k2} {p q : Expr} (hk : X.env.scope.kind = .function) (hx : X.env.scope.names.lookup nx = some .local) (hy : X.env.scope.names.lookup ny = some .local) (hl : (px.line == py.line) = true) (hne : nx ≠ ny)
    (np : nsE p = true) (nq : nsE q = true) (h1 : ([p, q].all (foldedForSure 8)) = false) (h2 : ([p, q].all (constantsAlone 8)) = false) : swappedStores [.Tuple [.Name nx px, .Name ny py] kt pt] (.Tuple [p, q] k2 pt2) X.env = pure (some [nx, ny]) := by
  have hb : X.env.blockKind = .function := by unfold Env.blockKind; rw [hk]; rfl
  have kx : X.env.kindOf nx = some .local := hx
  have ky : X.env.kindOf ny = some .local := hy
  have hl : px.line = py.line := by simpa using hl
  have e2 : [nx, ny].eraseDups = [nx, ny] := by
    simp [List.eraseDups_cons, hne.symm]
  simp only [swappedStores, hb, h1, h2, List.head?_cons, Option.map_some, Option.getD_some, Expr.pos]
  rw [if_neg (by simp)]
  split
  · rename_i hq
    exfalso
    simp only [List.any_cons, List.any_nil, Bool.or_false, Bool.or_eq_true] at hq
    rcases hq with hq | hq
    · cases p <;> first | (cases np; done) | (cases hq; done)
    · cases q <;> first | (cases nq; done) | (cases hq; done)
  · simp [kx, ky, hl, e2]
theorem chk_s (ih : ChkOk g n) {x : Stmt} {zs : S} (h : chk g (n + 1) c (.s x zs) = true) (ok : XOk X z g c) (tk : Takes X W) (pas : PassesOwn (model X.prog X.w) X.A X.env X.xe) : PS X x (tS z X.K W zs) := by
  have hk := ok.kd
  have sub : ∀ {y : Expr} {zy : E}, chk g n c (.e y zy) = true → PE X y (tE z X.K W zy) := fun {y zy} h => ih c (.e y zy) h X z W ok tk pas
  have subss : ∀ {y : List Stmt} {zy : List S}, chk g n c (.ss y zy) = true → PSs X y (tSs z X.K W zy) := fun {y zy} h => ih c (.ss y zy) h X z W ok tk pas
  cases zs with
  | asg t e =>
    simp only [chk] at h
    split at h
    · rename_i tg ex gs scope pos spos
      split at h <;> first | (cases h; done) | skip
      rename_i y py
      split at h
      · rename_i hsw
        split at h <;> first | (cases h; done) | skip
        rename_i tg2 iter ifs j elt t2 it cs own
        obtain ⟨h, h8⟩ := and2 h
        obtain ⟨h, h7⟩ := and2 h
        obtain ⟨h, h6⟩ := and2 h
        obtain ⟨h, h5⟩ := and2 h
        obtain ⟨h, h4⟩ := and2 h
        obtain ⟨h, h3⟩ := and2 h
        obtain ⟨h1, h2⟩ := and2 h
        obtain ⟨i1, i2⟩ := ih c (.it iter it) h5 X z W ok tk pas
        have e1 : (own.map fun i => (c.N.getD i "", i)).map (·.2) = own := by
          rw [List.map_map]
          exact List.map_id own
        have bo : BlkOk X.N X.env.scope scope (own.map fun i => (c.N.getD i "", i)) := blkOk_by (by rw [ok.N, ok.sc]; exact h3)
        have hyl : X.env.scope.names.lookup y = some .local := by
          unfold swB at hsw
          obtain ⟨hsw, _⟩ := and2 hsw
          obtain ⟨hsw, _⟩ := and2 hsw
          exact ok.loc1 (and2 hsw).2
        have := s_setLc (X := X) (z := z) (W := W) (pos := pos) (py := py) (spos := spos) (zelt := elt) (zcs := cs) (zit := it) (t := t2) (ok.calm h2) ok.nd (ok.ix h1) hyl (swB_of ok hk true hsw) (i1 tg2 t2) bo
          (fun s H C cl fp => ih (c.blk scope) (.g tg2 t2) h6 _ z noW (ok.blk s H C cl fp scope bo.kind) takes_none5 PassesOwn.never)
          (fun s H C cl fp => ih (c.blk scope) (.cs ifs cs) h7 _ z noW (ok.blk s H C cl fp scope bo.kind) takes_none5 PassesOwn.never)
          (fun s H C cl fp => ih (c.blk scope) (.e ex elt) h8 _ z noW (ok.blk s H C cl fp scope bo.kind) takes_none5 PassesOwn.never)
          (fun i hi => by rw [e1]; simpa using List.all_eq_true.mp h4 i hi) i2
        rw [e1] at this
        exact this
      · rename_i hsw
        obtain ⟨h1, h2⟩ := and2 h
        exact s_asg (sub h2) (ih c (.g _ t) h1 X z W ok tk pas) (show swapsWith (.ListComp ex gs scope pos) (some (.Name y py)) spos.line X.env = pure false from swB_of ok hk false hsw) rfl rfl
    · obtain ⟨h, h5⟩ := and2 h
      obtain ⟨h, h4⟩ := and2 h
      obtain ⟨h, h3⟩ := and2 h
      obtain ⟨h1, h2⟩ := and2 h
      exact s_asg (sub h5) (ih c (.g _ t) h4 X z W ok tk pas) (sole_of h1) (noPair_of (by simpa using h2)) h3
    · cases h
  | par i j a b =>
    simp only [chk] at h
    split at h <;> first | (cases h; done) | skip
    obtain ⟨h, h15⟩ := and2 h
    obtain ⟨h, h14⟩ := and2 h
    obtain ⟨h, h13⟩ := and2 h
    obtain ⟨h, h12⟩ := and2 h
    obtain ⟨h, h11⟩ := and2 h
    obtain ⟨h, h10⟩ := and2 h
    obtain ⟨h, h9⟩ := and2 h
    obtain ⟨h, h8⟩ := and2 h
    obtain ⟨h, h7⟩ := and2 h
    obtain ⟨h, h6⟩ := and2 h
    obtain ⟨h, h5⟩ := and2 h
    obtain ⟨h, h4⟩ := and2 h
    obtain ⟨h, h3⟩ := and2 h
    obtain ⟨h1, h2⟩ := and2 h
    have lx := ok.loc1 h7
    have ly := ok.loc1 h8
    exact s_par (ok.calm h1) ok.nd (ok.ix h3) (ok.ix h4) (of_decide_eq_true h5) lx ly (sub h14) (sub h15) h10 h11 (swap2_of hk lx ly h9 (of_decide_eq_true h6) h10 h11 (not_tt h12) (not_tt h13))
  | sub o i e =>
    simp only [chk] at h
    split at h <;> first | (cases h; done) | skip
    rename_i p q tp ex pos
    obtain ⟨h, h4⟩ := and2 h
    obtain ⟨h, h3⟩ := and2 h
    obtain ⟨h1, h2⟩ := and2 h
    refine s_sub ok.units (sub h2) (sub h3) (sub h4) ?_ rfl (fun v => ?_)
    · show swapsWith ex (some (.Subscript p q tp)) pos.line X.env = pure false
      unfold swapsWith
      cases ex <;> rfl
    · cases q <;> first | (cases h1; done) | rfl
  | aug j op e =>
    simp only [chk] at h
    split at h <;> first | (cases h; done) | skip
    obtain ⟨h, h4⟩ := and2 h
    obtain ⟨h, h3⟩ := and2 h
    obtain ⟨h1, h2⟩ := and2 h
    obtain ⟨q1, q2⟩ := ok.loc h3
    rw [opC_is h1]
    exact s_aug ok.nd (ok.ix h2) q1 (sub h4) q2
  | ex e =>
    simp only [chk] at h
    split at h <;> first | (cases h; done) | skip
    obtain ⟨h1, h2⟩ := and2 h
    exact s_ex (sub h2) (swaps_of h1)
  | ret e =>
    simp only [chk] at h
    split at h <;> first | (cases h; done) | skip
    exact s_ret (sub h)
  | retn =>
    simp only [chk] at h
    split at h <;> first | (cases h; done) | skip
    exact s_retn
  | iff d a b =>
    simp only [chk] at h
    split at h <;> first | (cases h; done) | skip
    obtain ⟨h, h3⟩ := and2 h
    obtain ⟨h1, h2⟩ := and2 h
    exact s_if (ih c (.t _ d) h1 X z W ok tk pas) (subss h2) (subss h3)
  | for_ t it b =>
    simp only [chk] at h
    split at h <;> first | (cases h; done) | skip
    obtain ⟨h, h4⟩ := and2 h
    obtain ⟨h, h3⟩ := and2 h
    obtain ⟨h1, h2⟩ := and2 h
    obtain ⟨i1, i2⟩ := ih c (.it _ it) h2 X z W ok tk pas
    exact s_for pas (ok.calm h1) (i1 _ t) (ih c (.g _ t) h3 X z W ok tk pas) (subss h4) i2
  | while_ d b =>
    simp only [chk] at h
    split at h <;> first | (cases h; done) | skip
    obtain ⟨h1, h2⟩ := and2 h
    exact s_while pas (ih c (.t _ d) h1 X z W ok tk pas) (subss h2)
  | raise k es =>
    simp only [chk] at h
    split at h <;> first | (cases h; done) | skip
    obtain ⟨h, h5⟩ := and2 h
    obtain ⟨h, h4⟩ := and2 h
    obtain ⟨h, h3⟩ := and2 h
    obtain ⟨h1, h2⟩ := and2 h
    rw [List.isEmpty_iff.mp h2]
    have h5 := of_decide_eq_true h5
    exact s_raise (ok.calm h1) tk (ok.cls k _ h5) (by rw [ok.nc]; exact (List.getElem?_eq_some_iff.mp h5).1) (ok.gl h3) (by simpa using h4)
  | try_ b hs =>
    simp only [chk] at h
    split at h <;> first | (cases h; done) | skip
    obtain ⟨h, h4⟩ := and2 h
    obtain ⟨h, h3⟩ := and2 h
    obtain ⟨h1, h2⟩ := and2 h
    obtain ⟨t1, t2⟩ := ok.top h1
    obtain ⟨l, hl⟩ := ih c (.hd _ hs) h4 X z W ok tk pas
    exact s_try t1 t2 tk (fun W' pn xe tk' pas' => ih c (.ss _ b) h3 _ z W' (ok.tr pn xe) tk' pas') hl
  | brk =>
    simp only [chk] at h
    split at h <;> first | (cases h; done) | skip
    exact s_brk
  | cont =>
    simp only [chk] at h
    split at h <;> first | (cases h; done) | skip
    exact s_cont
  | pass =>
    simp only [chk] at h
    split at h <;> first | (cases h; done) | skip
    exact s_pass
  | augs => simp [chk] at h
end
end Z
-- ZS24
namespace Z
open PySem PySem.Spec PyProof.Rows L2
theorem chk_ok (g : Gb) : ∀ n, ChkOk g n
  | 0 => fun c j h => by simp [chk] at h
  | n + 1 => fun c j h X z W ok tk pas => by
    have ih := chk_ok g n
    cases j with
    | e x ze => exact chk_e ih h ok tk pas
    | t x ze => exact chk_t ih h ok tk pas
    | es xs zs => exact chk_es ih h ok tk pas
    | bt op xs ze => exact chk_bt ih h ok tk pas
    | bv op xs ze => exact chk_bv ih h ok tk pas
    | it x zi => exact chk_it ih h ok tk pas
    | g x t => exact chk_g ih h ok tk pas
    | gs xs ts => exact chk_gs ih h ok tk pas
    | cs xs zs => exact chk_cs ih h ok tk pas
    | po x ze => exact chk_po ih h ok tk pas
    | rg x zs => exact chk_rg ih h ok tk pas
    | s x zs => exact chk_s ih h ok tk pas
    | ss xs zs =>
      simp only [chk] at h
      split at h <;> first | (cases h; done) | skip
      · exact s_snil
      · obtain ⟨h1, h2⟩ := and2 h
        exact s_scons (ih c (.s _ _) h1 X z W ok tk pas) (ih c (.ss _ _) h2 X z W ok tk pas)
    | hd xs zs => exact chk_hd ih h ok tk pas
/-! # Defs -/
/-- one def of the text: its name, its statement, its names; what the interpreter has of it -/
structure Df where
  name : Str
  st : Stmt
  N : List Str
  ps : List Str
  fd : Fd
/-- what is fixed by a text -/
def cOf (d : Df) : Cc := ⟨defScope d.st, d.N, fun _ => true, true, true⟩
/-- all that is looked at in a def -/
def dfOk (g : Gb) (n : Nat) (d : Df) : Bool := chk g n (cOf d) (.ss (defBody d.st) d.fd.body) && decide (d.fd.np = d.ps.length) && decide (d.fd.n = d.N.length) && decide (d.N.take d.ps.length = d.ps) &&
  d.ps.all (fun x => match (defScope d.st).names.lookup x with | some .local => true | some .cell => true | _ => false) && decide ((defScope d.st).kind = .function) && !(defScope d.st).isCoroutine && !(defScope d.st).isGenerator && decide d.N.Nodup &&
  (defScope d.st).names.all (fun y => decide (y.2 ≠ .free))
theorem dfOk_scope {g : Gb} {n : Nat} {d : Df} (h : dfOk g n d = true) : chk g n (cOf d) (.ss (defBody d.st) d.fd.body) = true ∧ d.fd.np = d.ps.length ∧ d.fd.n = d.N.length ∧ FnScope d.N d.ps (defScope d.st) := by
  unfold dfOk at h
  obtain ⟨h, h10⟩ := and2 h
  obtain ⟨h, h9⟩ := and2 h
  obtain ⟨h, h8⟩ := and2 h
  obtain ⟨h, h7⟩ := and2 h
  obtain ⟨h, h6⟩ := and2 h
  obtain ⟨h, h5⟩ := and2 h
  obtain ⟨h, h4⟩ := and2 h
  obtain ⟨h, h3⟩ := and2 h
  obtain ⟨h1, h2⟩ := and2 h
  refine ⟨h1, of_decide_eq_true h2, of_decide_eq_true h3, of_decide_eq_true h6, not_tt h7, not_tt h8, of_decide_eq_true h9, of_decide_eq_true h4, fun x hx => ?_, fun y hy => of_decide_eq_true (List.all_eq_true.mp h10 y hy)⟩
  have := List.all_eq_true.mp h5 x hx
  split at this
  · exact .inl (by assumption)
  · exact .inr (by assumption)
  · cases this
end Z
-- ZS25
namespace Z
open PySem PySem.Spec PyProof.Rows L2
/-! # Regions come and go -/
section
variable {K : PySem.W.Frag} {ρ : Rho} {hs : Hs} {H : Hp}
theorem rx_push (t : List Addr) : RX ρ (t :: ρ) := fun d i a h => by
  rw [rget_cons]
  have := rget_len h
  rw [if_neg (by omega)]
  exact h
theorem RelH.push (R : RelH K ρ hs H) : RelH K ([] :: ρ) ([] :: hs) H := by
  have old : ∀ {d i o}, get ([] :: hs) d i = some o → get hs d i = some o := fun {d i o} e => by
    rw [get_cons] at e
    by_cases hd : d = hs.length
    · rw [if_pos hd] at e; simp at e
    · rw [if_neg hd] at e; exact e
  have back : ∀ {d i o a}, get hs d i = some o → rget ([] :: ρ) d i = some a → rget ρ d i = some a := fun {d i o a} g e => by
    rw [rget_cons] at e
    have := get_len g
    rw [if_neg (by rw [R.len]; omega)] at e
    exact e
  refine ⟨by simp, by rw [List.map_cons, List.map_cons, R.shape]; rfl, fun d i o e => ?_, fun d i o e => R.wf d i o (old e), fun d i o e j u a g1 g2 n1 n2 a1 a2 => R.inj d i o e j u a (old g1) (old g2) n1 n2 (back (old g1) a1) (back (old g2) a2)⟩
  obtain ⟨a, h1, h2⟩ := R.ob d i o (old e)
  exact ⟨a, rx_push [] _ _ _ h1, ObRep.mono (rx_push []) (TupX.refl _) (fun _ h => h) h2⟩
theorem not_told_push (R : RelH K ρ hs H) {a : Addr} (n : ¬ Told ρ hs a) : ¬ Told ([] :: ρ) ([] :: hs) a := fun ⟨d, i, o, h1, h2, h3⟩ => by
  rw [get_cons] at h1
  by_cases hd : d = hs.length
  · rw [if_pos hd] at h1; simp at h1
  · rw [if_neg hd] at h1
    rw [rget_cons, if_neg (by rw [R.len]; exact hd)] at h3
    exact n ⟨d, i, o, h1, h2, h3⟩
mutual
theorem RepV.below {t : List Addr} : ∀ (v : Val) (w : V), RepV (t :: ρ) H v w → v.under ρ.length = true → RepV ρ H v w
  | .non, w, r, _ => r
  | .bl _, w, r, _ => r
  | .int _, w, r, _ => r
  | .str _, w, r, _ => r
  | .tup vs, w, r, u => by
    obtain ⟨a, xs, e, h1, h2⟩ := repV_tup.mp r
    exact repV_tup.mpr ⟨a, xs, e, h1, RepVs.below vs xs h2 u⟩
  | .loc d i, w, r, u => by
    obtain ⟨a, e, h1⟩ := repV_loc.mp r
    have u := of_decide_eq_true (show decide (d < ρ.length) = true from u)
    rw [rget_cons, if_neg (by omega)] at h1
    exact repV_loc.mpr ⟨a, e, h1⟩
theorem RepVs.below {t : List Addr} : ∀ (vs : List Val) (ws : List V), RepVs (t :: ρ) H vs ws → Val.under.unders ρ.length vs = true → RepVs ρ H vs ws
  | [], ws, r, _ => r
  | v :: vs, ws, r, u => by
    obtain ⟨x, q, e, h1, h2⟩ := repVs_cons.mp r
    obtain ⟨u1, u2⟩ := and2 (show (Val.under ρ.length v && Val.under.unders ρ.length vs) = true from u)
    exact repVs_cons.mpr ⟨x, q, e, RepV.below v x h1 u1, RepVs.below vs q h2 u2⟩
end
mutual
theorem okAt_under {D D' : Nat} (h : D < D') : ∀ v : Val, v.okAt D = true → v.under D' = true
  | .non, _ => rfl
  | .bl _, _ => rfl
  | .int _, _ => rfl
  | .str _, _ => rfl
  | .tup vs, q => okAts_under h vs q
  | .loc e i, q => by
    have := of_decide_eq_true (show decide (e ≤ D) = true from q)
    exact decide_eq_true (show e < D' by omega)
theorem okAts_under {D D' : Nat} (h : D < D') : ∀ vs : List Val, Val.okAt.okAts D vs = true → Val.under.unders D' vs = true
  | [], _ => rfl
  | v :: vs, q => by
    obtain ⟨q1, q2⟩ := and2 (show (Val.okAt D v && Val.okAt.okAts D vs) = true from q)
    show (Val.under D' v && Val.under.unders D' vs) = true
    rw [okAt_under h v q1, okAts_under h vs q2]; rfl
end
theorem KRep.below {t : List Addr} {D : Nat} (hD : D < ρ.length) {kvs : List (Val × Val)} {ws : List (Key × V)} (r : KRep (t :: ρ) H kvs ws) (q : kvs.all (fun p => p.1.okAt D && p.2.okAt D) = true) : KRep ρ H kvs ws := by
  induction r with
  | nil => exact .nil
  | cons h _ ih =>
    rw [List.all_cons, Bool.and_eq_true, Bool.and_eq_true] at q
    exact .cons ⟨h.1, RepV.below _ _ h.2 (okAt_under hD _ q.1.2)⟩ (ih q.2)
theorem ObRep.below {t : List Addr} {a : Addr} {D : Nat} (hD : D < ρ.length) : ∀ {o : Ob}, ObRep K (t :: ρ) H a o → o.okAt D = true → ObRep K ρ H a o
  | .lst vs, ⟨xs, h1, h2⟩, q => ⟨xs, h1, RepVs.below _ _ h2 (okAts_under hD _ (by rw [okAts_all]; exact q))⟩
  | .ro vs, ⟨xs, h1, h2⟩, q => ⟨xs, h1, RepVs.below _ _ h2 (okAts_under hD _ (by rw [okAts_all]; exact q))⟩
  | .dK kvs, ⟨ws, h1, h2⟩, q => ⟨ws, h1, KRep.below hD h2 q⟩
  | .dT _, h, _ => h.elim
  | .set _, h, _ => h.elim
theorem RelH.pop {t : List Addr} {r : List Ob} (R : RelH K (t :: ρ) (r :: hs) H) (hne : ρ ≠ []) : RelH K ρ hs H := by
  have hn : ρ.length = hs.length := by have := R.len; simpa using this
  have up : ∀ {d i o}, get hs d i = some o → get (r :: hs) d i = some o := fun {d i o} e => by
    have := get_len e
    rw [get_cons, if_neg (by omega)]; exact e
  refine ⟨hne, by have := R.shape; simp only [List.map_cons, List.cons.injEq] at this; exact this.2, fun d i o e => ?_, fun d i o e => R.wf d i o (up e), fun d i o e j u a g1 g2 n1 n2 a1 a2 => R.inj d i o e j u a (up g1) (up g2) n1 n2 (rx_push t _ _ _ a1) (rx_push t _ _ _ a2)⟩
  obtain ⟨a, h1, h2⟩ := R.ob d i o (up e)
  have hd := get_len e
  rw [rget_cons, if_neg (by omega)] at h1
  exact ⟨a, h1, ObRep.below (D := d) (by omega) h2 (R.wf d i o (up e))⟩
theorem told_up {t : List Addr} {r : List Ob} (hn : ρ.length = hs.length) {a : Addr} (h : Told ρ hs a) : Told (t :: ρ) (r :: hs) a := by
  obtain ⟨d, i, o, h1, h2, h3⟩ := h
  have := get_len h1
  exact ⟨d, i, o, by rw [get_cons, if_neg (by omega)]; exact h1, h2, by rw [rget_cons, if_neg (by omega)]; exact h3⟩
/-- a region goes -/
theorem stp_drop {ρ' : Rho} {h' : Hs} {H' : Hp} (R : RelH K ρ hs H) (st : Stp ([] :: ρ) ([] :: hs) H ρ' h' H') (R' : RelH K ρ' h' H') : ∃ t r rest, ρ' = t :: ρ ∧ h' = r :: rest ∧ RelH K ρ rest H' ∧ Stp ρ hs H ρ rest H' := by
  obtain ⟨a, t, b, e1, e2⟩ := st.grow
  cases e1
  subst e2
  cases h' with
  | nil => have := R'.len; simp at this
  | cons r rest =>
    have R2 := R'.pop R.ne
    refine ⟨_, r, rest, rfl, rfl, R2, R.self, st.tup, fun x u e n => ?_⟩
    obtain ⟨q1, q2⟩ := st.kp x u e (not_told_push R n)
    exact ⟨q1, fun tt => q2 (told_up R2.len tt)⟩
end
/-! ## a region is laid behind another one -/
section
variable {K : PySem.W.Frag} {ρ0 : Rho} {t0 t : List Addr} {H : Hp}
theorem rget_merge {d i : Nat} {a : Addr} (h : rget (t :: t0 :: ρ0) d i = some a) : rget ((t0 ++ t) :: ρ0) (if d = ρ0.length + 1 then ρ0.length else d) (if d = ρ0.length + 1 then t0.length + i else i) = some a := by
  rw [rget_cons] at h
  by_cases hd : d = ρ0.length + 1
  · rw [if_pos (by simpa using hd)] at h
    rw [if_pos hd, if_pos hd, rget_cons, if_pos rfl, List.getElem?_append_right (by omega)]
    rw [Nat.add_sub_cancel_left]; exact h
  · rw [if_neg (by simpa using hd)] at h
    rw [if_neg hd, if_neg hd]
    rw [rget_cons] at h ⊢
    by_cases h2 : d = ρ0.length
    · rw [if_pos h2] at h ⊢
      rw [List.getElem?_append_left (List.getElem?_eq_some_iff.mp h).1]; exact h
    · rw [if_neg h2] at h ⊢; exact h
mutual
theorem RepV.shift : ∀ (v : Val) (w : V), RepV (t :: t0 :: ρ0) H v w → RepV ((t0 ++ t) :: ρ0) H (shiftV (ρ0.length + 1) t0.length v) w
  | .non, w, r => r
  | .bl _, w, r => r
  | .int _, w, r => r
  | .str _, w, r => r
  | .tup vs, w, r => by
    obtain ⟨a, xs, e, h1, h2⟩ := repV_tup.mp r
    exact repV_tup.mpr ⟨a, xs, e, h1, RepVs.shift vs xs h2⟩
  | .loc d i, w, r => by
    obtain ⟨a, e, h1⟩ := repV_loc.mp r
    have h2 := rget_merge h1
    show RepV _ H (if d = ρ0.length + 1 then .loc (ρ0.length + 1 - 1) (t0.length + i) else .loc d i) w
    by_cases hd : d = ρ0.length + 1
    · rw [if_pos hd, if_pos hd] at h2
      rw [if_pos hd]
      exact repV_loc.mpr ⟨a, e, h2⟩
    · rw [if_neg hd, if_neg hd] at h2
      rw [if_neg hd]
      exact repV_loc.mpr ⟨a, e, h2⟩
theorem RepVs.shift : ∀ (vs : List Val) (ws : List V), RepVs (t :: t0 :: ρ0) H vs ws → RepVs ((t0 ++ t) :: ρ0) H (shiftVs (ρ0.length + 1) t0.length vs) ws
  | [], ws, r => r
  | v :: vs, ws, r => by
    obtain ⟨x, q, e, h1, h2⟩ := repVs_cons.mp r
    exact repVs_cons.mpr ⟨x, q, e, RepV.shift v x h1, RepVs.shift vs q h2⟩
end
theorem shift_key (k : Key) : shiftV (ρ0.length + 1) t0.length (keyV k) = keyV k := by cases k <;> rfl
theorem KRep.shift {kvs : List (Val × Val)} {ws : List (Key × V)} (r : KRep (t :: t0 :: ρ0) H kvs ws) : KRep ((t0 ++ t) :: ρ0) H (kvs.map fun p => (shiftV (ρ0.length + 1) t0.length p.1, shiftV (ρ0.length + 1) t0.length p.2)) ws := by
  induction r with
  | nil => exact .nil
  | cons h _ ih => exact .cons ⟨by show shiftV _ _ _ = _; rw [h.1]; exact shift_key _, RepV.shift _ _ h.2⟩ ih
theorem ObRep.shift {a : Addr} : ∀ {o : Ob}, ObRep K (t :: t0 :: ρ0) H a o → ObRep K ((t0 ++ t) :: ρ0) H a (shiftO (ρ0.length + 1) t0.length o)
  | .lst vs, ⟨xs, h1, h2⟩ => ⟨xs, h1, RepVs.shift _ _ h2⟩
  | .ro vs, ⟨xs, h1, h2⟩ => ⟨xs, h1, RepVs.shift _ _ h2⟩
  | .dK kvs, ⟨ws, h1, h2⟩ => ⟨ws, h1, KRep.shift h2⟩
  | .dT _, h => h.elim
  | .set _, h => h.elim
mutual
theorem okAt_shift {D n : Nat} : ∀ v : Val, v.okAt (D + 1) = true → (shiftV (D + 1) n v).okAt D = true
  | .non, _ => rfl
  | .bl _, _ => rfl
  | .int _, _ => rfl
  | .str _, _ => rfl
  | .tup vs, q => okAts_shift vs q
  | .loc d i, q => by
    have q := of_decide_eq_true (show decide (d ≤ D + 1) = true from q)
    show Val.okAt D (if d = D + 1 then .loc (D + 1 - 1) (n + i) else .loc d i) = true
    by_cases hd : d = D + 1
    · rw [if_pos hd]; exact decide_eq_true (show D + 1 - 1 ≤ D by omega)
    · rw [if_neg hd]; exact decide_eq_true (show d ≤ D by omega)
theorem okAts_shift {D n : Nat} : ∀ vs : List Val, Val.okAt.okAts (D + 1) vs = true → Val.okAt.okAts D (shiftVs (D + 1) n vs) = true
  | [], _ => rfl
  | v :: vs, q => by
    obtain ⟨q1, q2⟩ := and2 (show (Val.okAt (D + 1) v && Val.okAt.okAts (D + 1) vs) = true from q)
    show (Val.okAt D (shiftV (D + 1) n v) && Val.okAt.okAts D (shiftVs (D + 1) n vs)) = true
    rw [okAt_shift v q1, okAts_shift vs q2]; rfl
end
theorem okO_shift {D n : Nat} : ∀ {o : Ob}, o.okAt (D + 1) = true → (shiftO (D + 1) n o).okAt D = true
  | .lst vs, q => by
    show (List.all _ _) = true
    rw [← okAts_all]; exact okAts_shift vs (by rw [okAts_all]; exact q)
  | .ro vs, q => by
    show (List.all _ _) = true
    rw [← okAts_all]; exact okAts_shift vs (by rw [okAts_all]; exact q)
  | .set vs, q => by
    show (List.all _ _) = true
    rw [← okAts_all]; exact okAts_shift vs (by rw [okAts_all]; exact q)
  | .dK kvs, q => by
    show (List.all (kvs.map _) _) = true
    rw [List.all_map]
    refine List.all_eq_true.mpr fun p hp => ?_
    obtain ⟨q1, q2⟩ := and2 (List.all_eq_true.mp (show (kvs.all fun p => p.1.okAt (D + 1) && p.2.okAt (D + 1)) = true from q) p hp)
    show (Val.okAt D (shiftV (D + 1) n p.1) && Val.okAt D (shiftV (D + 1) n p.2)) = true
    rw [okAt_shift _ q1, okAt_shift _ q2]; rfl
  | .dT kvs, q => by
    show (List.all (kvs.map _) _) = true
    rw [List.all_map]
    refine List.all_eq_true.mpr fun p hp => ?_
    obtain ⟨q1, q2⟩ := and2 (List.all_eq_true.mp (show (kvs.all fun p => p.1.okAt (D + 1) && p.2.okAt (D + 1)) = true from q) p hp)
    show (Val.okAt D (shiftV (D + 1) n p.1) && Val.okAt D (shiftV (D + 1) n p.2)) = true
    rw [okAt_shift _ q1, okAt_shift _ q2]; rfl
theorem shiftO_ro {D n : Nat} (o : Ob) : (shiftO D n o).isRo = o.isRo := by cases o <;> rfl
/-- where an object of the two regions stands in the one -/
theorem get_merge {r0 r : List Ob} {rest0 : Hs} {d i : Nat} {w : Ob} (hl : t0.length = r0.length) (hn : ρ0.length = rest0.length) (e : get ((r0 ++ r.map (shiftO (ρ0.length + 1) t0.length)) :: rest0) d i = some w) :
    (get (r0 :: rest0) d i = some w ∧ d ≤ ρ0.length ∧ (d = ρ0.length → i < t0.length)) ∨ ∃ j o, d = ρ0.length ∧ i = t0.length + j ∧ r[j]? = some o ∧ w = shiftO (ρ0.length + 1) t0.length o := by
  rw [get_cons] at e
  by_cases hd : d = rest0.length
  · rw [if_pos hd] at e
    by_cases hi : i < r0.length
    · rw [List.getElem?_append_left hi] at e
      exact .inl ⟨by rw [get_cons, if_pos hd]; exact e, by omega, fun _ => by omega⟩
    · rw [List.getElem?_append_right (by omega), List.getElem?_map] at e
      obtain ⟨o, e1, e2⟩ := Option.map_eq_some_iff.mp e
      exact .inr ⟨i - r0.length, o, by omega, by omega, e1, e2.symm⟩
  · rw [if_neg hd] at e
    have := get_len e
    exact .inl ⟨by rw [get_cons, if_neg hd]; exact e, by omega, fun h => by omega⟩
theorem rget_low {d i : Nat} {a : Addr} (h1 : d ≤ ρ0.length) (h2 : d = ρ0.length → i < t0.length) (h : rget ((t0 ++ t) :: ρ0) d i = some a) : rget (t :: t0 :: ρ0) d i = some a := by
  rw [rget_cons, if_neg (by show ¬ d = ρ0.length + 1; omega)]
  rw [rget_cons] at h ⊢
  by_cases hd : d = ρ0.length
  · rw [if_pos hd] at h ⊢
    rw [List.getElem?_append_left (h2 hd)] at h; exact h
  · rw [if_neg hd] at h ⊢; exact h
theorem rget_high {j : Nat} {a : Addr} (h : rget ((t0 ++ t) :: ρ0) ρ0.length (t0.length + j) = some a) : rget (t :: t0 :: ρ0) (ρ0.length + 1) j = some a := by
  rw [rget_cons, if_pos rfl, List.getElem?_append_right (by omega), Nat.add_sub_cancel_left] at h
  rw [rget_cons, if_pos (by simp)]; exact h
theorem RelH.merge {r0 r : List Ob} {rest0 : Hs} (R : RelH K (t :: t0 :: ρ0) (r :: r0 :: rest0) H) : RelH K ((t0 ++ t) :: ρ0) ((r0 ++ r.map (shiftO (ρ0.length + 1) t0.length)) :: rest0) H := by
  have sh := R.shape
  simp only [List.map_cons, List.cons.injEq] at sh
  obtain ⟨s1, s2, s3⟩ := sh
  have hn : ρ0.length = rest0.length := by have := R.len; simp at this; exact this
  have R0 := R.pop (by simp)
  have up : ∀ {d i o}, get (r0 :: rest0) d i = some o → get (r :: r0 :: rest0) d i = some o := fun {d i o} e => by
    have := get_len e
    rw [get_cons, if_neg (by simp at this ⊢; omega)]; exact e
  have top : ∀ {j o}, r[j]? = some o → get (r :: r0 :: rest0) (ρ0.length + 1) j = some o := fun {j o} e => by
    rw [get_cons, if_pos (by simp [hn])]; exact e
  have old : ∀ {d i w a}, get ((r0 ++ r.map (shiftO (ρ0.length + 1) t0.length)) :: rest0) d i = some w → rget ((t0 ++ t) :: ρ0) d i = some a → ∃ d' i' w', get (r :: r0 :: rest0) d' i' = some w' ∧ rget (t :: t0 :: ρ0) d' i' = some a ∧ w'.isRo = w.isRo ∧ (d' = ρ0.length + 1 → d = ρ0.length ∧ i = t0.length + i') ∧ (d' ≠ ρ0.length + 1 → d = d' ∧ i = i') := fun {d i w a} e h => by
    rcases get_merge s2 hn e with ⟨q1, q2, q3⟩ | ⟨j, o, rfl, rfl, q3, q4⟩
    · exact ⟨d, i, w, up q1, rget_low q2 q3 h, rfl, fun z => by omega, fun _ => ⟨rfl, rfl⟩⟩
    · exact ⟨_, j, o, top q3, rget_high h, by rw [q4, shiftO_ro], fun _ => ⟨rfl, rfl⟩, fun z => absurd rfl z⟩
  refine ⟨by simp, by simp [s1, s2, s3], fun d i w e => ?_, fun d i w e => ?_, fun d i w e j u a g1 g2 n1 n2 a1 a2 => ?_⟩
  · rcases get_merge s2 hn e with ⟨q1, q2, q3⟩ | ⟨j, o, rfl, rfl, q3, q4⟩
    · obtain ⟨a, h1, h2⟩ := R0.ob d i w q1
      refine ⟨a, ?_, ObRep.mono (Grow.rx ⟨t0, t, ρ0, rfl, rfl⟩) (TupX.refl _) (fun _ h => h) h2⟩
      exact Grow.rx ⟨t0, t, ρ0, rfl, rfl⟩ _ _ _ h1
    · obtain ⟨a, h1, h2⟩ := R.ob _ j o (top q3)
      subst q4
      refine ⟨a, ?_, h2.shift⟩
      have := rget_merge h1
      rw [if_pos rfl, if_pos rfl] at this
      exact this
  · rcases get_merge s2 hn e with ⟨q1, q2, q3⟩ | ⟨j, o, rfl, rfl, q3, q4⟩
    · exact R0.wf d i w q1
    · subst q4
      exact okO_shift (R.wf _ j o (top q3))
  · obtain ⟨d1, i1, w1, k1, k2, k3, k4, k5⟩ := old g1 a1
    obtain ⟨d2, i2, w2, l1, l2, l3, l4, l5⟩ := old g2 a2
    obtain ⟨z1, z2⟩ := R.inj d1 i1 w1 d2 i2 w2 a k1 l1 (by rw [k3]; exact n1) (by rw [l3]; exact n2) k2 l2
    subst z1 z2
    by_cases hd : d1 = ρ0.length + 1
    · obtain ⟨x1, x2⟩ := k4 hd
      obtain ⟨y1, y2⟩ := l4 hd
      exact ⟨x1.trans y1.symm, x2.trans y2.symm⟩
    · obtain ⟨x1, x2⟩ := k5 hd
      obtain ⟨y1, y2⟩ := l5 hd
      exact ⟨x1.trans y1.symm, x2.trans y2.symm⟩
theorem told_merge {r0 r : List Ob} {rest0 : Hs} (R : RelH K (t :: t0 :: ρ0) (r :: r0 :: rest0) H) {a : Addr} (h : Told ((t0 ++ t) :: ρ0) ((r0 ++ r.map (shiftO (ρ0.length + 1) t0.length)) :: rest0) a) : Told (t :: t0 :: ρ0) (r :: r0 :: rest0) a := by
  have sh := R.shape
  simp only [List.map_cons, List.cons.injEq] at sh
  have hn : ρ0.length = rest0.length := by have := R.len; simp at this; exact this
  obtain ⟨d, i, w, h1, h2, h3⟩ := h
  rcases get_merge sh.2.1 hn h1 with ⟨q1, q2, q3⟩ | ⟨j, o, rfl, rfl, q3, q4⟩
  · have := get_len q1
    exact ⟨d, i, w, by rw [get_cons, if_neg (by simp at this ⊢; omega)]; exact q1, h2, rget_low q2 q3 h3⟩
  · subst q4
    rw [shiftO_ro] at h2
    exact ⟨ρ0.length + 1, j, o, by rw [get_cons, if_pos (by simp [hn])]; exact q3, h2, rget_high h3⟩
end
end Z
-- ZS26
namespace Z
open PySem PySem.Spec PyProof.Rows L2
/-! # A def is what the interpreter says -/
section
variable {K : PySem.W.Frag} {z : Zx} {ρ : Rho} {hs : Hs} {H : Hp}
/-- what a def hands back -/
theorem leave_ok {m : Mode} {v : Val} {ρ' : Rho} {h' : Hs} {H' : Hp} {w : V} {Q : VK} {F : Nat → List Val → Hs → Prop} (q : wp (leave m v h') (PV K ρ hs H Q) F) (R : RelH K ρ hs H) (st : Stp ([] :: ρ) ([] :: hs) H ρ' h' H') (R' : RelH K ρ' h' H') (rv : RepV ρ' H' v w) : Q w H' := by
  obtain ⟨t, r, rest, rfl, rfl, R2, st2⟩ := stp_drop R st R'
  have hn : ρ.length = rest.length := R2.len
  cases m with
  | drop =>
    have q : wp (if v.under rest.length then Res.ok v rest else .bad) (PV K ρ hs H Q) F := q
    by_cases c : v.under rest.length = true
    · rw [if_pos c] at q
      exact q ρ H' w st2 R2 (RepV.below v w rv (by rw [hn]; exact c))
    · rw [if_neg c] at q; exact q.elim
  | keep =>
    cases rest with
    | nil => exact q.elim
    | cons r0 rest0 =>
      cases ρ with
      | nil => exact absurd rfl R.ne
      | cons t0 ρ0 =>
        have sh := R'.shape
        simp only [List.map_cons, List.cons.injEq] at sh
        have e1 : r0.length = t0.length := sh.2.1.symm
        have e2 : (r0 :: rest0).length = ρ0.length + 1 := by rw [← hn]; rfl
        have q : wp (Res.ok (shiftV (r0 :: rest0).length r0.length v) ((r0 ++ r.map (shiftO (r0 :: rest0).length r0.length)) :: rest0)) (PV K (t0 :: ρ0) hs H Q) F := q
        rw [e1, e2] at q
        have R3 := R'.merge
        refine q _ H' w ⟨⟨t0, t, ρ0, rfl, rfl⟩, st.tup, fun a u e n => ?_⟩ R3 (RepV.shift v w rv)
        obtain ⟨k1, k2⟩ := st.kp a u e (not_told_push R n)
        exact ⟨k1, fun tt => k2 (told_merge R' tt)⟩
theorem startS : ∀ {vs : List Val} {xs : List V} (n : Nat), RepVs ρ H vs xs → RelS ρ H (vs.map some ++ List.replicate n none) (xs.map some ++ List.replicate n none)
  | [], xs, n, r => by
    rw [repVs_nil.mp r]
    refine ⟨by simp, fun i v e => ?_⟩
    rw [List.map_nil, List.nil_append, List.getElem?_replicate] at e
    split at e <;> cases e
  | v :: vs, xs, n, r => by
    obtain ⟨x, q, rfl, r1, r2⟩ := repVs_cons.mp r
    have ih := startS n r2
    refine ⟨by simp [RepVs.length r2], fun i u e => ?_⟩
    cases i with
    | zero => cases e; exact ⟨x, rfl, r1⟩
    | succ i => exact ih.2 i u e
end
/-! the text's facts -/
structure TxOk (K : PySem.W.Frag) (mg : Str → Option Value) (g : Gb) (tbl : List Df) (cl : Nat → Value) : Prop where
  fns : g.fns = tbl.map fun d => (d.name, d.ps.length)
  dfs : ∀ d ∈ tbl, ∃ (fa : Addr) (fd : FuncData), Fun K d.name d.name d.st fa fd ∧ mg d.name = some (.ref fa) ∧ Binds K fd d.ps []
  frees : ∀ x ∈ g.frees, mg x = none
  consts : ∀ p ∈ g.consts, ∃ u, mg p.1 = some u ∧ RelV (flatW p.2) u
  cls : ∀ n x, g.cls[n]? = some x → ∃ (C : Addr) (bmB : List Value) (B newId initId : String), cl n = .ref C ∧ ExcBaseFacts B newId initId bmB ∧ PySem.W.excIn K C bmB newId = true ∧ mg x = some (.ref C) ∧ PySem.W.keepIn K (.ref C) = true ∧
    PySem.W.subIn K (.ref C) (.type "BaseException") = some true ∧ PySem.W.typeIn K (.ref C) = some (.type "type")
  mat : ∀ n k, n < g.cls.length → k < g.cls.length → PySem.W.exmOne K (cl n) (cl k) = some (g.caught n k)
section
variable {P : Program} {w : World} {K : PySem.W.Frag} {mg : Str → Option Value} {base : Heap} {g : Gb} {tbl : List Df} {cl : Nat → Value}
theorem fnOk (T : TxOk K mg g tbl cl) {n : Nat} (hd : ∀ d ∈ tbl, dfOk g n d = true) : ∀ (k f : Nat) (d : Df), tbl[f]? = some d → ∀ (fa : Addr) (fd : FuncData), Fun K d.name d.name d.st fa fd →
    FnOk P w K mg base (L2.CX P w) k fa fd d.ps (spZ ⟨callN (tbl.map (·.fd)) k, cl, g.cls.length⟩ K f d.ps.length)
  | 0, f, d, hf, fa, fd, F => ⟨fun vs H Q E h => h.1, fun A outer s H args us vs Q E hr e0 hb r ⟨_, ρ, hs, zs, R, rs, w⟩ => w.elim⟩
  | k + 1, f, d, hf, fa, fd, F => by
    have hmem : d ∈ tbl := List.mem_of_getElem? hf
    obtain ⟨c1, c2, c3, S⟩ := dfOk_scope (hd d hmem)
    refine F.okX S (fun vs H Q E h => h.1) (fun cdv A outer s H xs Q E hr ⟨hl, ρ, hs, zs, R, rs, wz⟩ => ?_)
    generalize hX : cxOf (L2.CX P w) P w K mg base d.N d.name (defScope d.st) fa cdv A outer s H E = X
    have hst : X.stack = X.env :: X.outer := by subst hX; rfl
    have hfr : X.env.frame = some X.env.locals := by subst hX; rfl
    have tk : Takes X (fun cls d _ H => E cls d H) := by subst hX; exact takes_of rfl rfl rfl rfl
    have pas : PassesOwn (model X.prog X.w) X.A X.env X.xe := by subst hX; exact passes_of rfl
    have ok : XOk X ⟨callN (tbl.map (·.fd)) k, cl, g.cls.length⟩ g (cOf d) := by
      subst hX
      refine ⟨S.kind, rfl, rfl, S.nd, rfl, fun _ => rfl, (show (A.deeper (envOfC d.name (defScope d.st) s.heap.objs.size fa cdv)).units + 200 < cLine by have := hr.un; omega), T.frees, T.consts, fun _ f2 x np e => ?_, rfl, fun n x e => ?_, T.mat, fun _ => ⟨rfl, rfl⟩⟩
      · rw [T.fns, List.getElem?_map] at e
        obtain ⟨d2, e1, e2⟩ := Option.map_eq_some_iff.mp e
        cases e2
        obtain ⟨fa2, fd2, F2, m2, b2⟩ := T.dfs d2 (List.mem_of_getElem? e1)
        exact ⟨k, fa2, fd2, d2.ps, fnOk T hd k f2 d2 e1 fa2 fd2 F2, hr, m2, F2.kp, b2⟩
      · obtain ⟨C, bmB, B, n1, n2, q1, q2, q3, q4, q5, q6, q7⟩ := T.cls n x e
        exact ⟨C, bmB, B, n1, n2, q1, q2, q3, q4, q5, raises_own q6 q7⟩
    refine ⟨_, chk_ok g n (cOf d) _ c1 X _ _ ok tk pas, ?_⟩
    have hK : X.K = K := by subst hX; rfl
    rw [hK]
    -- the interpreter's own call
    have hzl : zs.length = d.fd.np := by rw [c2, ← hl, rs.length]
    have wz : wp (match execs (callN (tbl.map (·.fd)) k) d.fd.body (startZ d.fd.n zs) ([] :: hs) with | some (o, h') => endOf d.fd.mode o h' | none => Res.bad) (PV K ρ hs H Q) (PX K ⟨callN (tbl.map (·.fd)) (k + 1), cl, g.cls.length⟩ ρ hs H E) := by
      have wz : wp (match (tbl.map (·.fd))[f]? with | none => Res.bad | some d => if zs.length = d.np then match execs (callN (tbl.map (·.fd)) k) d.body (startZ d.n zs) ([] :: hs) with | some (o, h') => endOf d.mode o h' | none => Res.bad else Res.bad) (PV K ρ hs H Q) (PX K ⟨callN (tbl.map (·.fd)) (k + 1), cl, g.cls.length⟩ ρ hs H E) := wz
      rw [List.getElem?_map, hf] at wz
      have wz : wp (if zs.length = d.fd.np then match execs (callN (tbl.map (·.fd)) k) d.fd.body (startZ d.fd.n zs) ([] :: hs) with | some (o, h') => endOf d.fd.mode o h' | none => Res.bad else Res.bad) (PV K ρ hs H Q) (PX K ⟨callN (tbl.map (·.fd)) (k + 1), cl, g.cls.length⟩ ρ hs H E) := wz
      rw [if_pos hzl] at wz
      exact wz
    have R1 := R.push
    have S1 : RelS ([] :: ρ) H (startZ d.fd.n zs) (L2.start d.N xs) := by
      unfold startZ L2.start
      rw [c3, ← rs.length]
      exact startS _ (RepVs.mono (rx_push []) (TupX.refl _) _ _ rs)
    refine ⟨[] :: ρ, [] :: hs, startZ d.fd.n zs, R1, S1, ?_⟩
    cases e1 : execs (callN (tbl.map (·.fd)) k) d.fd.body (startZ d.fd.n zs) ([] :: hs) with
    | none => rw [e1] at wz; exact wz.elim
    | some q =>
      obtain ⟨o, h'⟩ := q
      rw [e1] at wz
      cases o with
      | nx σ1 => exact fun ρ' H' σ' st R' S' => leave_ok (v := .non) wz R st R' (repV_non.mpr rfl)
      | rt v => exact fun ρ' H' u st R' rv => leave_ok wz R st R' rv
      | bk σ1 => exact wz.elim
      | ct σ1 => exact wz.elim
      | xc cc vs σ1 =>
        intro ρ' H' σ' dd st R' S' x
        obtain ⟨t, r, rest, rfl, rfl, R2, st2⟩ := stp_drop R st R'
        have wz : wp (if vs.all (Val.under rest.length) then Res.exc cc vs rest else .bad) (PV K ρ hs H Q) (PX K ⟨callN (tbl.map (·.fd)) (k + 1), cl, g.cls.length⟩ ρ hs H E) := wz
        by_cases c : vs.all (Val.under rest.length) = true
        · rw [if_pos c] at wz
          exact wz ρ H' dd st2 R2 x
        · rw [if_neg c] at wz; exact wz.elim
theorem only_ro {vs : List Val} {d i : Nat} {o : Ob} (e : get [[.ro vs]] d i = some o) : d = 0 ∧ i = 0 ∧ o = .ro vs := by
  rw [get_cons] at e
  by_cases hd : d = ([] : Hs).length
  · rw [if_pos hd] at e
    cases i with
    | zero => simp at e; exact ⟨hd, rfl, e.symm⟩
    | succ i => simp at e
  · rw [if_neg hd] at e; simp [get] at e
/-- the law, by the interpreter -/
theorem law_sp {f : Nat} {H : Hp} {a : Addr} {ns : List Int} {k : Nat} (hO : Only H) (hS : SqL K H a (ns.map V.int)) (h : ∃ hs, callN (tbl.map (·.fd)) k f [.loc 0 0] [[.ro (ns.map Val.int)]] = .ok (.bl true) hs) :
    spZ ⟨callN (tbl.map (·.fd)) k, cl, g.cls.length⟩ K f 1 [.ref a] H (fun v _ => v = .bl true) fun _ _ _ => False := by
  obtain ⟨hs, e⟩ := h
  refine ⟨rfl, [[a]], [[.ro (ns.map Val.int)]], [.loc 0 0], ⟨by simp, rfl, fun d i o e => ?_, fun d i o e => ?_, fun d i o e j u b g1 g2 n1 n2 a1 a2 => ?_⟩, .cons' (repV_loc.mpr ⟨a, rfl, rfl⟩) .nil', ?_⟩
  · obtain ⟨rfl, rfl, rfl⟩ := only_ro e
    refine ⟨a, rfl, ns.map V.int, ?_, RepVs.of_ints ns⟩
    rcases hS with (hS | hS) | hS
    · rcases hO a with q | ⟨o, xs, q⟩
      · rw [q] at hS; cases hS
      · rw [q] at hS; cases hS
    · exact .inl hS
    · exact .inr hS
  · obtain ⟨rfl, rfl, rfl⟩ := only_ro e
    show (List.all _ _) = true
    rw [List.all_map]
    exact List.all_eq_true.mpr fun _ _ => rfl
  · obtain ⟨rfl, rfl, rfl⟩ := only_ro g1
    cases n1
  · show wp (callN (tbl.map (·.fd)) k f [.loc 0 0] [[.ro (ns.map Val.int)]]) _ _
    rw [e]
    exact fun ρ' H' w st R rv => repV_bl.mp rv
end
end Z
-- ZS27
namespace Z
open PySem PySem.Spec PyProof.Rows L2
/-! # What the top has written -/
def AllP {α : Type} (p : α → Prop) : List α → Prop
  | [] => True
  | x :: r => p x ∧ AllP p r
theorem AllP.mem {α : Type} {p : α → Prop} : ∀ {l : List α}, AllP p l → ∀ x ∈ l, p x
  | y :: r, ⟨h, t⟩, x, hx => by
    rcases List.mem_cons.mp hx with rfl | hx
    · exact h
    · exact AllP.mem t x hx
structure DfK (K : PySem.W.Frag) (d : Df) : Prop where
  ex : ∃ (f : Addr) (oc : Value) (od : Option Addr) (osl : Array (Option Value)) (kV dc pm : Value) (an : Option Addr) (cd ct : Value), PySem.W.nsIn K mainGlobals d.name = some (some (.ref f)) ∧
    K.lookup f = some ⟨oc, od, .func (PySem.W.fnOf d.name d.name (defArgs d.st) (defBody d.st) (defScope d.st) .none kV dc pm an cd ct), osl⟩ ∧ PySem.W.codeIn K cd d.name = true ∧ PySem.W.keepIn K (.ref f) = true
theorem dfk {K : PySem.W.Frag} {d : Df} {f : Addr} {oc : Value} {od : Option Addr} {osl : Array (Option Value)} {kV dc pm : Value} {an : Option Addr} {cd ct : Value} (a : PySem.W.nsIn K mainGlobals d.name = some (some (.ref f)))
    (l : K.lookup f = some ⟨oc, od, .func (PySem.W.fnOf d.name d.name (defArgs d.st) (defBody d.st) (defScope d.st) .none kV dc pm an cd ct), osl⟩) (c : PySem.W.codeIn K cd d.name = true) (k : PySem.W.keepIn K (.ref f) = true) : DfK K d :=
  ⟨f, oc, od, osl, kV, dc, pm, an, cd, ct, a, l, c, k⟩
/-- how arguments bind -/
def DfB (d : Df) : Prop := ∀ (kV dc pm : Value) (an : Option Addr) (cd ct : Value) (us : List Value), us.length = d.ps.length → bindArgs (PySem.W.fnOf d.name d.name (defArgs d.st) (defBody d.st) (defScope d.st) .none kV dc pm an cd ct) ⟨us, []⟩ = pure (d.ps.zip us)
structure ClsK (K : PySem.W.Frag) (x : Str) (C : Addr) : Prop where
  a : PySem.W.nsIn K mainGlobals x = some (some (.ref C))
  e : PySem.W.excIn K C [.type "ValueError", .type "Exception", .type "BaseException", .type "object"] "ValueError.__new__" = true
  k : PySem.W.keepIn K (.ref C) = true
  b : PySem.W.subIn K (.ref C) (.type "BaseException") = some true
  t : PySem.W.typeIn K (.ref C) = some (.type "type")
  i : PySem.W.isClsIn K C = true
def AllC (K : PySem.W.Frag) : List Str → List Addr → Prop
  | [], _ => True
  | _ :: _, [] => False
  | x :: xs, C :: Cs => ClsK K x C ∧ AllC K xs Cs
theorem AllC.at {K : PySem.W.Frag} : ∀ {xs : List Str} {Cs : List Addr} {n : Nat} {x : Str}, AllC K xs Cs → xs[n]? = some x → ∃ C, Cs[n]? = some C ∧ ClsK K x C
  | y :: xs, [], _, _, h, _ => h.elim
  | y :: xs, C :: Cs, 0, x, h, e => by cases e; exact ⟨C, rfl, h.1⟩
  | y :: xs, C :: Cs, n + 1, x, h, e => AllC.at (xs := xs) (Cs := Cs) (n := n) h.2 e
/-- what catches what: a row for each class -/
def RowM (K : PySem.W.Frag) (c : Addr) : List Addr → List Bool → Prop
  | [], _ => True
  | _ :: _, [] => False
  | k :: ks, b :: bs => PySem.W.subIn K (.ref c) (.ref k) = some b ∧ RowM K c ks bs
def AllM (K : PySem.W.Frag) (ks : List Addr) : List Addr → List (List Bool) → Prop
  | [], _ => True
  | _ :: _, [] => False
  | c :: cs, r :: rs => RowM K c ks r ∧ AllM K ks cs rs
theorem RowM.at {K : PySem.W.Frag} {c : Addr} : ∀ {ks : List Addr} {bs : List Bool} {n : Nat} {k : Addr}, RowM K c ks bs → ks[n]? = some k → PySem.W.subIn K (.ref c) (.ref k) = some ((bs[n]?).getD false)
  | k :: ks, [], _, _, h, _ => h.elim
  | k :: ks, b :: bs, 0, _, h, e => by cases e; exact h.1
  | k :: ks, b :: bs, n + 1, _, h, e => RowM.at (ks := ks) (bs := bs) (n := n) h.2 e
theorem AllM.at {K : PySem.W.Frag} {ks : List Addr} : ∀ {cs : List Addr} {rs : List (List Bool)} {n : Nat} {c : Addr}, AllM K ks cs rs → cs[n]? = some c → RowM K c ks ((rs[n]?).getD [])
  | c :: cs, [], _, _, h, _ => h.elim
  | c :: cs, r :: rs, 0, _, h, e => by cases e; exact h.1
  | c :: cs, r :: rs, n + 1, _, h, e => AllM.at (cs := cs) (rs := rs) (n := n) h.2 e
theorem exm_own {K : PySem.W.Frag} {C k : Addr} {b : Bool} (h1 : PySem.W.subIn K (.ref k) (.type "BaseException") = some true) (h2 : PySem.W.isClsIn K k = true) (h3 : PySem.W.typeIn K (.ref k) = some (.type "type")) (h4 : PySem.W.subIn K (.ref C) (.ref k) = some b) : PySem.W.exmOne K (.ref C) (.ref k) = some b := by
  have e1 : (PySem.W.subIn K (.ref k) (.type "BaseException") == some true) = true := by rw [h1]; rfl
  have e2 : ((PySem.W.clsIn K k).isSome && PySem.W.typeIn K (.ref k) == some (.type "type")) = true := by
    have h2' : (PySem.W.clsIn K k).isSome = true := h2
    rw [h2', h3]; rfl
  show (if (PySem.W.subIn K (.ref k) (.type "BaseException") == some true) = true then (if ((PySem.W.clsIn K k).isSome && PySem.W.typeIn K (.ref k) == some (.type "type")) = true then PySem.W.subIn K (.ref C) (.ref k) else none) else none) = some b
  rw [if_pos e1, if_pos e2]
  exact h4
structure ConK (K : PySem.W.Frag) (p : Str × Val) : Prop where
  ex : ∃ u, PySem.W.nsIn K mainGlobals p.1 = some (some u) ∧ RelV (flatW p.2) u
theorem conk {K : PySem.W.Frag} {p : Str × Val} {u : Value} (a : PySem.W.nsIn K mainGlobals p.1 = some (some u)) (r : RelV (flatW p.2) u) : ConK K p := ⟨u, a, r⟩
def FreeK (K : PySem.W.Frag) (x : Str) : Prop := PySem.W.nsIn K mainGlobals x = some none
theorem freek {K : PySem.W.Frag} {x : Str} (a : PySem.W.nsIn K mainGlobals x = some none) : FreeK K x := a
def clOf (Cs : List Addr) : Nat → Value := fun n => match Cs[n]? with
  | some C => .ref C
  | none => .none
theorem tx_mk {K : PySem.W.Frag} {h : Heap} {mg : Str → Option Value} (X : K.In h) (G : h.Ns mainGlobals mg) {g : Gb} {tbl : List Df} {Cs : List Addr} (hf : g.fns = tbl.map fun d => (d.name, d.ps.length)) (hb : AllP DfB tbl) (hl : Cs.length = g.cls.length)
    (hd : AllP (DfK K) tbl) (hz : AllP (FreeK K) g.frees) (hn : AllP (ConK K) g.consts) (hc : AllC K g.cls Cs) (hm : AllM K Cs Cs g.mat) : TxOk K mg g tbl (clOf Cs) := by
  refine ⟨hf, fun d hdm => ?_, fun x hx => PySem.W.mg_none_of X G (hz.mem x hx), fun p hp => ?_, fun n x e => ?_, fun n k h1 h2 => ?_⟩
  · obtain ⟨f, oc, od, osl, kV, dc, pm, an, cd, ct, a, l, c, k⟩ := (hd.mem d hdm).ex
    have F := fun_mk (st := d.st) l c k
    exact ⟨f, _, F, PySem.W.mg_of X G a, F.binds (hb.mem d hdm)⟩
  · obtain ⟨u, a, r⟩ := (hn.mem p hp).ex
    exact ⟨u, PySem.W.mg_of X G a, r⟩
  · obtain ⟨C, e1, q⟩ := hc.at e
    refine ⟨C, _, _, _, _, ?_, PySem.F.excBase_ValueError, q.e, PySem.W.mg_of X G q.a, q.k, q.b, q.t⟩
    unfold clOf
    rw [e1]
  · obtain ⟨C, e1, _⟩ := hc.at (List.getElem?_eq_getElem h1)
    obtain ⟨k', e2, q⟩ := hc.at (List.getElem?_eq_getElem h2)
    have r := (hm.at e1).at e2
    have := exm_own q.b q.i q.t r
    unfold clOf Gb.caught
    rw [e1, e2]
    exact this
def spL (C : Nat → List Val → M Val) (nc : Nat) (K : PySem.W.Frag) (f : Nat) : Sp := fun xs H Q E => ∀ cl, spZ ⟨C, cl, nc⟩ K f 1 xs H Q E
/-- the law's promise -/
theorem law_all {l : PySem.W.OpenLaw} {w : World} {K : PySem.W.Frag} {mg : Str → Option Value} {fa : Addr} {g : Gb} {tbl : List Df} {Cs : List Addr} (T : TxOk K mg g tbl (clOf Cs)) {n k f : Nat} {d : Df} (hd : ∀ d ∈ tbl, dfOk g n d = true) (hf : tbl[f]? = some d) (hfa : mg d.name = some (.ref fa)) {x : Str} (hp : d.ps = [x]) (hb : DfB d) :
    ∃ fd : FuncData, (∀ (s : Shared) (v : Value), BindsTo s fd ⟨[v], []⟩ [(x, v)]) ∧ ∀ base : Heap, K.In base → base.Ns mainGlobals mg → FnOk l.prog w K mg base (L2.CX l.prog w) k fa fd [x] (spL (callN (tbl.map (·.fd)) k) g.cls.length K f) := by
  obtain ⟨fa2, fd, F, m, b⟩ := T.dfs d (List.mem_of_getElem? hf)
  rw [hfa] at m
  cases m
  refine ⟨fd, fun s v => ?_, fun base _ _ => ?_⟩
  · obtain ⟨oc, od, kV, doc, pm, an, cdv, ct, osl, e, lk, hcd⟩ := F.ex
    have := hb kV doc pm an cdv ct [v] (by rw [hp]; rfl)
    rw [hp, ← e] at this
    exact .of_eq this
  · have := fnOk (P := l.prog) (w := w) (base := base) T hd k f d hf fa fd F
    rw [hp] at this
    exact this.imp fun vs H Q E h => h _
end Z
-- ZP
namespace Z
open PySem
/-! # Running by rewriting -/
section
variable {α β : Type} {Q : α → Hs → Prop} {P : Val → Hs → Prop} {E : Nat → List Val → Hs → Prop} {h : Hs}
theorem r_bnd {x : M β} {f : β → M α} : wp (bnd x f h) Q E = wp (x h) (fun a h' => wp (f a h') Q E) E := propext wp_bnd
theorem r_ret {a : α} : wp (ret a h) Q E = Q a h := rfl
theorem r_ok {a : α} : wp (.ok a h) Q E = Q a h := rfl
theorem r_bad : wp ((bad : M α) h) Q E = False := rfl
theorem r_guard {b : Bool} {Q : Unit → Hs → Prop} : wp (guard b h) Q E = (b = true ∧ Q () h) := by
  unfold guard
  cases b <;> simp [wp]
theorem r_guardH {p : Hs → Bool} {Q : Unit → Hs → Prop} : wp (guardH p h) Q E = (p h = true ∧ Q () h) := by
  unfold guardH
  cases p h <;> simp [wp]
theorem r_ite {c : Prop} [Decidable c] {x y : M α} : wp ((if c then x else y) h) Q E = if c then wp (x h) Q E else wp (y h) Q E := by split <;> rfl
theorem r_noExc {x : M α} : wp (noExc x h) Q E = wp (x h) Q fun _ _ _ => False := propext wp_noExc
theorem r_alloc {o : Ob} {r : List Ob} : wp (alloc o (r :: h)) P E = P (.loc h.length r.length) ((r ++ [o]) :: h) := rfl
theorem r_rd {d i : Nat} {o : Ob} {Q : Ob → Hs → Prop} (g : get h d i = some o) : wp (rd (.loc d i) h) Q E = Q o h := by
  unfold rd
  simp only [g, wp]
theorem r_wr {d i : Nat} {o u : Ob} {Q : Unit → Hs → Prop} (g : get h d i = some u) (k : o.okAt d = true) : wp (wr d i o h) Q E = Q () (put h d i o) := by
  unfold wr
  rw [g, k]
  rfl
theorem r_optM {o : Option α} {a : α} (e : o = some a) : wp (optM o h) Q E = Q a h := by subst e; rfl
theorem r_exc {c : Nat} {vs : List Val} : wp (.exc c vs h : Res α) Q E = E c vs h := rfl
end
section
variable {Q : Out → Hs → Prop} {h : Hs} {σ : Zt}
theorem w_ev {α : Type} {x : M α} {k : α → SM} : wps (ev σ x k h) Q = wp (x h) (fun a h' => wps (k a h') Q) (fun c vs h' => Q (.xc c vs σ) h') := propext wps_ev
theorem w_sq {x : SM} {k : Zt → SM} : wps (sq x k h) Q = wps (x h) (thenQ k Q) := propext wps_sq
theorem w_fin {o : Out} : wps (fin o h) Q = Q o h := rfl
theorem w_some {o : Out} : wps (some (o, h)) Q = Q o h := rfl
theorem w_nil {C : Nat → List Val → M Val} : wps (execs C [] σ h) Q = Q (.nx σ) h := rfl
theorem w_cons {C : Nat → List Val → M Val} {s : S} {r : List S} : wps (execs C (s :: r) σ h) Q = wps (exec C s σ h) (thenQ (fun σ' => execs C r σ') Q) := by
  show wps (sq (exec C s σ) (fun σ' => execs C r σ') h) Q = _
  exact w_sq
theorem t_nx {k : Zt → SM} : thenQ k Q (.nx σ) h = wps (k σ h) Q := rfl
theorem t_bk {k : Zt → SM} : thenQ k Q (.bk σ) h = Q (.bk σ) h := rfl
theorem t_ct {k : Zt → SM} : thenQ k Q (.ct σ) h = Q (.ct σ) h := rfl
theorem t_rt {k : Zt → SM} {v : Val} : thenQ k Q (.rt v) h = Q (.rt v) h := rfl
theorem t_xc {k : Zt → SM} {c : Nat} {vs : List Val} : thenQ k Q (.xc c vs σ) h = Q (.xc c vs σ) h := rfl
theorem w_ite {c : Prop} [Decidable c] {x y : SM} : wps ((if c then x else y) h) Q = if c then wps (x h) Q else wps (y h) Q := by split <;> rfl
end
/-! ## a call -/
theorem call_of {tbl : List Fd} {k f : Nat} {vs : List Val} {h : Hs} {d : Fd} {P : Val → Hs → Prop} {E : Nat → List Val → Hs → Prop} (hd : tbl[f]? = some d) (hl : vs.length = d.np) (w : wps (execs (callN tbl k) d.body (startZ d.n vs) ([] :: h)) fun o h' => wp (endOf d.mode o h') P E) : wp (callN tbl (k + 1) f vs h) P E := by
  show wp (match tbl[f]? with | none => Res.bad | some d => if vs.length = d.np then match execs (callN tbl k) d.body (startZ d.n vs) ([] :: h) with | some (o, h') => endOf d.mode o h' | none => Res.bad else Res.bad) P E
  rw [hd]
  show wp (if vs.length = d.np then match execs (callN tbl k) d.body (startZ d.n vs) ([] :: h) with | some (o, h') => endOf d.mode o h' | none => Res.bad else Res.bad) P E
  rw [if_pos hl]
  cases e : execs (callN tbl k) d.body (startZ d.n vs) ([] :: h) with
  | none => rw [e] at w; exact w.elim
  | some q => rw [e] at w; exact w
theorem leave_drop {v : Val} {r : List Ob} {h : Hs} {P : Val → Hs → Prop} {E : Nat → List Val → Hs → Prop} (u : v.under h.length = true) : wp (leave .drop v (r :: h)) P E = P v h := by
  show wp (if v.under h.length then Res.ok v h else .bad) P E = _
  rw [if_pos u]; rfl
/-! ## the heap -/
theorem get_top {r : List Ob} {h : Hs} {i : Nat} : get (r :: h) h.length i = r[i]? := by unfold get; rw [if_pos rfl]
theorem get_lenZ {hs : Hs} : ∀ {d i : Nat} {o : Ob}, get hs d i = some o → d < hs.length := by
  induction hs with
  | nil => intro d i a h; simp [get] at h
  | cons r rest ih =>
    intro d i a h
    unfold get at h
    split at h
    · rename_i e; subst e; simp
    · have := ih h; simp; omega
theorem get_up {r : List Ob} {h : Hs} {d i : Nat} {o : Ob} (g : get h d i = some o) : get (r :: h) d i = some o := by
  have := get_lenZ g
  unfold get
  rw [if_neg (by omega)]; exact g
theorem put_top {r : List Ob} {h : Hs} {i : Nat} {o : Ob} : put (r :: h) h.length i o = r.set i o :: h := by unfold put; rw [if_pos rfl]
theorem put_up {r : List Ob} {h : Hs} {d i : Nat} {o u : Ob} (g : get h d i = some u) : put (r :: h) d i o = r :: put h d i o := by
  have := get_lenZ g
  conv => lhs; unfold put
  rw [if_neg (by omega)]
theorem put_len {o : Ob} : ∀ {hs : Hs} {d i : Nat}, (put hs d i o).length = hs.length := by
  intro hs
  induction hs with
  | nil => intros; rfl
  | cons r t ih => intro d i; unfold put; split <;> simp [ih]
theorem get_put_same {o u : Ob} : ∀ {hs : Hs} {d i : Nat}, get hs d i = some u → get (put hs d i o) d i = some o := by
  intro hs
  induction hs with
  | nil => intro d i h; simp [get] at h
  | cons r t ih =>
    intro d i h
    unfold get at h
    unfold put
    by_cases hd : d = t.length
    · rw [if_pos hd] at h ⊢
      unfold get
      rw [if_pos hd]
      have := (List.getElem?_eq_some_iff.mp h).1
      exact List.getElem?_set_self this
    · rw [if_neg hd] at h ⊢
      unfold get
      rw [put_len, if_neg hd]
      exact ih h
theorem get_put_ne {o : Ob} : ∀ {hs : Hs} {d i e j : Nat}, ¬ (e = d ∧ j = i) → get (put hs d i o) e j = get hs e j := by
  intro hs
  induction hs with
  | nil => intros; rfl
  | cons r t ih =>
    intro d i e j ne
    unfold put
    by_cases hd : d = t.length
    · rw [if_pos hd]
      unfold get
      by_cases he : e = t.length
      · rw [if_pos he, if_pos he]
        exact List.getElem?_set_ne (fun z => ne ⟨he.trans hd.symm, z.symm⟩)
      · rw [if_neg he, if_neg he]
    · rw [if_neg hd]
      unfold get
      rw [put_len]
      by_cases he : e = t.length
      · rw [if_pos he, if_pos he]
      · rw [if_neg he, if_neg he]; exact ih ne
theorem put_put {o u : Ob} : ∀ {hs : Hs} {d i : Nat}, put (put hs d i o) d i u = put hs d i u := by
  intro hs
  induction hs with
  | nil => intros; rfl
  | cons r t ih =>
    intro d i
    conv => lhs; arg 1; unfold put
    conv => rhs; unfold put
    by_cases hd : d = t.length
    · rw [if_pos hd, if_pos hd]
      unfold put
      rw [if_pos hd, List.set_set]
    · rw [if_neg hd, if_neg hd]
      conv => lhs; unfold put
      rw [put_len, if_neg hd, ih]
theorem place_nat {n : Nat} {i : Int} (h1 : 0 ≤ i) (h2 : i < n) : place n i = some i.toNat := by unfold place; rw [if_pos h1, if_pos h2]
end Z
namespace Z
open PySem
def optP {α : Type} (o : Option α) (f : α → Prop) : Prop := match o with
  | some a => f a
  | none => False
theorem optP_some {α : Type} {a : α} {f : α → Prop} : optP (some a) f = f a := rfl
theorem r_rd' {d i : Nat} {h : Hs} {Q : Ob → Hs → Prop} {E : Nat → List Val → Hs → Prop} : wp (rd (.loc d i) h) Q E = optP (get h d i) fun o => Q o h := by
  unfold rd
  cases e : get h d i <;> simp [wp, optP, e]
theorem r_wr' {d i : Nat} {o : Ob} {h : Hs} {Q : Unit → Hs → Prop} {E : Nat → List Val → Hs → Prop} : wp (wr d i o h) Q E = (o.okAt d = true ∧ (get h d i).isSome = true ∧ Q () (put h d i o)) := by
  unfold wr
  by_cases c : (o.okAt d && (get h d i).isSome) = true
  · rw [if_pos c]
    rw [Bool.and_eq_true] at c
    simp [wp, c.1, c.2]
  · rw [if_neg c]
    rw [Bool.and_eq_true] at c
    simp only [wp, false_iff, eq_iff_iff]
    exact fun ⟨x, y, _⟩ => c ⟨x, y⟩
theorem r_optM' {α : Type} {o : Option α} {h : Hs} {Q : α → Hs → Prop} {E : Nat → List Val → Hs → Prop} : wp (optM o h) Q E = optP o fun a => Q a h := by
  cases o <;> rfl
/-- places told by numerals -/
theorem nth_0 {α : Type} {a : α} {l : List α} : nth (a :: l) 0 = some a := by
  unfold nth place
  simp
theorem nth_1 {α : Type} {a b : α} {l : List α} : nth (a :: b :: l) 1 = some b := by
  unfold nth place
  rw [if_pos (by decide), if_pos (by simp <;> omega)]; rfl
theorem nth_2 {α : Type} {a b c : α} {l : List α} : nth (a :: b :: c :: l) 2 = some c := by
  unfold nth place
  rw [if_pos (by decide), if_pos (by simp <;> omega)]; rfl
theorem nth_3 {α : Type} {a b c d : α} {l : List α} : nth (a :: b :: c :: d :: l) 3 = some d := by
  unfold nth place
  rw [if_pos (by decide), if_pos (by simp <;> omega)]; rfl
theorem nth_4 {α : Type} {a b c d e : α} {l : List α} : nth (a :: b :: c :: d :: e :: l) 4 = some e := by
  unfold nth place
  rw [if_pos (by decide), if_pos (by simp <;> omega)]; rfl
theorem nth_nat {α : Type} {l : List α} {n : Nat} (h : n < l.length) : nth l (n : Int) = l[n]? := by
  unfold nth
  rw [place_nat (by omega) (by omega)]
  simp
theorem nth_int {α : Type} {l : List α} {i : Int} (h0 : 0 ≤ i) (h : i < l.length) : nth l i = l[i.toNat]? := by
  unfold nth
  rw [place_nat h0 h]
theorem nth_last {α : Type} {l : List α} (h : l ≠ []) : nth l (-1) = l.getLast? := by
  have hl : 0 < l.length := List.length_pos_iff.mpr h
  unfold nth place
  rw [if_neg (by decide), if_pos (by omega), List.getLast?_eq_getElem?]
  have e : (-1 + (l.length : Int)).toNat = l.length - 1 := by omega
  simp only [e]
theorem andV_bl {b : Bool} {k : M Val} : andV (.bl b) k = if b = true then k else ret (.bl false) := by cases b <;> rfl
theorem orV_bl {b : Bool} {k : M Val} : orV (.bl b) k = if b = true then ret (.bl true) else k := by cases b <;> rfl
theorem ndl {a b : Int} : (!decide (a < b)) = decide (b ≤ a) := by
  rw [Bool.eq_iff_iff]
  simp
end Z
-- ZP2
namespace Z
open PySem
section
variable {C : Nat → List Val → M Val} {σ : Zt} {h : Hs} {Q : Val → Hs → Prop} {E : Nat → List Val → Hs → Prop}
variable {ea eb ec : Z.E} {es : List Z.E}
def varP (o : Option (Option Val)) (f : Val → Prop) : Prop := match o with
  | some (some v) => f v
  | _ => False
theorem varP_some {v : Val} {f : Val → Prop} : varP (some (some v)) f = f v := rfl
theorem e_var {i : Nat} : wp (evalE C (.var i) σ h) Q E = varP σ[i]? fun v => Q v h := by
  show wp ((match σ[i]? with | some (some v) => ret v | _ => bad) h) Q E = _
  cases σ[i]? with
  | none => rfl
  | some o => cases o <;> rfl
theorem e_con {v : Val} : wp (evalE C (.con v) σ h) Q E = Q v h := rfl
theorem e_bin {op : Bop} : wp (evalE C (.bin op ea eb) σ h) Q E = wp (evalE C ea σ h) (fun x h1 => wp (evalE C eb σ h1) (fun y h2 => wp (binop op x y h2) Q E) E) E := by
  show wp (bnd (evalE C ea σ) (fun x => bnd (evalE C eb σ) fun y => binop op x y) h) Q E = _
  rw [r_bnd]; congr 1; funext x h1; rw [r_bnd]
theorem e_cmp {op : Cop} : wp (evalE C (.cmp op ea eb) σ h) Q E = wp (evalE C ea σ h) (fun x h1 => wp (evalE C eb σ h1) (fun y h2 => wp (cmpop op x y h2) Q E) E) E := by
  show wp (bnd (evalE C ea σ) (fun x => bnd (evalE C eb σ) fun y => cmpop op x y) h) Q E = _
  rw [r_bnd]; congr 1; funext x h1; rw [r_bnd]
theorem e_chain {op op2 : Cop} : wp (evalE C (.chain op op2 ea eb ec) σ h) Q E = wp (evalE C ea σ h) (fun x h1 => wp (evalE C eb σ h1) (fun y h2 => wp (cmpop op x y h2) (fun t h3 => wp (andV t (bnd (evalE C ec σ) fun w => cmpop op2 y w) h3) Q E) E) E) E := by
  show wp (bnd (evalE C ea σ) (fun x => bnd (evalE C eb σ) fun y => bnd (cmpop op x y) fun z => andV z (bnd (evalE C ec σ) fun w => cmpop op2 y w)) h) Q E = _
  rw [r_bnd]; congr 1; funext x h1; rw [r_bnd]; congr 1; funext y h2; rw [r_bnd]
theorem e_neg : wp (evalE C (.neg ea) σ h) Q E = wp (evalE C ea σ h) (fun x h1 => wp (negV x h1) Q E) E := by
  show wp (bnd (evalE C ea σ) negV h) Q E = _
  rw [r_bnd]
theorem e_inv : wp (evalE C (.inv ea) σ h) Q E = wp (evalE C ea σ h) (fun x h1 => wp (invV x h1) Q E) E := by
  show wp (bnd (evalE C ea σ) invV h) Q E = _
  rw [r_bnd]
theorem e_not : wp (evalE C (.not ea) σ h) Q E = wp (evalE C ea σ h) (fun x h1 => wp (truth x h1) (fun t h2 => Q (.bl (!t)) h2) E) E := by
  show wp (bnd (evalE C ea σ) (fun x => bnd (truth x) fun b => ret (.bl (!b))) h) Q E = _
  rw [r_bnd]; congr 1; funext x h1; rw [r_bnd]; rfl
theorem e_and : wp (evalE C (.and ea eb) σ h) Q E = wp (evalE C ea σ h) (fun x h1 => wp (andV x (evalE C eb σ) h1) Q E) E := by
  show wp (bnd (evalE C ea σ) (fun x => andV x (evalE C eb σ)) h) Q E = _
  rw [r_bnd]
theorem e_or : wp (evalE C (.or ea eb) σ h) Q E = wp (evalE C ea σ h) (fun x h1 => wp (orV x (evalE C eb σ) h1) Q E) E := by
  show wp (bnd (evalE C ea σ) (fun x => orV x (evalE C eb σ)) h) Q E = _
  rw [r_bnd]
theorem v_and {t : Bool} {k : M Val} : wp (andV (.bl t) k h) Q E = if t = true then wp (k h) Q E else Q (.bl false) h := by cases t <;> rfl
theorem v_or {t : Bool} {k : M Val} : wp (orV (.bl t) k h) Q E = if t = true then Q (.bl true) h else wp (k h) Q E := by cases t <;> rfl
theorem e_ifx : wp (evalE C (.ifx ec ea eb) σ h) Q E = wp (evalE C ec σ h) (fun x h1 => wp (truth x h1) (fun t h2 => if t = true then wp (evalE C ea σ h2) Q E else wp (evalE C eb σ h2) Q E) E) E := by
  show wp (bnd (evalE C ec σ) (fun x => bnd (truth x) fun t => if t then evalE C ea σ else evalE C eb σ) h) Q E = _
  rw [r_bnd]; congr 1; funext x h1; rw [r_bnd]; congr 1; funext t h2; rw [r_ite]
theorem e_idx : wp (evalE C (.idx ea eb) σ h) Q E = wp (evalE C ea σ h) (fun x h1 => wp (evalE C eb σ h1) (fun y h2 => wp (item x y h2) Q E) E) E := by
  show wp (bnd (evalE C ea σ) (fun x => bnd (evalE C eb σ) fun y => item x y) h) Q E = _
  rw [r_bnd]; congr 1; funext x h1; rw [r_bnd]
theorem e_sl : wp (evalE C (.sl ea eb ec) σ h) Q E = wp (evalE C ea σ h) (fun x h1 => wp (evalE C eb σ h1) (fun l h2 => wp (partV eb.isNon l h2) (fun l h3 => wp (evalE C ec σ h3) (fun u h4 => wp (partV ec.isNon u h4) (fun u h5 => wp (sliceP x l u h5) Q E) E) E) E) E) E := by
  show wp (bnd (evalE C ea σ) (fun x => bnd (evalE C eb σ) fun l => bnd (partV eb.isNon l) fun l => bnd (evalE C ec σ) fun u => bnd (partV ec.isNon u) fun u => sliceP x l u) h) Q E = _
  rw [r_bnd]; congr 1; funext x h1; rw [r_bnd]; congr 1; funext l h2; rw [r_bnd]; congr 1; funext l h3; rw [r_bnd]; congr 1; funext u h4; rw [r_bnd]
theorem e_rev : wp (evalE C (.rev ea) σ h) Q E = wp (evalE C ea σ h) (fun x h1 => wp (backwards x h1) Q E) E := by
  show wp (bnd (evalE C ea σ) backwards h) Q E = _
  rw [r_bnd]
theorem e_lst : wp (evalE C (.lst es) σ h) Q E = wp (evalEs C es σ h) (fun vs h1 => wp (alloc (.lst vs) h1) Q E) E := by
  show wp (bnd (evalEs C es σ) (fun vs => alloc (.lst vs)) h) Q E = _
  rw [r_bnd]
theorem e_tup : wp (evalE C (.tup es) σ h) Q E = wp (evalEs C es σ h) (fun vs h1 => Q (.tup vs) h1) E := by
  show wp (bnd (evalEs C es σ) (fun vs => ret (.tup vs)) h) Q E = _
  rw [r_bnd]; rfl
theorem e_dict : wp (evalE C (.dctK [] []) σ h) Q E = wp (alloc (.dK []) h) Q E := rfl
theorem e_call {f : Nat} : wp (evalE C (.call f es) σ h) Q E = wp (evalEs C es σ h) (fun vs h1 => wp (C f vs h1) Q E) E := by
  show wp (bnd (evalEs C es σ) (fun vs => C f vs) h) Q E = _
  rw [r_bnd]
theorem e_bi {b : Bi} : wp (evalE C (.bi b es) σ h) Q E = wp (evalEs C es σ h) (fun vs h1 => wp (builtin b vs h1) Q E) E := by
  show wp (bnd (evalEs C es σ) (fun vs => builtin b vs) h) Q E = _
  rw [r_bnd]
theorem e_me {m : Me} : wp (evalE C (.me m ea es) σ h) Q E = wp (evalE C ea σ h) (fun a h1 => wp (kdOf m a h1) (fun k h2 => wp (evalEs C es σ h2) (fun vs h3 => wp (meth m k a vs h3) Q E) E) E) E := by
  show wp (bnd (evalE C ea σ) (fun a => bnd (kdOf m a) fun k => bnd (evalEs C es σ) fun vs => meth m k a vs) h) Q E = _
  rw [r_bnd]; congr 1; funext x h1; rw [r_bnd]; congr 1; funext k h2; rw [r_bnd]
theorem e_comp {t : T} {it : I} {cs : List Z.E} {own : List Nat} : wp (evalE C (.comp ea t it cs own) σ h) Q E = wp (evalI C it σ h) (fun J h1 =>
    wp (walk J.src (fun x => bnd (bindT t x (wipe σ own)) fun σ2 => bnd (evalC C cs σ2) fun b => if b then bnd (evalE C ea σ2) fun y => ret [y] else ret []) J.items h1) (fun ys h2 => decide (ys.length ≤ SL) = true ∧ wp (alloc (.lst ys) h2) Q E) fun _ _ _ => False) E := by
  show wp (bnd (evalI C it σ) (fun J => bnd (noExc (walk J.src _ J.items)) fun ys => bnd (guard (decide (ys.length ≤ SL))) fun _ => alloc (.lst ys)) h) Q E = _
  rw [r_bnd]; congr 1; funext J h1; rw [r_bnd, r_noExc]; congr 1; funext ys h2; rw [r_bnd, r_guard]
variable {Qs : List Val → Hs → Prop}
theorem e_nil : wp (evalEs C [] σ h) Qs E = Qs [] h := rfl
theorem e_cons : wp (evalEs C (ea :: es) σ h) Qs E = wp (evalE C ea σ h) (fun v h1 => wp (evalEs C es σ h1) (fun vs h2 => Qs (v :: vs) h2) E) E := by
  show wp (bnd (evalE C ea σ) (fun v => bnd (evalEs C es σ) fun vs => ret (v :: vs)) h) Qs E = _
  rw [r_bnd]; congr 1; funext x h1; rw [r_bnd]; rfl
variable {Qb : Bool → Hs → Prop}
theorem e_c0 : wp (evalC C [] σ h) Qb E = Qb true h := rfl
theorem e_c1 : wp (evalC C (ea :: es) σ h) Qb E = wp (evalE C ea σ h) (fun v h1 => wp (truth v h1) Qb E) E := by
  show wp (bnd (evalE C ea σ) truth h) Qb E = _
  rw [r_bnd]
variable {Qi : It → Hs → Prop}
theorem i_seq : wp (evalI C (.seq ea) σ h) Qi E = wp (evalE C ea σ h) (fun v h1 => wp (seqIt v h1) Qi E) E := by
  show wp (bnd (evalE C ea σ) seqIt h) Qi E = _
  rw [r_bnd]
def intP (v : Val) (f : Int → Prop) : Prop := match v with
  | .int n => f n
  | _ => False
theorem intP_int {n : Int} {f : Int → Prop} : intP (.int n) f = f n := rfl
theorem i_rng1 : wp (evalI C (.rng1 ea) σ h) Qi E = wp (evalE C ea σ h) (fun v h1 => intP v fun n => decide (-16777216 ≤ n ∧ n ≤ 16777216) = true ∧ Qi ⟨rangeV 0 n, []⟩ h1) E := by
  show wp (bnd (evalE C ea σ) (fun x => match x with | .int n => bnd (guard (decide (-16777216 ≤ n ∧ n ≤ 16777216))) fun _ => ret ⟨rangeV 0 n, []⟩ | _ => bad) h) Qi E = _
  rw [r_bnd]; congr 1; funext x h1
  cases x <;> first | rfl | (show wp (bnd _ _ h1) Qi E = _; rw [r_bnd, r_guard]; rfl)
theorem i_rng2 : wp (evalI C (.rng2 ea eb) σ h) Qi E = wp (evalE C ea σ h) (fun u h1 => wp (evalE C eb σ h1) (fun v h2 => intP u fun m => intP v fun n => decide (-16777216 ≤ m ∧ m ≤ 16777216 ∧ -16777216 ≤ n ∧ n ≤ 16777216) = true ∧ Qi ⟨rangeV m n, []⟩ h2) E) E := by
  show wp (bnd (evalE C ea σ) (fun x => bnd (evalE C eb σ) fun y => match x, y with | .int m, .int n => bnd (guard (decide (-16777216 ≤ m ∧ m ≤ 16777216 ∧ -16777216 ≤ n ∧ n ≤ 16777216))) fun _ => ret ⟨rangeV m n, []⟩ | _, _ => bad) h) Qi E = _
  rw [r_bnd]; congr 1; funext x h1; rw [r_bnd]; congr 1; funext y h2
  cases x <;> first | rfl | skip
  cases y <;> first | rfl | (show wp (bnd _ _ h2) Qi E = _; rw [r_bnd, r_guard]; rfl)
/-! values -/
def lstP (o : Ob) (f : List Val → Prop) : Prop := match o with
  | .lst xs => f xs
  | _ => False
theorem lstP_lst {xs : List Val} {f : List Val → Prop} : lstP (.lst xs) f = f xs := rfl
/-- a row that may be read -/
def rowP (o : Ob) (f : List Val → Prop) : Prop := match o with
  | .lst xs => f xs
  | .ro xs => f xs
  | _ => False
theorem rowP_lst {xs : List Val} {f : List Val → Prop} : rowP (.lst xs) f = f xs := rfl
theorem rowP_ro {xs : List Val} {f : List Val → Prop} : rowP (.ro xs) f = f xs := rfl
theorem o_add {i j : Int} : wp (binop .add (.int i) (.int j) h) Q E = Q (.int (i + j)) h := rfl
theorem o_sub {i j : Int} : wp (binop .sub (.int i) (.int j) h) Q E = Q (.int (i - j)) h := rfl
theorem o_mul {i j : Int} : wp (binop .mul (.int i) (.int j) h) Q E = (((-lim < i ∧ i < lim) ∨ (-lim < j ∧ j < lim)) ∧ Q (.int (i * j)) h) := by
  show wp (bnd (guard _) _ h) Q E = _
  rw [r_bnd, r_guard, decide_eq_true_eq]; rfl
theorem o_fdiv {i j : Int} : wp (binop .fdiv (.int i) (.int j) h) Q E = ((0 < j ∧ j < 1073741824) ∧ Q (.int (i / j)) h) := by
  show wp (bnd (guard _) _ h) Q E = _
  rw [r_bnd, r_guard, decide_eq_true_eq]; rfl
theorem o_mod {i j : Int} : wp (binop .mod (.int i) (.int j) h) Q E = (0 < j ∧ Q (.int (i % j)) h) := by
  show wp (bnd (guard _) _ h) Q E = _
  rw [r_bnd, r_guard, decide_eq_true_eq]; rfl
theorem o_pow {i j : Int} : wp (binop .pow (.int i) (.int j) h) Q E = ((0 ≤ j ∧ j ≤ 1000000 ∧ -lim < i ∧ i < lim) ∧ Q (.int (i ^ j.toNat)) h) := by
  show wp (bnd (guard _) _ h) Q E = _
  rw [r_bnd, r_guard, decide_eq_true_eq]; rfl
theorem o_addT {xs ys : List Val} : wp (binop .add (.tup xs) (.tup ys) h) Q E = (xs.length + ys.length ≤ SL ∧ Q (.tup (xs ++ ys)) h) := by
  show wp (bnd (guard _) _ h) Q E = _
  rw [r_bnd, r_guard, decide_eq_true_eq]; rfl
theorem o_addL {d i e j : Nat} : wp (binop .add (.loc d i) (.loc e j) h) Q E = optP (get h d i) fun o => optP (get h e j) fun u => lstP o fun xs => lstP u fun ys => xs.length + ys.length ≤ SL ∧ wp (alloc (.lst (xs ++ ys)) h) Q E := by
  show wp (bnd (rd (.loc d i)) (fun o => bnd (rd (.loc e j)) fun u => match o, u with | .lst xs, .lst ys => bnd (guard (decide (xs.length + ys.length ≤ SL))) fun _ => alloc (.lst (xs ++ ys)) | _, _ => bad) h) Q E = _
  rw [r_bnd, r_rd']; congr 1; funext o
  rw [r_bnd, r_rd']; congr 1; funext u
  cases o <;> cases u <;> first | rfl | skip
  show wp (bnd (guard _) _ h) Q E = _
  rw [r_bnd, r_guard, decide_eq_true_eq]; rfl
theorem c_eqI {i j : Int} : wp (cmpop .eq (.int i) (.int j) h) Q E = Q (.bl (decide (i = j))) h := rfl
theorem c_neI {i j : Int} : wp (cmpop .ne (.int i) (.int j) h) Q E = Q (.bl (!decide (i = j))) h := rfl
theorem c_lt {i j : Int} : wp (cmpop .lt (.int i) (.int j) h) Q E = Q (.bl (decide (i < j))) h := rfl
theorem c_gt {i j : Int} : wp (cmpop .gt (.int i) (.int j) h) Q E = Q (.bl (decide (j < i))) h := rfl
theorem c_le {i j : Int} : wp (cmpop .le (.int i) (.int j) h) Q E = Q (.bl (decide (i ≤ j))) h := by
  show Q (.bl (!decide (j < i))) h = _
  rw [ndl]
theorem c_ge {i j : Int} : wp (cmpop .ge (.int i) (.int j) h) Q E = Q (.bl (decide (j ≤ i))) h := by
  show Q (.bl (!decide (i < j))) h = _
  rw [ndl]
theorem n_int {i : Int} : wp (negV (.int i) h) Q E = Q (.int (-i)) h := rfl
theorem t_bl {t : Bool} : wp (truth (.bl t) h) Qb E = Qb t h := rfl
theorem t_int {i : Int} : wp (truth (.int i) h) Qb E = Qb (i != 0) h := rfl
end
end Z
-- ZP3
namespace Z
open PySem
section
variable {C : Nat → List Val → M Val} {σ : Zt} {h : Hs} {Q : Val → Hs → Prop} {E : Nat → List Val → Hs → Prop} {xs ys vs : List Val} {d i : Nat}
/-! items -/
theorem x_tup {n : Int} : wp (item (.tup xs) (.int n) h) Q E = optP (nth xs n) fun v => Q v h := by
  show wp (optM (nth xs n) h) Q E = _
  rw [r_optM']
/-- an item of an object -/
def itemP (o : Ob) (k : Val) (f : Val → Prop) : Prop := match o, k with
  | .lst vs, .int i => optP (nth vs i) f
  | .ro vs, .int i => optP (nth vs i) f
  | .dK kvs, k => k.key = true ∧ optP (look kvs k) f
  | _, _ => False
theorem itemP_lst {n : Int} {f : Val → Prop} : itemP (.lst xs) (.int n) f = optP (nth xs n) f := rfl
theorem itemP_ro {n : Int} {f : Val → Prop} : itemP (.ro xs) (.int n) f = optP (nth xs n) f := rfl
theorem itemP_dK {kvs : List (Val × Val)} {k : Val} {f : Val → Prop} : itemP (.dK kvs) k f = (k.key = true ∧ optP (look kvs k) f) := by cases k <;> rfl
theorem x_loc {k : Val} (hk : ∀ kvs, get h d i ≠ some (.dT kvs)) : wp (item (.loc d i) k h) Q E = optP (get h d i) fun o => itemP o k fun v => Q v h := by
  show wp (bnd (rd (.loc d i)) (fun o => match o, k with | .lst vs, .int i => optM (nth vs i) | .ro vs, .int i => optM (nth vs i) | .dK kvs, k => bnd (guard k.key) fun _ => optM (look kvs k) | .dT kvs, k => bnd (guard k.keyT) fun _ => optM (look kvs k) | _, _ => bad) h) Q E = _
  rw [r_bnd, r_rd']
  cases e : get h d i with
  | none => rfl
  | some o =>
    simp only [optP_some]
    cases o with
    | lst vs => cases k <;> first | rfl | (show wp (optM _ h) Q E = _; rw [r_optM']; rfl)
    | ro vs => cases k <;> first | rfl | (show wp (optM _ h) Q E = _; rw [r_optM']; rfl)
    | dK kvs => rw [itemP_dK]; cases k <;> (show wp (bnd _ _ h) Q E = _; rw [r_bnd, r_guard, r_optM'])
    | dT kvs => exact absurd e (hk kvs)
    | set vs => cases k <;> rfl
theorem x_lst {n : Int} (g : get h d i = some (.lst xs)) : wp (item (.loc d i) (.int n) h) Q E = optP (nth xs n) fun v => Q v h := by
  rw [x_loc (by rw [g]; intro _ e; cases e), g]; rfl
theorem x_ro {n : Int} (g : get h d i = some (.ro xs)) : wp (item (.loc d i) (.int n) h) Q E = optP (nth xs n) fun v => Q v h := by
  rw [x_loc (by rw [g]; intro _ e; cases e), g]; rfl
theorem x_dK {kvs : List (Val × Val)} {k : Val} (g : get h d i = some (.dK kvs)) : wp (item (.loc d i) k h) Q E = (k.key = true ∧ optP (look kvs k) fun v => Q v h) := by
  rw [x_loc (by rw [g]; intro _ e; cases e), g, optP_some, itemP_dK]
/-! stores -/
theorem st_lst {n : Int} {v : Val} {Q : Unit → Hs → Prop} (g : get h d i = some (.lst xs)) (h0 : 0 ≤ n) (h1 : n < xs.length) : wp (store (.loc d i) (.int n) v h) Q E = ((Ob.lst (xs.set n.toNat v)).okAt d = true ∧ Q () (put h d i (.lst (xs.set n.toNat v)))) := by
  show wp (bnd (rd (.loc d i)) (fun o => match o, Val.int n with | .lst vs, .int i' => (match place vs.length i' with | some k => wr d i (.lst (vs.set k v)) | none => bad) | .dK kvs, k => bnd (guard (k.key && decide (kvs.length < SL))) fun _ => wr d i (.dK (putKV kvs k v)) | .dT kvs, k => bnd (guard (k.keyT && decide (kvs.length < SL))) fun _ => wr d i (.dT (putKV kvs k v)) | _, _ => bad) h) Q E = _
  rw [r_bnd, r_rd', g, optP_some]
  show wp ((match place xs.length n with | some k => wr d i (.lst (xs.set k v)) | none => bad) h) Q E = _
  rw [place_nat h0 h1]
  show wp (wr _ _ _ h) Q E = _
  rw [r_wr', g]
  simp
theorem st_dK {kvs : List (Val × Val)} {k v : Val} {Q : Unit → Hs → Prop} (g : get h d i = some (.dK kvs)) : wp (store (.loc d i) k v h) Q E = ((k.key && decide (kvs.length < SL)) = true ∧ (Ob.dK (putKV kvs k v)).okAt d = true ∧ Q () (put h d i (.dK (putKV kvs k v)))) := by
  have : wp (store (.loc d i) k v h) Q E = wp (bnd (guard (k.key && decide (kvs.length < SL))) (fun _ => wr d i (.dK (putKV kvs k v))) h) Q E := by
    show wp (bnd (rd (.loc d i)) (fun o => match o, k with | .lst vs, .int i' => (match place vs.length i' with | some k => wr d i (.lst (vs.set k v)) | none => bad) | .dK kvs, k => bnd (guard (k.key && decide (kvs.length < SL))) fun _ => wr d i (.dK (putKV kvs k v)) | .dT kvs, k => bnd (guard (k.keyT && decide (kvs.length < SL))) fun _ => wr d i (.dT (putKV kvs k v)) | _, _ => bad) h) Q E = _
    rw [r_bnd, r_rd', g, optP_some]
  rw [this, r_bnd, r_guard, r_wr', g]
  simp
/-! rows -/
theorem it_tup {Q : List Val → Hs → Prop} : wp (itemsOf (.tup xs) h) Q E = Q xs h := rfl
theorem it_lst {Q : List Val → Hs → Prop} (g : get h d i = some (.lst xs)) : wp (itemsOf (.loc d i) h) Q E = Q xs h := by
  show wp (bnd (rd (.loc d i)) (fun o => match o with | .lst vs => ret vs | .ro vs => ret vs | _ => bad) h) Q E = _
  rw [r_bnd, r_rd', g]; rfl
theorem it_ro {Q : List Val → Hs → Prop} (g : get h d i = some (.ro xs)) : wp (itemsOf (.loc d i) h) Q E = Q xs h := by
  show wp (bnd (rd (.loc d i)) (fun o => match o with | .lst vs => ret vs | .ro vs => ret vs | _ => bad) h) Q E = _
  rw [r_bnd, r_rd', g]; rfl
theorem sq_tup {Q : It → Hs → Prop} : wp (seqIt (.tup xs) h) Q E = Q ⟨xs, []⟩ h := rfl
theorem sq_lst {Q : It → Hs → Prop} (g : get h d i = some (.lst xs)) : wp (seqIt (.loc d i) h) Q E = Q ⟨xs, [(d, i, .lst xs)]⟩ h := by
  show wp (bnd (rd (.loc d i)) (fun o => match o with | .lst vs => ret ⟨vs, [(d, i, o)]⟩ | .ro vs => ret ⟨vs, [(d, i, o)]⟩ | _ => bad) h) Q E = _
  rw [r_bnd, r_rd', g]; rfl
theorem sq_ro {Q : It → Hs → Prop} (g : get h d i = some (.ro xs)) : wp (seqIt (.loc d i) h) Q E = Q ⟨xs, [(d, i, .ro xs)]⟩ h := by
  show wp (bnd (rd (.loc d i)) (fun o => match o with | .lst vs => ret ⟨vs, [(d, i, o)]⟩ | .ro vs => ret ⟨vs, [(d, i, o)]⟩ | _ => bad) h) Q E = _
  rw [r_bnd, r_rd', g]; rfl
/-! built-in functions -/
theorem b_lenT : wp (builtin .len [.tup xs] h) Q E = Q (.int xs.length) h := rfl
theorem b_lenL (g : get h d i = some (.lst xs)) : wp (builtin .len [.loc d i] h) Q E = Q (.int xs.length) h := by
  show wp (bnd (rd (.loc d i)) (fun o => match o with | .lst xs => ret (.int xs.length) | .ro xs => ret (.int xs.length) | .dK kvs => ret (.int kvs.length) | .dT kvs => ret (.int kvs.length) | _ => bad) h) Q E = _
  rw [r_bnd, r_rd', g]; rfl
theorem b_lenR (g : get h d i = some (.ro xs)) : wp (builtin .len [.loc d i] h) Q E = Q (.int xs.length) h := by
  show wp (bnd (rd (.loc d i)) (fun o => match o with | .lst xs => ret (.int xs.length) | .ro xs => ret (.int xs.length) | .dK kvs => ret (.int kvs.length) | .dT kvs => ret (.int kvs.length) | _ => bad) h) Q E = _
  rw [r_bnd, r_rd', g]; rfl
theorem b_abs {n : Int} : wp (builtin .abs [.int n] h) Q E = Q (.int (if n < 0 then -n else n)) h := rfl
theorem b_int {n : Int} : wp (builtin .int [.int n] h) Q E = Q (.int n) h := rfl
theorem b_tupT : wp (builtin .tuple [.tup xs] h) Q E = Q (.tup xs) h := rfl
theorem b_tupL : wp (builtin .tuple [.loc d i] h) Q E = wp (itemsOf (.loc d i) h) (fun xs h => Q (.tup xs) h) E := by
  show wp (bnd (itemsOf (.loc d i)) (fun xs => ret (.tup xs)) h) Q E = _
  rw [r_bnd]; rfl
theorem b_list {v : Val} : wp (builtin .list [v] h) Q E = wp (itemsOf v h) (fun xs h => wp (alloc (.lst xs) h) Q E) E := by
  show wp (bnd (itemsOf v) (fun xs => alloc (.lst xs)) h) Q E = _
  rw [r_bnd]
theorem b_sorted {v : Val} : wp (builtin .sorted [v] h) Q E = wp (itemsOf v h) (fun xs h => sortOk xs = true ∧ wp (alloc (.lst (sortV xs)) h) Q E) E := by
  show wp (bnd (itemsOf v) (fun xs => bnd (guard (sortOk xs)) fun _ => alloc (.lst (sortV xs))) h) Q E = _
  rw [r_bnd]; congr 1; funext xs h1; rw [r_bnd, r_guard]
theorem b_lrg1 {b : Int} : wp (builtin .listRange [.int b] h) Q E = ((0 ≤ b ∧ b ≤ 16777216) ∧ wp (alloc (.lst (rangeV 0 b)) h) Q E) := by
  show wp (bnd (guard _) _ h) Q E = _
  rw [r_bnd, r_guard, decide_eq_true_eq]
theorem b_trg1 {b : Int} : wp (builtin .tupleRange [.int b] h) Q E = ((0 ≤ b ∧ b ≤ 16777216) ∧ Q (.tup (rangeV 0 b)) h) := by
  show wp (bnd (guard _) _ h) Q E = _
  rw [r_bnd, r_guard, decide_eq_true_eq]; rfl
theorem intsOf_map : ∀ ns : List Int, intsOf (ns.map Val.int) = some ns
  | [] => rfl
  | n :: ns => by
    show (match intsOf (ns.map Val.int) with | some is => some (n :: is) | none => none) = _
    rw [intsOf_map ns]
theorem boolsOf_map : ∀ ns : List Bool, boolsOf (ns.map Val.bl) = some ns
  | [] => rfl
  | n :: ns => by
    show (match boolsOf (ns.map Val.bl) with | some is => some (n :: is) | none => none) = _
    rw [boolsOf_map ns]
theorem b_sset {v : Val} {ns : List Int} (w : ∀ {P : List Val → Hs → Prop}, P (ns.map Val.int) h → wp (itemsOf v h) P E) (hl : ns.length ≤ 60) (q : wp (alloc (.lst ((sortI (dedupI ns)).map Val.int)) h) Q E) : wp (builtin .sortedSet [v] h) Q E := by
  show wp (bnd (itemsOf v) (fun xs => match intsOf xs with | some is => bnd (guard (decide (is.length ≤ 60))) fun _ => alloc (.lst ((sortI (dedupI is)).map Val.int)) | none => bad) h) Q E
  rw [r_bnd]
  refine w ?_
  rw [intsOf_map]
  show wp (bnd (guard (decide (ns.length ≤ 60))) (fun _ => alloc (.lst ((sortI (dedupI ns)).map Val.int))) h) Q E
  rw [r_bnd, r_guard]
  exact ⟨decide_eq_true hl, q⟩
theorem b_max {n : Int} {ns : List Int} (g : get h d i = some (.lst ((n :: ns).map Val.int))) : wp (builtin .max [.loc d i] h) Q E = Q (.int (maxI n ns)) h := by
  show wp (bnd (itemsOf (.loc d i)) (fun xs => match intsOf xs with | some (x :: r) => ret (.int (maxI x r)) | _ => bad) h) Q E = _
  rw [r_bnd, it_lst g, intsOf_map]; rfl
theorem b_all {bs : List Bool} (g : get h d i = some (.lst (bs.map Val.bl))) : wp (builtin .all [.loc d i] h) Q E = Q (.bl (bs.all id)) h := by
  show wp (bnd (itemsOf (.loc d i)) (fun xs => match boolsOf xs with | some bs => ret (.bl (bs.all id)) | none => bad) h) Q E = _
  rw [r_bnd, it_lst g, boolsOf_map]; rfl
theorem b_any {bs : List Bool} (g : get h d i = some (.lst (bs.map Val.bl))) : wp (builtin .any [.loc d i] h) Q E = Q (.bl (bs.any id)) h := by
  show wp (bnd (itemsOf (.loc d i)) (fun xs => match boolsOf xs with | some bs => ret (.bl (bs.any id)) | none => bad) h) Q E = _
  rw [r_bnd, it_lst g, boolsOf_map]; rfl
theorem b_isi {ts : List Ty} {v : Val} : wp (builtin (.isinst ts) [v] h) Q E = wp (anyTy ts v h) (fun b h => Q (.bl b) h) E := by
  show wp (bnd (anyTy ts v) (fun b => ret (.bl b)) h) Q E = _
  rw [r_bnd]; rfl
theorem a_nil {v : Val} {Q : Bool → Hs → Prop} : wp (anyTy [] v h) Q E = Q false h := rfl
theorem a_cons {t : Ty} {ts : List Ty} {v : Val} {Q : Bool → Hs → Prop} : wp (anyTy (t :: ts) v h) Q E = wp (isTy t v h) (fun b h1 => if b = true then Q true h1 else wp (anyTy ts v h1) Q E) E := by
  show wp (bnd (isTy t v) (fun b => if b then ret true else anyTy ts v) h) Q E = _
  rw [r_bnd]; congr 1; funext b h1; rw [r_ite]; rfl
theorem y_loc {t : Ty} {Q : Bool → Hs → Prop} (g : get h d i = some (.lst xs)) : wp (isTy t (.loc d i) h) Q E = Q (decide (t = .list)) h := by
  cases t <;> (show wp (bnd (rd (.loc d i)) _ h) Q E = _; rw [r_bnd, r_rd', g]; rfl)
theorem y_ro {t : Ty} {Q : Bool → Hs → Prop} (g : get h d i = some (.ro xs)) : wp (isTy t (.loc d i) h) Q E = Q (decide (t = .list)) h := by
  cases t <;> (show wp (bnd (rd (.loc d i)) _ h) Q E = _; rw [r_bnd, r_rd', g]; rfl)
theorem y_tup {t : Ty} {Q : Bool → Hs → Prop} : wp (isTy t (.tup xs) h) Q E = Q (decide (t = .tuple)) h := by cases t <;> rfl
theorem y_int {t : Ty} {n : Int} {Q : Bool → Hs → Prop} : wp (isTy t (.int n) h) Q E = Q (decide (t = .int)) h := by cases t <;> rfl
theorem y_bl {t : Ty} {n : Bool} {Q : Bool → Hs → Prop} : wp (isTy t (.bl n) h) Q E = Q (decide (t = .int ∨ t = .bool)) h := by cases t <;> rfl
theorem y_non {t : Ty} {Q : Bool → Hs → Prop} : wp (isTy t .non h) Q E = Q false h := by cases t <;> rfl
theorem y_str {t : Ty} {n : Str} {Q : Bool → Hs → Prop} : wp (isTy t (.str n) h) Q E = Q (decide (t = .str)) h := by cases t <;> rfl
/-! methods -/
theorem k_lst {m : Me} {Q : Kd → Hs → Prop} (g : get h d i = some (.lst xs)) : wp (kdOf m (.loc d i) h) Q E = (supp .lst m = true ∧ Q .lst h) := by
  show wp (bnd (rd (.loc d i)) (fun o => match o with | .lst _ => bnd (guard (supp .lst m)) fun _ => ret .lst | .ro _ => bnd (guard (supp .lst m)) fun _ => ret .lst | .dK _ => bnd (guard (supp .dic m)) fun _ => ret .dic | _ => bad) h) Q E = _
  rw [r_bnd, r_rd', g, optP_some]
  show wp (bnd (guard _) _ h) Q E = _
  rw [r_bnd, r_guard]; rfl
theorem k_tup {m : Me} {Q : Kd → Hs → Prop} : wp (kdOf m (.tup xs) h) Q E = (supp .tup m = true ∧ Q .tup h) := by
  show wp (bnd (guard _) _ h) Q E = _
  rw [r_bnd, r_guard]; rfl
theorem m_append {v : Val} (g : get h d i = some (.lst xs)) : wp (meth .append .lst (.loc d i) [v] h) Q E = (xs.length < SL ∧ (Ob.lst (xs ++ [v])).okAt d = true ∧ Q .non (put h d i (.lst (xs ++ [v])))) := by
  show wp (bnd (rd (.loc d i)) _ h) Q E = _
  rw [r_bnd, r_rd', g, optP_some]
  show wp (bnd (guard (decide (xs.length < SL))) (fun _ => bnd (wr d i (.lst (xs ++ [v]))) fun _ => ret .non) h) Q E = _
  rw [r_bnd, r_guard, r_bnd, r_wr', g, decide_eq_true_eq]
  simp [r_ret]
theorem m_extend {v : Val} (g : get h d i = some (.lst xs)) (w : ∀ {P : List Val → Hs → Prop}, wp (ownItems v h) P E = P ys h) : wp (meth .extend .lst (.loc d i) [v] h) Q E = (xs.length + ys.length ≤ SL ∧ (Ob.lst (xs ++ ys)).okAt d = true ∧ Q .non (put h d i (.lst (xs ++ ys)))) := by
  show wp (bnd (rd (.loc d i)) _ h) Q E = _
  rw [r_bnd, r_rd', g, optP_some]
  show wp (bnd (ownItems v) (fun ys => bnd (guard (decide (xs.length + ys.length ≤ SL))) fun _ => bnd (wr d i (.lst (xs ++ ys))) fun _ => ret .non) h) Q E = _
  rw [r_bnd, w, r_bnd, r_guard, r_bnd, r_wr', g, decide_eq_true_eq]
  simp [r_ret]
theorem ow_tup {Q : List Val → Hs → Prop} : wp (ownItems (.tup xs) h) Q E = Q xs h := rfl
theorem m_popAt {n : Int} {y : Val} (g : get h d i = some (.lst xs)) (h0 : 0 ≤ n) (h1 : n < xs.length) (hy : xs[n.toNat]? = some y) : wp (meth .pop .lst (.loc d i) [.int n] h) Q E = ((Ob.lst (xs.eraseIdx n.toNat)).okAt d = true ∧ Q y (put h d i (.lst (xs.eraseIdx n.toNat)))) := by
  show wp (bnd (rd (.loc d i)) _ h) Q E = _
  rw [r_bnd, r_rd', g, optP_some]
  show wp ((match place xs.length n with | some j => (match xs[j]? with | some y => bnd (wr d i (.lst (xs.eraseIdx j))) fun _ => ret y | none => bad) | none => bad) h) Q E = _
  rw [place_nat h0 h1]
  show wp ((match xs[n.toNat]? with | some y => bnd (wr d i (.lst (xs.eraseIdx n.toNat))) fun _ => ret y | none => bad) h) Q E = _
  rw [hy]
  show wp (bnd (wr d i (.lst (xs.eraseIdx n.toNat))) (fun _ => ret y) h) Q E = _
  rw [r_bnd, r_wr', g]
  simp [r_ret]
theorem m_indexT {v : Val} : wp (meth .index .tup (.tup xs) [v] h) Q E = wp (firstAt v xs h) (fun n h => Q (.int n) h) E := by
  show wp (bnd (firstAt v xs) (fun n => ret (.int n)) h) Q E = _
  rw [r_bnd]; rfl
theorem m_indexL {v : Val} (g : get h d i = some (.lst xs)) : wp (meth .index .lst (.loc d i) [v] h) Q E = wp (firstAt v xs h) (fun n h => Q (.int n) h) E := by
  show wp (bnd (rd (.loc d i)) _ h) Q E = _
  rw [r_bnd, r_rd', g, optP_some]
  show wp (bnd (firstAt v xs) (fun n => ret (.int n)) h) Q E = _
  rw [r_bnd]; rfl
theorem flat_ints (ns : List Int) : (ns.map Val.int).all Val.flat = true := by
  rw [List.all_map]; exact List.all_eq_true.mpr fun _ _ => rfl
/-- the first place of a number among numbers -/
theorem first_ints {n : Int} {ns : List Int} {Q : Nat → Hs → Prop} : wp (firstAt (.int n) (ns.map Val.int) h) Q E = optP (ns.findIdx? fun m => decide (m = n)) fun j => Q j h := by
  unfold firstAt
  rw [if_pos (by rw [flat_ints]; rfl)]
  have e : (ns.map Val.int).findIdx? (fun y => eqFlat y (.int n)) = ns.findIdx? fun m => decide (m = n) := by
    rw [List.findIdx?_map]; rfl
  rw [e]
  cases ns.findIdx? fun m => decide (m = n) <;> rfl
end
theorem l_bl {b : Bool} {r : List Ob} {h : Hs} {P : Val → Hs → Prop} {E : Nat → List Val → Hs → Prop} : wp (leave .drop (.bl b) (r :: h)) P E = P (.bl b) h := rfl
theorem l_int {b : Int} {r : List Ob} {h : Hs} {P : Val → Hs → Prop} {E : Nat → List Val → Hs → Prop} : wp (leave .drop (.int b) (r :: h)) P E = P (.int b) h := rfl
theorem l_non {r : List Ob} {h : Hs} {P : Val → Hs → Prop} {E : Nat → List Val → Hs → Prop} : wp (leave .drop .non (r :: h)) P E = P .non h := rfl
theorem put_same {o : Ob} : ∀ {h : Hs} {d i : Nat}, get h d i = some o → put h d i o = h := by
  intro h
  induction h with
  | nil => intros; rfl
  | cons r t ih =>
    intro d i g
    unfold get at g
    unfold put
    by_cases hd : d = t.length
    · rw [if_pos hd] at g ⊢
      congr 1
      refine List.ext_getElem? fun j => ?_
      rw [List.getElem?_set]
      split
      · rename_i e; subst e; rw [g]; split <;> simp_all
      · rfl
    · rw [if_neg hd] at g ⊢
      rw [ih g]
/-! statements -/
section
variable {C : Nat → List Val → M Val} {σ : Zt} {h : Hs} {Q : Out → Hs → Prop} {ea eb ec : E} {es : List E} {a b : List S}
theorem z_asg {i : Nat} : wps (Z.exec C (.asg (.nm i) ea) σ h) Q = wp (evalE C ea σ h) (fun v h1 => Q (.nx (σ.set i (some v))) h1) fun c vs h1 => Q (.xc c vs σ) h1 := by
  show wps (ev σ (bnd (evalE C ea σ) fun v => bindT (.nm i) v σ) (fun σ' => fin (.nx σ')) h) Q = _
  rw [w_ev, r_bnd]; rfl
theorem z_asgT {ts : List T} : wps (Z.exec C (.asg (.tp ts) ea) σ h) Q = wp (evalE C ea σ h) (fun v h1 => wp (bindT (.tp ts) v σ h1) (fun σ' h2 => Q (.nx σ') h2) fun c vs h1 => Q (.xc c vs σ) h1) fun c vs h1 => Q (.xc c vs σ) h1 := by
  show wps (ev σ (bnd (evalE C ea σ) fun v => bindT (.tp ts) v σ) (fun σ' => fin (.nx σ')) h) Q = _
  rw [w_ev, r_bnd]; rfl
theorem z_par {i j : Nat} : wps (Z.exec C (.par i j ea eb) σ h) Q = wp (evalE C ea σ h) (fun x h1 => wp (evalE C eb σ h1) (fun y h2 => Q (.nx ((σ.set i (some x)).set j (some y))) h2) fun c vs h1 => Q (.xc c vs σ) h1) fun c vs h1 => Q (.xc c vs σ) h1 := by
  show wps (ev σ (evalE C ea σ) (fun x => ev σ (evalE C eb σ) fun y => fin (.nx ((σ.set i (some x)).set j (some y)))) h) Q = _
  rw [w_ev]; congr 1; funext x h1; rw [w_ev]; rfl
theorem z_sub : wps (Z.exec C (.sub ea eb ec) σ h) Q = wp (evalE C ec σ h) (fun v h1 => wp (evalE C ea σ h1) (fun o h2 => wp (evalE C eb σ h2) (fun k h3 => wp (store o k v h3) (fun _ h4 => Q (.nx σ) h4) fun c vs h1 => Q (.xc c vs σ) h1) fun c vs h1 => Q (.xc c vs σ) h1) fun c vs h1 => Q (.xc c vs σ) h1) fun c vs h1 => Q (.xc c vs σ) h1 := by
  show wps (ev σ (evalE C ec σ) (fun v => ev σ (evalE C ea σ) fun a => ev σ (evalE C eb σ) fun k => ev σ (store a k v) fun _ => fin (.nx σ)) h) Q = _
  rw [w_ev]; congr 1; funext x h1; rw [w_ev]; congr 1; funext y h2; rw [w_ev]; congr 1; funext y h3; rw [w_ev]; rfl
theorem z_aug {i : Nat} {op : Bop} : wps (Z.exec C (.aug i op ea) σ h) Q = varP σ[i]? fun v => wp (evalE C ea σ h) (fun u h1 => wp (augop op v u h1) (fun r h2 => Q (.nx (σ.set i (some r))) h2) fun c vs h1 => Q (.xc c vs σ) h1) fun c vs h1 => Q (.xc c vs σ) h1 := by
  show wps (ev σ (evalE C (.var i) σ) (fun v => ev σ (evalE C ea σ) fun w => ev σ (augop op v w) fun z => fin (.nx (σ.set i (some z)))) h) Q = _
  rw [w_ev, e_var]; congr 1; funext v; rw [w_ev]; congr 1; funext u h1; rw [w_ev]; rfl
theorem g_add {i j : Int} {Q : Val → Hs → Prop} {E : Nat → List Val → Hs → Prop} : wp (augop .add (.int i) (.int j) h) Q E = Q (.int (i + j)) h := rfl
theorem g_sub {i j : Int} {Q : Val → Hs → Prop} {E : Nat → List Val → Hs → Prop} : wp (augop .sub (.int i) (.int j) h) Q E = Q (.int (i - j)) h := rfl
theorem z_ex : wps (Z.exec C (.ex ea) σ h) Q = wp (evalE C ea σ h) (fun _ h1 => Q (.nx σ) h1) fun c vs h1 => Q (.xc c vs σ) h1 := by
  show wps (ev σ (evalE C ea σ) (fun _ => fin (.nx σ)) h) Q = _
  rw [w_ev]; rfl
theorem z_ret : wps (Z.exec C (.ret ea) σ h) Q = wp (evalE C ea σ h) (fun v h1 => Q (.rt v) h1) fun c vs h1 => Q (.xc c vs σ) h1 := by
  show wps (ev σ (evalE C ea σ) (fun v => fin (.rt v)) h) Q = _
  rw [w_ev]; rfl
theorem z_if : wps (Z.exec C (.iff ea a b) σ h) Q = wp (evalE C ea σ h) (fun v h1 => wp (truth v h1) (fun t h2 => if t = true then wps (execs C a σ h2) Q else wps (execs C b σ h2) Q) fun c vs h1 => Q (.xc c vs σ) h1) fun c vs h1 => Q (.xc c vs σ) h1 := by
  show wps (ev σ (bnd (evalE C ea σ) truth) (fun t => if t then execs C a σ else execs C b σ) h) Q = _
  rw [w_ev, r_bnd]; congr 1; funext v h1; congr 1; funext t h2; rw [w_ite]
theorem z_raise {c : Nat} : wps (Z.exec C (.raise c es) σ h) Q = wp (evalEs C es σ h) (fun vs h1 => Q (.xc c vs σ) h1) fun c vs h1 => Q (.xc c vs σ) h1 := by
  show wps (ev σ (evalEs C es σ) (fun vs => fin (.xc c vs σ)) h) Q = _
  rw [w_ev]; rfl
theorem z_for {t : T} {it : I} : wps (Z.exec C (.for_ t it a) σ h) Q = wp (evalI C it σ h) (fun J h1 => wps (loopF J.src (fun x σ => ev σ (bindT t x σ) fun σ' => execs C a σ') J.items σ h1) Q) fun c vs h1 => Q (.xc c vs σ) h1 := by
  show wps (ev σ (evalI C it σ) (fun J => loopF J.src (fun x σ => ev σ (bindT t x σ) fun σ' => execs C a σ') J.items σ) h) Q = _
  rw [w_ev]
theorem z_while : wps (Z.exec C (.while_ ea a) σ h) Q = wps (loopW (fun σ => bnd (evalE C ea σ) truth) (fun σ => execs C a σ) WF σ h) Q := rfl
/-- a for loop by an invariant of its turn -/
theorem for_inv {src : List (Nat × Nat × Ob)} {body : Val → Zt → SM} {xs : List Val} {σ : Zt} {h : Hs} {Q : Out → Hs → Prop} (Iv : Nat → Zt → Hs → Prop) (h0 : Iv 0 σ h) (hst : ∀ i σ h, i ≤ xs.length → Iv i σ h → still h src = true)
    (step : ∀ i x σ h, xs[i]? = some x → Iv i σ h → wps (body x σ h) (fun o h' => match o with | .nx σ' => Iv (i + 1) σ' h' | .ct σ' => Iv (i + 1) σ' h' | .bk σ' => Q (.nx σ') h' | .rt v => Q (.rt v) h' | .xc c vs σ' => Q (.xc c vs σ') h')) (done : ∀ σ h, Iv xs.length σ h → Q (.nx σ) h) : wps (loopF src body xs σ h) Q := by
  have main : ∀ (ys : List Val) (i : Nat) (σ : Zt) (h : Hs), ys = xs.drop i → i ≤ xs.length → Iv i σ h → wps (loopF src body ys σ h) Q := by
    intro ys
    induction ys with
    | nil =>
      intro i σ h e hi iv
      have : xs.length ≤ i := by
        have := congrArg List.length e
        simp at this; omega
      have ei : i = xs.length := by omega
      subst ei
      show wps (stillS σ src (fin (.nx σ)) h) Q
      unfold stillS
      rw [if_pos (hst _ _ _ (Nat.le_refl _) iv)]
      exact done σ h iv
    | cons y ys ih =>
      intro i σ h e hi iv
      have hlt : i < xs.length := by
        have := congrArg List.length e
        simp at this; omega
      rw [List.drop_eq_getElem_cons hlt] at e
      obtain ⟨e1, e2⟩ := List.cons.inj e
      show wps (stillS σ src (turnS (body y σ) (loopF src body ys)) h) Q
      unfold stillS
      rw [if_pos (hst _ _ _ hi iv)]
      refine wps_turn.mpr (wps_mono (step i y σ h (by rw [e1]; exact List.getElem?_eq_getElem hlt) iv) fun o h' q => ?_)
      cases o with
      | nx σ' => exact ih (i + 1) σ' h' e2 hlt q
      | ct σ' => exact ih (i + 1) σ' h' e2 hlt q
      | bk σ' => exact q
      | rt v => exact q
      | xc c vs σ' => exact q
  exact main xs 0 σ h (by simp) (Nat.zero_le _) h0
/-- a while loop by an invariant and a measure -/
theorem while_inv {c : Zt → M Bool} {body : Zt → SM} {σ : Zt} {h : Hs} {Q : Out → Hs → Prop} (Iv : Nat → Zt → Hs → Prop) (n : Nat) (hn : n < WF) (h0 : Iv n σ h)
    (step : ∀ n σ h, Iv n σ h → wp (c σ h) (fun b h1 => if b = true then wps (body σ h1) (fun o h' => match o with | .nx σ' => ∃ m, m < n ∧ Iv m σ' h' | .ct σ' => ∃ m, m < n ∧ Iv m σ' h' | .bk σ' => Q (.nx σ') h' | .rt v => Q (.rt v) h' | .xc c vs σ' => Q (.xc c vs σ') h') else Q (.nx σ) h1) fun c vs h1 => Q (.xc c vs σ) h1) : wps (loopW c body WF σ h) Q := by
  have main : ∀ (f n : Nat) (σ : Zt) (h : Hs), n < f → Iv n σ h → wps (loopW c body f σ h) Q := by
    intro f
    induction f with
    | zero => intro n σ h hn; omega
    | succ f ih =>
      intro n σ h hn iv
      show wps (ev σ (c σ) (fun b => if b then turnS (body σ) (loopW c body f) else fin (.nx σ)) h) Q
      rw [w_ev]
      refine wp_mono (step n σ h iv) (fun b h1 q => ?_) fun _ _ _ q => q
      cases b with
      | false => rw [if_neg (by decide)] at q ⊢; exact q
      | true =>
        rw [if_pos rfl] at q ⊢
        refine wps_turn.mpr (wps_mono q fun o h' q => ?_)
        cases o with
        | nx σ' => obtain ⟨m, hm, q⟩ := q; exact ih m σ' h' (by omega) q
        | ct σ' => obtain ⟨m, hm, q⟩ := q; exact ih m σ' h' (by omega) q
        | bk σ' => exact q
        | rt v => exact q
        | xc c vs σ' => exact q
  exact main WF n σ h hn h0
/-- a row by a for within, by an invariant of its turn: what has come -/
theorem walk_inv {src : List (Nat × Nat × Ob)} {f : Val → M (List Val)} {xs : List Val} {h : Hs} {P : List Val → Hs → Prop} {X : Nat → List Val → Hs → Prop} (Iv : Nat → List Val → Hs → Prop) (h0 : Iv 0 [] h) (hst : ∀ i ys h, i ≤ xs.length → Iv i ys h → still h src = true)
    (step : ∀ i x ys h, xs[i]? = some x → Iv i ys h → wp (f x h) (fun o h' => Iv (i + 1) (ys ++ o) h') X) (done : ∀ ys h, Iv xs.length ys h → P ys h) : wp (walk src f xs h) P X := by
  have main : ∀ (zs : List Val) (i : Nat) (ys : List Val) (h : Hs) (P : List Val → Hs → Prop), zs = xs.drop i → i ≤ xs.length → Iv i ys h → (∀ us h, Iv xs.length (ys ++ us) h → P us h) → wp (walk src f zs h) P X := by
    intro zs
    induction zs with
    | nil =>
      intro i ys h P e hi iv dn
      have : xs.length ≤ i := by
        have := congrArg List.length e
        simp at this; omega
      have ei : i = xs.length := by omega
      subst ei
      show wp (bnd (guardH _) (fun _ => ret []) h) P X
      rw [r_bnd, r_guardH]
      exact ⟨hst _ _ _ (Nat.le_refl _) iv, dn [] h (by rw [List.append_nil]; exact iv)⟩
    | cons z zs ih =>
      intro i ys h P e hi iv dn
      have hlt : i < xs.length := by
        have := congrArg List.length e
        simp at this; omega
      rw [List.drop_eq_getElem_cons hlt] at e
      obtain ⟨e1, e2⟩ := List.cons.inj e
      show wp (bnd (guardH _) (fun _ => bnd (f z) fun o => bnd (walk src f zs) fun ys => ret (o ++ ys)) h) P X
      rw [r_bnd, r_guardH, r_bnd]
      refine ⟨hst _ _ _ hi iv, wp_mono (step i z ys h (by rw [e1]; exact List.getElem?_eq_getElem hlt) iv) (fun o h' q => ?_) fun _ _ _ q => q⟩
      rw [r_bnd]
      exact ih (i + 1) (ys ++ o) h' _ e2 hlt q fun us h2 q2 => dn _ _ (by rw [← List.append_assoc]; exact q2)
  exact main xs 0 [] h P (by simp) (Nat.zero_le _) h0 (fun us h q => done us h (by simpa using q))
end
end Z
namespace Z
section
variable {h : Hs} {σ : Zt} {E : Nat → List Val → Hs → Prop} {v : Val} {Q : Zt → Hs → Prop}
theorem bt_nm {i : Nat} : wp (bindT (.nm i) v σ h) Q E = Q (σ.set i (some v)) h := rfl
theorem w_wipe0 : wipe σ [] = σ := rfl
theorem w_wipe1 {i : Nat} {is : List Nat} : wipe σ (i :: is) = (wipe σ is).set i none := rfl
/-- a row by a for within that leaves all as it is -/
theorem walk_flat {src : List (Nat × Nat × Ob)} {f : Val → M (List Val)} {xs : List Val} {P : List Val → Hs → Prop} {X : Nat → List Val → Hs → Prop} (g : Val → List Val) (hst : still h src = true)
    (step : ∀ x, x ∈ xs → wp (f x h) (fun o h' => o = g x ∧ h' = h) X) (q : P (xs.flatMap g) h) : wp (walk src f xs h) P X := by
  refine walk_inv (fun i ys h' => ys = (xs.take i).flatMap g ∧ h' = h) ⟨by simp, rfl⟩ (fun i ys h' _ iv => by rw [iv.2]; exact hst) (fun i x ys h' hx iv => ?_) (fun ys h' iv => ?_)
  · obtain ⟨e1, e2⟩ := iv
    subst e2
    refine wp_mono (step x (List.mem_of_getElem? hx)) (fun o h'' q => ?_) fun _ _ _ q => q
    have ht : xs.take (i + 1) = xs.take i ++ [x] := by rw [List.take_add_one, hx]; rfl
    rw [ht, List.flatMap_append, e1]
    refine ⟨?_, q.2⟩
    simp [q.1]
  · rw [iv.1, iv.2, List.take_length]; exact q
theorem flat_one {α β : Type} (g : α → β) : ∀ xs : List α, xs.flatMap (fun x => [g x]) = xs.map g
  | [] => rfl
  | x :: xs => by rw [List.flatMap_cons, flat_one g xs]; rfl
theorem walk_map {src : List (Nat × Nat × Ob)} {f : Val → M (List Val)} {xs : List Val} {P : List Val → Hs → Prop} {X : Nat → List Val → Hs → Prop} (g : Val → Val) (hst : still h src = true)
    (step : ∀ x, x ∈ xs → wp (f x h) (fun o h' => o = [g x] ∧ h' = h) X) (q : P (xs.map g) h) : wp (walk src f xs h) P X :=
  walk_flat (fun x => [g x]) hst step (by rw [flat_one]; exact q)
/-- the items told by c -/
theorem walk_by {α : Type} (c : α → Val) (is : List α) {src : List (Nat × Nat × Ob)} {f : Val → M (List Val)} {P : List Val → Hs → Prop} {X : Nat → List Val → Hs → Prop} (g : α → List Val) (hst : still h src = true)
    (step : ∀ a, a ∈ is → wp (f (c a) h) (fun o h' => o = g a ∧ h' = h) X) (q : P (is.flatMap g) h) : wp (walk src f (is.map c) h) P X := by
  refine walk_inv (fun i ys h' => ys = (is.take i).flatMap g ∧ h' = h) ⟨by simp, rfl⟩ (fun i ys h' _ iv => by rw [iv.2]; exact hst) (fun i x ys h' hx iv => ?_) (fun ys h' iv => ?_)
  · obtain ⟨e1, e2⟩ := iv
    subst e2
    rw [List.getElem?_map] at hx
    cases ha : is[i]? with
    | none => rw [ha] at hx; cases hx
    | some a =>
      rw [ha] at hx
      obtain rfl := Option.some.inj hx
      refine wp_mono (step a (List.mem_of_getElem? ha)) (fun o h'' q => ?_) fun _ _ _ q => q
      have ht : is.take (i + 1) = is.take i ++ [a] := by rw [List.take_add_one, ha]; rfl
      rw [ht, List.flatMap_append, e1]
      refine ⟨?_, q.2⟩
      simp [q.1]
  · rw [iv.1, iv.2, List.length_map, List.take_length]; exact q
theorem walk_each {α : Type} (c : α → Val) (is : List α) {src : List (Nat × Nat × Ob)} {f : Val → M (List Val)} {P : List Val → Hs → Prop} {X : Nat → List Val → Hs → Prop} (g : α → Val) (hst : still h src = true)
    (step : ∀ a, a ∈ is → wp (f (c a) h) (fun o h' => o = [g a] ∧ h' = h) X) (q : P (is.map g) h) : wp (walk src f (is.map c) h) P X :=
  walk_by c is (fun x => [g x]) hst step (by rw [flat_one]; exact q)
theorem st_nil : still h [] = true := rfl
theorem st_one {d i : Nat} {o : Ob} (g : get h d i = some o) : still h [(d, i, o)] = true := by
  show (decide (get h d i = some o) && true) = true
  rw [g]; simp
end
end Z
-- ZP4
namespace Z
open PySem
/-! # Rows of numbers -/
theorem datVs_ints (g : Nat → Nat → Option PyData) : ∀ ns : List Int, datVs g (ns.map Val.int) = some (ns.map PyData.int)
  | [] => rfl
  | n :: ns => by
    show ((datV g (.int n)).bind fun d => (datVs g (ns.map Val.int)).map fun ds => d :: ds) = _
    rw [datVs_ints g ns]; rfl
theorem dat_lst {h : Hs} {d i : Nat} {ns : List Int} (g : get h d i = some (.lst (ns.map Val.int))) : dat h (.loc d i) = some (.list (ns.map PyData.int)) := by
  show datL h 6 d i = _
  unfold datL
  rw [g]
  show (datVs _ (ns.map Val.int)).map PyData.list = _
  rw [datVs_ints]; rfl
theorem dat_tup {h : Hs} {ns : List Int} : dat h (.tup (ns.map Val.int)) = some (.tuple (ns.map PyData.int)) := by
  show (datVs _ (ns.map Val.int)).map PyData.tuple = _
  rw [datVs_ints]; rfl
theorem eqvAll_ints : ∀ ns ms : List Int, PyData.eqvAll (ns.map PyData.int) (ms.map PyData.int) = decide (ns = ms)
  | [], [] => by simp [PyData.eqvAll]
  | [], _ :: _ => by simp [PyData.eqvAll]
  | _ :: _, [] => by simp [PyData.eqvAll]
  | a :: r, b :: t => by
    show (PyData.eqv (.int a) (.int b) && PyData.eqvAll (r.map PyData.int) (t.map PyData.int)) = _
    rw [eqvAll_ints r t]
    show ((a == b) && _) = _
    by_cases h : a = b <;> by_cases h' : r = t <;> simp [h, h']
theorem canLay_ints : ∀ ns : List Int, PyData.canLayAll0 (ns.map PyData.int) = true
  | [] => rfl
  | n :: ns => by
    show (true && PyData.canLayAll0 (ns.map PyData.int)) = true
    rw [canLay_ints ns]; rfl
theorem depth_ints : ∀ ns : List Int, PyData.depthAll (ns.map PyData.int) = 0
  | [] => rfl
  | n :: ns => by
    show max 0 (PyData.depthAll (ns.map PyData.int)) = 0
    rw [depth_ints ns]; rfl
theorem shaped_lst (ns : List Int) : SeqAt.shaped (.list (ns.map PyData.int)) = true := by
  show (PyData.canLayAll0 _ && decide (PyData.depthAll _ + 1 ≤ 64)) = true
  rw [canLay_ints, depth_ints]; rfl
theorem shaped_tup (ns : List Int) : SeqAt.shaped (.tuple (ns.map PyData.int)) = true := by
  show (PyData.canLayAll0 _ && decide (PyData.depthAll _ + 1 ≤ 64)) = true
  rw [canLay_ints, depth_ints]; rfl
section
variable {h : Hs} {d i e j : Nat} {Q : Val → Hs → Prop} {E : Nat → List Val → Hs → Prop} {xs ys : List Int}
theorem q_lst (g : get h d i = some (.lst (xs.map Val.int))) (g' : get h e j = some (.lst (ys.map Val.int))) : eqVal (.loc d i) (.loc e j) h = .ok (decide (xs = ys)) h := by
  show (match dat h (.loc d i), dat h (.loc e j) with | some a, some b => if SeqAt.shaped a && SeqAt.shaped b then Res.ok (PyData.eqv a b) h else .bad | _, _ => .bad) = _
  rw [dat_lst g, dat_lst g']
  show (if SeqAt.shaped _ && SeqAt.shaped _ then Res.ok (PyData.eqvAll _ _) h else .bad) = _
  rw [shaped_lst, shaped_lst, eqvAll_ints]; rfl
theorem c_eqL (g : get h d i = some (.lst (xs.map Val.int))) (g' : get h e j = some (.lst (ys.map Val.int))) : wp (cmpop .eq (.loc d i) (.loc e j) h) Q E = Q (.bl (decide (xs = ys))) h := by
  show wp (bnd (eqVal (.loc d i) (.loc e j)) (fun b => ret (.bl b)) h) Q E = _
  rw [r_bnd, q_lst g g']; rfl
theorem c_neL (g : get h d i = some (.lst (xs.map Val.int))) (g' : get h e j = some (.lst (ys.map Val.int))) : wp (cmpop .ne (.loc d i) (.loc e j) h) Q E = Q (.bl (!decide (xs = ys))) h := by
  show wp (bnd (eqVal (.loc d i) (.loc e j)) (fun b => ret (.bl (!b))) h) Q E = _
  rw [r_bnd, q_lst g g']; rfl
theorem q_tup : eqVal (.tup (xs.map Val.int)) (.tup (ys.map Val.int)) h = .ok (decide (xs = ys)) h := by
  show (match dat h (.tup (xs.map Val.int)), dat h (.tup (ys.map Val.int)) with | some a, some b => if SeqAt.shaped a && SeqAt.shaped b then Res.ok (PyData.eqv a b) h else .bad | _, _ => .bad) = _
  rw [dat_tup, dat_tup]
  show (if SeqAt.shaped _ && SeqAt.shaped _ then Res.ok (PyData.eqvAll _ _) h else .bad) = _
  rw [shaped_tup, shaped_tup, eqvAll_ints]; rfl
theorem c_eqT : wp (cmpop .eq (.tup (xs.map Val.int)) (.tup (ys.map Val.int)) h) Q E = Q (.bl (decide (xs = ys))) h := by
  show wp (bnd (eqVal (.tup (xs.map Val.int)) (.tup (ys.map Val.int))) (fun b => ret (.bl b)) h) Q E = _
  rw [r_bnd, q_tup]; rfl
theorem c_neT : wp (cmpop .ne (.tup (xs.map Val.int)) (.tup (ys.map Val.int)) h) Q E = Q (.bl (!decide (xs = ys))) h := by
  show wp (bnd (eqVal (.tup (xs.map Val.int)) (.tup (ys.map Val.int))) (fun b => ret (.bl (!b))) h) Q E = _
  rw [r_bnd, q_tup]; rfl
end
/-! sorting -/
theorem sortOk_ints (ns : List Int) : sortOk (ns.map Val.int) = true := by
  unfold sortOk
  rw [Bool.and_eq_true, Bool.and_eq_true, Bool.or_eq_true]
  refine ⟨⟨.inr ?_, ?_⟩, ?_⟩
  · rw [List.all_map]; exact List.all_eq_true.mpr fun _ _ => rfl
  · rw [List.all_map]; exact List.all_eq_true.mpr fun _ _ => rfl
  · rw [List.all_map]; refine List.all_eq_true.mpr fun m _ => ?_
    show List.all _ _ = true
    rw [List.all_map]; refine List.all_eq_true.mpr fun n _ => ?_
    show W.alike (.int m) (.int n) = true
    simp only [W.alike]
theorem sortV_map (ns : List Int) : sortV (ns.map Val.int) = (sortI ns).map Val.int := by
  unfold sortV sortI
  symm
  refine List.map_mergeSort fun a _ b _ => ?_
  have := congrFun (congrFun (W.dataLe_int (β := Int) id) a) b
  exact this.symm
theorem sortI_prm (ns : List Int) : (sortI ns).Perm ns := List.mergeSort_perm ns _
theorem sortI_up (ns : List Int) : (sortI ns).Pairwise (· ≤ ·) := by
  have := List.pairwise_mergeSort (le := fun a b : Int => decide (a ≤ b)) (fun a b c h1 h2 => decide_eq_true (Int.le_trans (of_decide_eq_true h1) (of_decide_eq_true h2))) (fun a b => by
    rw [Bool.or_eq_true, decide_eq_true_eq, decide_eq_true_eq]; omega) ns
  exact this.imp fun h => of_decide_eq_true h
theorem up_eq {l m : List Int} (p : l.Perm m) (hl : l.Pairwise (· ≤ ·)) (hm : m.Pairwise (· ≤ ·)) : l = m :=
  List.Perm.eq_of_pairwise (fun a b _ _ h1 h2 => Int.le_antisymm h1 h2) hl hm p
theorem sortI_of {l m : List Int} (p : l.Perm m) (hm : m.Pairwise (· ≤ ·)) : sortI l = m := up_eq ((sortI_prm l).trans p) (sortI_up l) hm
theorem dedup_self : ∀ {ns : List Int}, ns.Nodup → dedupI ns = ns
  | [], _ => rfl
  | n :: ns, h => by
    have h := List.nodup_cons.mp h
    unfold dedupI
    rw [dedup_self h.2]
    congr 1
    exact List.filter_eq_self.mpr fun m hm => decide_eq_true fun e => h.1 (e ▸ hm)
theorem sortI_self {l : List Int} (hm : l.Pairwise (· ≤ ·)) : sortI l = l := sortI_of (List.Perm.refl _) hm
theorem sortI_set {l : List Int} (hm : l.Pairwise (· < ·)) : sortI (dedupI l) = l := by
  rw [dedup_self (hm.imp fun h => by omega), sortI_self (hm.imp fun h => by omega)]
theorem sortedI {d i : Nat} {h : Hs} {Q : Val → Hs → Prop} {E : Nat → List Val → Hs → Prop} {v : Val} {ns : List Int} (w : ∀ {P : List Val → Hs → Prop} {E : Nat → List Val → Hs → Prop}, wp (itemsOf v h) P E = P (ns.map Val.int) h) : wp (builtin .sorted [v] h) Q E = wp (alloc (.lst ((sortI ns).map Val.int)) h) Q E := by
  rw [b_sorted, w, sortOk_ints, sortV_map]
  simp only [true_and]
/-- the numbers below n -/
def upTo (n : Nat) : List Int := (List.range n).map fun k : Nat => (k : Int)
theorem range_up {n : Nat} : rangeV 0 n = (upTo n).map Val.int := by
  unfold rangeV upTo
  rw [List.map_map]
  simp
theorem upTo_up (n : Nat) : (upTo n).Pairwise (· < ·) := by
  unfold upTo
  rw [List.pairwise_map]
  exact List.pairwise_lt_range.imp fun h => by omega
theorem upTo_len (n : Nat) : (upTo n).length = n := by unfold upTo; simp
theorem mem_upTo {n : Nat} {a : Int} : a ∈ upTo n ↔ 0 ≤ a ∧ a < n := by
  unfold upTo
  rw [List.mem_map]
  constructor
  · rintro ⟨k, hk, rfl⟩
    have := List.mem_range.mp hk
    omega
  · rintro ⟨h1, h2⟩
    exact ⟨a.toNat, List.mem_range.mpr (by omega), by omega⟩
theorem upTo_nodup (n : Nat) : (upTo n).Nodup := (upTo_up n).imp fun h => by omega
theorem sort_upTo {n : Nat} {l : List Int} (p : l.Perm (upTo n)) : sortI l = upTo n := sortI_of p ((upTo_up n).imp fun h => by omega)
theorem not_upTo {n : Nat} {l : List Int} (h : sortI l = upTo n) : l.Perm (upTo n) := h ▸ (sortI_prm l).symm
section
variable {h : Hs} {d i : Nat} {xs : List Val} {Q : Val → Hs → Prop} {E : Nat → List Val → Hs → Prop}
theorem b_revL (g : get h d i = some (.lst xs)) : wp (backwards (.loc d i) h) Q E = wp (alloc (.lst xs.reverse) h) Q E := by
  show wp (bnd (rd (.loc d i)) _ h) Q E = _
  rw [r_bnd, r_rd', g]; rfl
theorem c_isnN {v : Val} : wp (cmpop .isnot v .non h) Q E = Q (.bl (!decide (v = .non))) h := by cases v <;> rfl
theorem c_isN {v : Val} : wp (cmpop .is v .non h) Q E = Q (.bl (decide (v = .non))) h := by cases v <;> rfl
end
theorem tup_under {D : Nat} : ∀ {vs : List Val}, (∀ v ∈ vs, v.under D = true) → (Val.tup vs).under D = true := by
  intro vs h
  show Val.under.unders D vs = true
  induction vs with
  | nil => rfl
  | cons v vs ih =>
    unfold Val.under.unders
    rw [Bool.and_eq_true]
    exact ⟨h v (by simp), ih fun w m => h w (by simp [m])⟩
theorem ints_under {D : Nat} {ns : List Int} : (Val.tup (ns.map Val.int)).under D = true := tup_under fun v m => by
  obtain ⟨j, _, e⟩ := List.mem_map.mp m
  subst e; rfl
theorem map_len {α β : Type} {f : α → β} {l : List α} : (l.map f).length = l.length := List.length_map _
section
variable {h : Hs} {d i e j : Nat} {xs ys : List Val} {Q : Val → Hs → Prop} {E : Nat → List Val → Hs → Prop}
theorem o_addLs (g : get h d i = some (.lst xs)) (g' : get h e j = some (.lst ys)) : wp (binop .add (.loc d i) (.loc e j) h) Q E = (xs.length + ys.length ≤ SL ∧ wp (alloc (.lst (xs ++ ys)) h) Q E) := by
  show wp (bnd (rd (.loc d i)) (fun o => bnd (rd (.loc e j)) fun u => match o, u with | .lst xs, .lst ys => bnd (guard (decide (xs.length + ys.length ≤ SL))) fun _ => alloc (.lst (xs ++ ys)) | _, _ => bad) h) Q E = _
  rw [r_bnd, r_rd', g, optP_some, r_bnd, r_rd', g', optP_some]
  show wp (bnd (guard _) _ h) Q E = _
  rw [r_bnd, r_guard, decide_eq_true_eq]
theorem get_new {r : List Ob} {o : Ob} : get ((r ++ [o]) :: h) h.length r.length = some o := by rw [get_top]; simp
end
theorem range_nat (n : Nat) : rangeV 0 n = (List.range n).map fun k : Nat => Val.int k := by
  unfold rangeV
  simp
theorem range_take {α β : Type} (l : List α) (a : α) (g : α → List β) : ∀ n, n ≤ l.length → (List.range n).flatMap (fun k => g (l[k]?.getD a)) = (l.take n).flatMap g
  | 0, _ => rfl
  | n + 1, h => by
    rw [List.range_succ, List.flatMap_append, range_take l a g n (by omega), List.take_add_one, List.flatMap_append, List.getElem?_eq_getElem (show n < l.length by omega)]
    simp [List.getElem?_eq_getElem (show n < l.length by omega)]
theorem flat_filter {α β : Type} (p : α → Bool) (g : α → β) : ∀ l : List α, l.flatMap (fun y => if p y = true then [g y] else []) = (l.filter p).map g
  | [] => rfl
  | y :: l => by
    rw [List.flatMap_cons, flat_filter p g l]
    by_cases h : p y = true
    · rw [if_pos h, List.filter_cons_of_pos h]; rfl
    · rw [if_neg h, List.filter_cons_of_neg h]; rfl
theorem topI_ge : ∀ (l : List Int) (m : Int), m ≤ maxI m l ∧ ∀ x ∈ l, x ≤ maxI m l
  | [], m => ⟨Int.le_refl _, by simp⟩
  | y :: l, m => by
    have := topI_ge l (if m < y then y else m)
    show m ≤ maxI (if m < y then y else m) l ∧ _
    refine ⟨?_, fun x hx => ?_⟩
    · refine Int.le_trans ?_ this.1
      split <;> omega
    · show x ≤ maxI (if m < y then y else m) l
      rcases List.mem_cons.mp hx with e | hx
      · subst e
        refine Int.le_trans ?_ this.1
        split <;> omega
      · exact this.2 x hx
theorem topI_mem : ∀ (l : List Int) (m : Int), maxI m l = m ∨ maxI m l ∈ l
  | [], m => .inl rfl
  | y :: l, m => by
    show maxI (if m < y then y else m) l = m ∨ maxI (if m < y then y else m) l ∈ y :: l
    rcases topI_mem l (if m < y then y else m) with e | e
    · rw [e]
      split
      · exact .inr (by simp)
      · exact .inl rfl
    · exact .inr (List.mem_cons_of_mem _ e)
theorem topI_is {l : List Int} {m x : Int} (h1 : m ≤ x) (h2 : ∀ y ∈ l, y ≤ x) (h3 : x = m ∨ x ∈ l) : maxI m l = x := by
  have a := topI_ge l m
  have b : maxI m l ≤ x := by
    rcases topI_mem l m with e | e
    · rw [e]; exact h1
    · exact h2 _ e
  rcases h3 with e | e
  · rw [e] at b ⊢; exact Int.le_antisymm b a.1
  · exact Int.le_antisymm b (a.2 x e)
theorem perm_ints {us : List Val} {l : List Int} (p : us.Perm (l.map Val.int)) : ∃ ms : List Int, ms.Perm l ∧ us = ms.map Val.int := by
  let t : Val → Int := fun v => match v with | .int n => n | _ => 0
  refine ⟨us.map t, ?_, ?_⟩
  · have := p.map t
    rw [List.map_map, show (t ∘ Val.int) = id from rfl, List.map_id] at this
    exact this
  · rw [List.map_map]
    have : us.map (Val.int ∘ t) = us.map id := List.map_congr_left fun v m => by
      obtain ⟨n, _, e⟩ := List.mem_map.mp (p.subset m)
      subst e; rfl
    rw [this, List.map_id]
theorem get_newp {r : List Ob} {o u : Ob} {h : Hs} {i : Nat} (hi : i < r.length) : get ((r ++ [o]).set i u :: h) h.length r.length = some o := by
  rw [get_top, List.getElem?_set_ne (by omega)]; simp
section
variable {h : Hs} {σ : Zt} {E : Nat → List Val → Hs → Prop} {v : Val} {vs : List Val} {Q : Zt → Hs → Prop} {t : T} {ts : List T}
theorem bt_tp : wp (bindT (.tp ts) (.tup vs) σ h) Q E = wp (bindTs ts vs σ h) Q E := rfl
theorem bts_n : wp (bindTs [] [] σ h) Q E = Q σ h := rfl
theorem bts_c : wp (bindTs (t :: ts) (v :: vs) σ h) Q E = wp (bindT t v σ h) (fun σ' h' => wp (bindTs ts vs σ' h') Q E) E := by
  show wp (bnd (bindT t v σ) (fun σ' => bindTs ts vs σ') h) Q E = _
  rw [r_bnd]
theorem first_in {n : Int} {ns : List Int} {Q : Nat → Hs → Prop} (hn : n ∈ ns) : wp (firstAt (.int n) (ns.map Val.int) h) Q E = Q (ns.idxOf n) h := by
  rw [first_ints]
  have : (ns.findIdx? fun m => decide (m = n)) = some (ns.idxOf n) := by
    rw [List.findIdx?_eq_some_iff_findIdx_eq]
    have e : (fun m : Int => decide (m = n)) = fun m => m == n := by funext m; rfl
    rw [e]
    exact ⟨List.idxOf_lt_length_iff.mpr hn, rfl⟩
  rw [this]; rfl
end
section
variable {C : Nat → List Val → M Val} {σ : Zt} {h : Hs} {Q : Out → Hs → Prop}
/-- what a try wants of its body -/
def tryQ (C : Nat → List Val → M Val) (hs : List (List Nat × List S)) (Q : Out → Hs → Prop) (o : Out) (h : Hs) : Prop := match o with
  | .xc c vs σ => wps (handle C hs c vs σ h) Q
  | o => Q o h
theorem z_try {b : List S} {hs : List (List Nat × List S)} : wps (Z.exec C (.try_ b hs) σ h) Q = wps (execs C b σ h) (tryQ C hs Q) := by
  show wps (match execs C b σ h with | some (.xc c vs σ', h') => handle C hs c vs σ' h' | r => r) Q = _
  cases e : execs C b σ h with
  | none => rfl
  | some p =>
    obtain ⟨o, h'⟩ := p
    cases o <;> rfl
theorem tq_xc {hs : List (List Nat × List S)} {c : Nat} {vs : List Val} : tryQ C hs Q (.xc c vs σ) h = wps (handle C hs c vs σ h) Q := rfl
theorem tq_nx {hs : List (List Nat × List S)} : tryQ C hs Q (.nx σ) h = Q (.nx σ) h := rfl
theorem tq_rt {hs : List (List Nat × List S)} {v : Val} : tryQ C hs Q (.rt v) h = Q (.rt v) h := rfl
/-- what a suite of except wants -/
def calmQ (Q : Out → Hs → Prop) (o : Out) (h : Hs) : Prop := match o with
  | .xc _ _ _ => False
  | o => Q o h
theorem w_calm {x : SM} : wps (calmS x h) Q = wps (x h) (calmQ Q) := by
  unfold calmS
  cases e : x h with
  | none => rfl
  | some p =>
    obtain ⟨o, h'⟩ := p
    cases o <;> rfl
theorem w_hand {cs : List Nat} {b : List S} {hs : List (List Nat × List S)} {c : Nat} {vs : List Val} (hc : c ∈ cs) : wps (handle C ((cs, b) :: hs) c vs σ h) Q = wps (execs C b σ h) (calmQ Q) := by
  show wps ((if c ∈ cs then calmS (execs C b σ) else handle C hs c vs σ) h) Q = _
  rw [if_pos hc, w_calm]
theorem cq_nx : calmQ Q (.nx σ) h = Q (.nx σ) h := rfl
theorem cq_rt {v : Val} : calmQ Q (.rt v) h = Q (.rt v) h := rfl
theorem cq_xc {c : Nat} {vs : List Val} : calmQ Q (.xc c vs σ) h = False := rfl
end
end Z
-- ZH
namespace Z
open PySem
/-! # The hand that draws -/
def drawFd : Fd := { np := 2, n := 5, mode := .drop, body := [(.iff (.and (.cmp .eq (.idx (.var 0) (.con (.int 2))) (.con (.int 0))) (.cmp .lt (.idx (.var 0) (.con (.int 1))) (.bi .len [(.idx (.var 0) (.con (.int 0)))]))) [(.asg (.nm 2) (.idx (.idx (.var 0) (.con (.int 0))) (.idx (.var 0) (.con (.int 1))))), (.sub (.var 0) (.con (.int 1)) (.bin .add (.idx (.var 0) (.con (.int 1))) (.con (.int 1)))), (.sub (.var 0) (.con (.int 3)) (.bin .mod (.bi .int [(.bin .add (.bin .add (.bin .mul (.idx (.var 0) (.con (.int 3))) (.con (.int 48271))) (.var 2)) (.con (.int 11)))]) (.con (.int 2147483647)))), (.iff (.cmp .ge (.var 2) (.bin .pow (.con (.int 10)) (.con (.int 18)))) [(.sub (.var 0) (.con (.int 2)) (.var 2))] [])] []), (.iff (.cmp .gt (.idx (.var 0) (.con (.int 2))) (.con (.int 0))) [(.asg (.nm 3) (.bin .mod (.bi .int [(.idx (.var 0) (.con (.int 2)))]) (.var 1))), (.sub (.var 0) (.con (.int 2)) (.bin .fdiv (.idx (.var 0) (.con (.int 2))) (.var 1))), (.ret (.var 3))] []), (.sub (.var 0) (.con (.int 4)) (.bin .add (.idx (.var 0) (.con (.int 4))) (.con (.int 1)))), (.asg (.nm 4) (.bin .mod (.bi .int [(.bin .mul (.bi .int [(.bin .add (.idx (.var 0) (.con (.int 3))) (.bin .mul (.con (.int 6007)) (.idx (.var 0) (.con (.int 4)))))]) (.con (.int 69621)))]) (.con (.int 2147483629)))), (.asg (.nm 4) (.bin .mod (.bi .int [(.bin .mul (.var 4) (.bin .add (.bin .fdiv (.var 4) (.con (.int 1013))) (.con (.int 48271))))]) (.con (.int 2147483647)))), (.asg (.nm 4) (.bin .mod (.bi .int [(.bin .mul (.var 4) (.bin .add (.bin .fdiv (.var 4) (.con (.int 2011))) (.con (.int 16807))))]) (.con (.int 2147483587)))), (.ret (.bin .mod (.bi .int [(.bin .fdiv (.var 4) (.con (.int 32)))]) (.var 1)))] }
def handFd : Fd := { np := 1, n := 3, mode := .keep, body := [(.asg (.nm 1) (.comp (.bi .abs [(.bi .int [(.var 2)])]) (.nm 2) (.seq (.sl (.var 0) (.con .non) (.con (.int 63)))) [] [2])), (.ret (.lst [(.var 1), (.con (.int 0)), (.con (.int 0)), (.bin .add (.con (.int 31)) (.bin .mul (.con (.int 7)) (.bi .len [(.var 1)]))), (.con (.int 0))]))] }
def someFd (f : Nat) : Fd := { np := 2, n := 2, mode := .drop, body := [(.ret (.idx (.var 1) (.call f [(.var 0), (.bi .len [(.var 1)])])))] }
def mixedFd (f : Nat) : Fd := { np := 2, n := 4, mode := .keep, body := [(.par 2 3 (.bi .list [(.var 1)]) (.lst [])), (.while_ (.cmp .gt (.bi .len [(.var 2)]) (.con (.int 0))) [(.ex (.me .append (.var 3) [(.me .pop (.var 2) [(.call f [(.var 0), (.bi .len [(.var 2)])])])]))]), (.ret (.var 3))] }
/-- the hand: its cells, and four numbers -/
def hnd (d' i' : Nat) (a b c e : Int) : Ob := .lst [.loc d' i', .int a, .int b, .int c, .int e]
theorem hnd_ok {d' i' d : Nat} {a b c e : Int} (hd : d' ≤ d) : (hnd d' i' a b c e).okAt d = true := by
  unfold hnd
  show (List.all _ _) = true
  simp [Val.okAt, hd]
section
variable {h : Hs} {d i d' i' : Nat} {a b c e v : Int} {u : Ob} {E : Nat → List Val → Hs → Prop} {Q : Val → Hs → Prop} {Qu : Unit → Hs → Prop}
theorem hp0 (g : get h d i = some u) : wp (item (.loc d i) (.int 0) (put h d i (hnd d' i' a b c e))) Q E = Q (.loc d' i') (put h d i (hnd d' i' a b c e)) := by
  unfold hnd; rw [x_lst (get_put_same g), nth_0]; rfl
theorem hp1 (g : get h d i = some u) : wp (item (.loc d i) (.int 1) (put h d i (hnd d' i' a b c e))) Q E = Q (.int a) (put h d i (hnd d' i' a b c e)) := by
  unfold hnd; rw [x_lst (get_put_same g), nth_1]; rfl
theorem hp2 (g : get h d i = some u) : wp (item (.loc d i) (.int 2) (put h d i (hnd d' i' a b c e))) Q E = Q (.int b) (put h d i (hnd d' i' a b c e)) := by
  unfold hnd; rw [x_lst (get_put_same g), nth_2]; rfl
theorem hp3 (g : get h d i = some u) : wp (item (.loc d i) (.int 3) (put h d i (hnd d' i' a b c e))) Q E = Q (.int c) (put h d i (hnd d' i' a b c e)) := by
  unfold hnd; rw [x_lst (get_put_same g), nth_3]; rfl
theorem hp4 (g : get h d i = some u) : wp (item (.loc d i) (.int 4) (put h d i (hnd d' i' a b c e))) Q E = Q (.int e) (put h d i (hnd d' i' a b c e)) := by
  unfold hnd; rw [x_lst (get_put_same g), nth_4]; rfl
theorem hs1 (g : get h d i = some u) (hd : d' ≤ d) : wp (store (.loc d i) (.int 1) (.int v) (put h d i (hnd d' i' a b c e))) Qu E = Qu () (put h d i (hnd d' i' v b c e)) := by
  have := hnd_ok (i' := i') (a := v) (b := b) (c := c) (e := e) hd
  unfold hnd at this ⊢
  rw [st_lst (get_put_same g) (by decide) (by show (_ : Int) < ((5 : Nat) : Int); decide)]
  rw [put_put]
  exact propext ⟨fun q => q.2, fun q => ⟨this, q⟩⟩
theorem hs2 (g : get h d i = some u) (hd : d' ≤ d) : wp (store (.loc d i) (.int 2) (.int v) (put h d i (hnd d' i' a b c e))) Qu E = Qu () (put h d i (hnd d' i' a v c e)) := by
  have := hnd_ok (i' := i') (a := a) (b := v) (c := c) (e := e) hd
  unfold hnd at this ⊢
  rw [st_lst (get_put_same g) (by decide) (by show (_ : Int) < ((5 : Nat) : Int); decide)]
  rw [put_put]
  exact propext ⟨fun q => q.2, fun q => ⟨this, q⟩⟩
theorem hs3 (g : get h d i = some u) (hd : d' ≤ d) : wp (store (.loc d i) (.int 3) (.int v) (put h d i (hnd d' i' a b c e))) Qu E = Qu () (put h d i (hnd d' i' a b v e)) := by
  have := hnd_ok (i' := i') (a := a) (b := b) (c := v) (e := e) hd
  unfold hnd at this ⊢
  rw [st_lst (get_put_same g) (by decide) (by show (_ : Int) < ((5 : Nat) : Int); decide)]
  rw [put_put]
  exact propext ⟨fun q => q.2, fun q => ⟨this, q⟩⟩
theorem hs4 (g : get h d i = some u) (hd : d' ≤ d) : wp (store (.loc d i) (.int 4) (.int v) (put h d i (hnd d' i' a b c e))) Qu E = Qu () (put h d i (hnd d' i' a b c v)) := by
  have := hnd_ok (i' := i') (a := a) (b := b) (c := c) (e := v) hd
  unfold hnd at this ⊢
  rw [st_lst (get_put_same g) (by decide) (by show (_ : Int) < ((5 : Nat) : Int); decide)]
  rw [put_put]
  exact propext ⟨fun q => q.2, fun q => ⟨this, q⟩⟩
end
theorem lim_m {x M y : Int} (h : 0 < M) (h2 : M < 100000000000) : (-lim < x % M ∧ x % M < lim) ∨ (-lim < y ∧ y < lim) := by
  have a := Int.emod_nonneg x (show M ≠ 0 by omega)
  have b := Int.emod_lt_of_pos x h
  exact .inl ⟨by unfold lim; omega, by unfold lim; omega⟩
theorem lim_1 {x y : Int} (h : 0 ≤ x ∧ x < 100000000000) : (-lim < x ∧ x < lim) ∨ (-lim < y ∧ y < lim) := .inl ⟨by unfold lim; omega, by unfold lim; omega⟩
theorem lim_2 {x y : Int} (h : 0 ≤ x ∧ x < 100000000000) : (-lim < y ∧ y < lim) ∨ (-lim < x ∧ x < lim) := .inr ⟨by unfold lim; omega, by unfold lim; omega⟩
section
variable {C : Nat → List Val → M Val} {h : Hs} {d i d' i' : Nat} {u : Ob}
/-- the tail of a draw -/
theorem draw_tail {a b c e m : Int} {s2 s3 s4 : Option Val} {Q : Out → Hs → Prop} (g : get h d i = some u) (hd : d' ≤ d) (hm : 0 < m ∧ m < 1073741824)
    (q : ∀ r b c e, 0 ≤ r → r < m → Q (.rt (.int r)) (put h d i (hnd d' i' a b c e))) : wps (execs C (drawFd.body.drop 1) [some (.loc d i), some (.int m), s2, s3, s4] (put h d i (hnd d' i' a b c e))) Q := by
  show wps (execs C [_, _, _, _, _, _] _ _) Q
  simp only [↓w_cons, ↓w_nil, ↓w_ev, ↓w_fin, ↓w_some, ↓t_nx, ↓t_bk, ↓t_ct, ↓t_rt, ↓t_xc, ↓r_bnd, ↓r_ret, ↓r_ok, ↓r_ite, ↓w_ite, ↓r_guard, ↓r_alloc, ↓r_optM', ↓optP_some, ↓r_noExc, ↓r_exc, ↓e_var, ↓varP_some, ↓e_con, ↓e_bin, ↓e_cmp, ↓e_chain, ↓e_neg, ↓e_inv, ↓e_not, ↓e_and, ↓e_or, ↓v_and, ↓v_or, ↓e_ifx, ↓e_idx, ↓e_sl, ↓e_rev, ↓e_lst, ↓e_tup, ↓e_dict, ↓e_call, ↓e_bi, ↓e_me, ↓e_comp, ↓e_nil, ↓e_cons, ↓e_c0, ↓e_c1, ↓i_seq, ↓i_rng1, ↓i_rng2, ↓intP_int, ↓o_add, ↓o_sub, ↓o_mul, ↓o_fdiv, ↓o_mod, ↓o_pow, ↓o_addT, ↓c_eqI, ↓c_neI, ↓c_lt, ↓c_gt, ↓c_le, ↓c_ge, ↓n_int, ↓t_bl, ↓t_int, ↓x_tup, ↓b_lenT, ↓b_abs, ↓b_int, ↓b_tupT, ↓b_tupL, ↓b_list, ↓b_sorted, ↓b_lrg1, ↓b_trg1, ↓b_isi, ↓a_nil, ↓a_cons, ↓y_tup, ↓y_int, ↓y_bl, ↓y_non, ↓y_str, ↓it_tup, ↓sq_tup, ↓m_indexT, ↓k_tup, ↓ow_tup, ↓l_bl, ↓l_int, ↓l_non, ↓z_asg, ↓z_asgT, ↓z_par, ↓z_sub, ↓z_aug, ↓g_add, ↓g_sub, ↓z_ex, ↓z_ret, ↓z_if, ↓z_raise, ↓z_for, ↓z_while, ↓bt_nm, ↓bt_tp, ↓bts_n, ↓bts_c, ↓z_try, ↓tq_xc, ↓tq_nx, ↓tq_rt, ↓cq_nx, ↓cq_rt, ↓cq_xc, w_wipe0, w_wipe1, nth_0, nth_1, nth_2, nth_3, nth_4, startZ, endOf, List.map, List.length, List.replicate, List.cons_append, List.nil_append, List.append_nil, List.getElem?_cons_zero, List.getElem?_cons_succ, List.set_cons_zero, List.set_cons_succ, Nat.reduceAdd, Nat.reduceSub, Nat.reduceLT, Nat.zero_add, Nat.add_zero, Nat.sub_self, Int.reduceNeg, Int.reduceToNat, if_true, if_false, Bool.false_eq_true, Bool.not_true, Bool.not_false, Bool.and_true, Bool.true_and, Bool.and_false, Bool.false_and, and_true, true_and, Option.isSome_some, Bool.and_self, reduceIte, reduceCtorEq, decide_true, decide_false, decide_eq_true_eq, not_true_eq_false, not_false_eq_true, or_false, or_true, true_or, false_or, ↓hp2 g, ↓hp3 g, ↓hp4 g, ↓hs2 g hd, ↓hs4 g hd]
  split
  · exact ⟨hm.1, hm, q _ _ _ _ (Int.emod_nonneg _ (by omega)) (Int.emod_lt_of_pos _ hm.1)⟩
  · exact ⟨lim_1 (by decide), lim_2 (by decide), by decide, by decide, lim_m (by decide) (by decide), by decide, by decide, lim_m (by decide) (by decide), by decide, by decide, hm.1, q _ _ _ _ (Int.emod_nonneg _ (by omega)) (Int.emod_lt_of_pos _ hm.1)⟩
theorem nth_mapI {xs : List Int} {i : Int} (h0 : 0 ≤ i) (h1 : i < xs.length) : ∃ y, nth (xs.map Val.int) i = some (.int y) := by
  rw [nth_int h0 (by simpa using h1)]
  have : i.toNat < xs.length := by omega
  exact ⟨xs[i.toNat], by simp [this]⟩
/-- the cells: numbers -/
def cel (xs : List Int) : Ob := .lst (xs.map Val.int)
/-- a draw -/
theorem draw_ok {fds : List Fd} {f k : Nat} (hf : fds[f]? = some drawFd) {xs : List Int} {a b c e m : Int} {P : Val → Hs → Prop} {X : Nat → List Val → Hs → Prop}
    (g : get h d i = some u) (hd : d' ≤ d) (hn : ¬ (d' = d ∧ i' = i)) (gc : get h d' i' = some (cel xs)) (ha : 0 ≤ a) (hm : 0 < m ∧ m < 1073741824)
    (q : ∀ r a b c e, 0 ≤ a → 0 ≤ r → r < m → P (.int r) (put h d i (hnd d' i' a b c e))) : wp (callN fds (k + 1) f [.loc d i, .int m] (put h d i (hnd d' i' a b c e))) P X := by
  refine call_of (d := drawFd) hf rfl ?_
  have g2 := get_up (r := []) g
  have gd : ∀ {a b c e : Int}, get (put ([] :: h) d i (hnd d' i' a b c e)) d' i' = some (.lst (xs.map Val.int)) := fun {a b c e} => by rw [get_put_ne hn]; exact get_up gc
  rw [← put_up g]
  have tl : ∀ {a b c e : Int} {s2 s3 s4 : Option Val}, 0 ≤ a → wps (execs (callN fds k) (drawFd.body.drop 1) [some (.loc d i), some (.int m), s2, s3, s4] (put ([] :: h) d i (hnd d' i' a b c e))) fun o h' => wp (endOf drawFd.mode o h') P X := by
    intro a b c e s2 s3 s4 ha
    refine draw_tail g2 hd hm fun r b c e r0 r1 => ?_
    show wp (leave .drop (.int r) _) P X
    rw [put_up g, l_int]
    exact q _ _ _ _ _ ha r0 r1
  show wps (execs (callN fds k) (_ :: drawFd.body.drop 1) [some (.loc d i), some (.int m), none, none, none] _) _
  rw [w_cons]
  simp only [↓w_cons, ↓w_nil, ↓w_ev, ↓w_fin, ↓w_some, ↓t_nx, ↓t_bk, ↓t_ct, ↓t_rt, ↓t_xc, ↓r_bnd, ↓r_ret, ↓r_ok, ↓r_ite, ↓w_ite, ↓r_guard, ↓r_alloc, ↓r_optM', ↓optP_some, ↓r_noExc, ↓r_exc, ↓e_var, ↓varP_some, ↓e_con, ↓e_bin, ↓e_cmp, ↓e_chain, ↓e_neg, ↓e_inv, ↓e_not, ↓e_and, ↓e_or, ↓v_and, ↓v_or, ↓e_ifx, ↓e_idx, ↓e_sl, ↓e_rev, ↓e_lst, ↓e_tup, ↓e_dict, ↓e_call, ↓e_bi, ↓e_me, ↓e_comp, ↓e_nil, ↓e_cons, ↓e_c0, ↓e_c1, ↓i_seq, ↓i_rng1, ↓i_rng2, ↓intP_int, ↓o_add, ↓o_sub, ↓o_mul, ↓o_fdiv, ↓o_mod, ↓o_pow, ↓o_addT, ↓c_eqI, ↓c_neI, ↓c_lt, ↓c_gt, ↓c_le, ↓c_ge, ↓n_int, ↓t_bl, ↓t_int, ↓x_tup, ↓b_lenT, ↓b_abs, ↓b_int, ↓b_tupT, ↓b_tupL, ↓b_list, ↓b_sorted, ↓b_lrg1, ↓b_trg1, ↓b_isi, ↓a_nil, ↓a_cons, ↓y_tup, ↓y_int, ↓y_bl, ↓y_non, ↓y_str, ↓it_tup, ↓sq_tup, ↓m_indexT, ↓k_tup, ↓ow_tup, ↓l_bl, ↓l_int, ↓l_non, ↓z_asg, ↓z_asgT, ↓z_par, ↓z_sub, ↓z_aug, ↓g_add, ↓g_sub, ↓z_ex, ↓z_ret, ↓z_if, ↓z_raise, ↓z_for, ↓z_while, ↓bt_nm, ↓bt_tp, ↓bts_n, ↓bts_c, ↓z_try, ↓tq_xc, ↓tq_nx, ↓tq_rt, ↓cq_nx, ↓cq_rt, ↓cq_xc, w_wipe0, w_wipe1, nth_0, nth_1, nth_2, nth_3, nth_4, startZ, endOf, List.map, List.length, List.replicate, List.cons_append, List.nil_append, List.append_nil, List.getElem?_cons_zero, List.getElem?_cons_succ, List.set_cons_zero, List.set_cons_succ, Nat.reduceAdd, Nat.reduceSub, Nat.reduceLT, Nat.zero_add, Nat.add_zero, Nat.sub_self, Int.reduceNeg, Int.reduceToNat, if_true, if_false, Bool.false_eq_true, Bool.not_true, Bool.not_false, Bool.and_true, Bool.true_and, Bool.and_false, Bool.false_and, and_true, true_and, Option.isSome_some, Bool.and_self, reduceIte, reduceCtorEq, decide_true, decide_false, decide_eq_true_eq, not_true_eq_false, not_false_eq_true, or_false, or_true, true_or, false_or, ↓hp0 g2, ↓hp1 g2, ↓hp2 g2, ↓hp3 g2, ↓hp4 g2, ↓hs1 g2 hd, ↓hs2 g2 hd, ↓hs3 g2 hd, ↓hs4 g2 hd, ↓x_lst gd, ↓b_lenL gd]
  split
  · split
    · rename_i h1
      obtain ⟨y, e1⟩ := nth_mapI (xs := xs) ha (by simpa using h1)
      rw [e1]
      simp only [↓w_cons, ↓w_nil, ↓w_ev, ↓w_fin, ↓w_some, ↓t_nx, ↓t_bk, ↓t_ct, ↓t_rt, ↓t_xc, ↓r_bnd, ↓r_ret, ↓r_ok, ↓r_ite, ↓w_ite, ↓r_guard, ↓r_alloc, ↓r_optM', ↓optP_some, ↓r_noExc, ↓r_exc, ↓e_var, ↓varP_some, ↓e_con, ↓e_bin, ↓e_cmp, ↓e_chain, ↓e_neg, ↓e_inv, ↓e_not, ↓e_and, ↓e_or, ↓v_and, ↓v_or, ↓e_ifx, ↓e_idx, ↓e_sl, ↓e_rev, ↓e_lst, ↓e_tup, ↓e_dict, ↓e_call, ↓e_bi, ↓e_me, ↓e_comp, ↓e_nil, ↓e_cons, ↓e_c0, ↓e_c1, ↓i_seq, ↓i_rng1, ↓i_rng2, ↓intP_int, ↓o_add, ↓o_sub, ↓o_mul, ↓o_fdiv, ↓o_mod, ↓o_pow, ↓o_addT, ↓c_eqI, ↓c_neI, ↓c_lt, ↓c_gt, ↓c_le, ↓c_ge, ↓n_int, ↓t_bl, ↓t_int, ↓x_tup, ↓b_lenT, ↓b_abs, ↓b_int, ↓b_tupT, ↓b_tupL, ↓b_list, ↓b_sorted, ↓b_lrg1, ↓b_trg1, ↓b_isi, ↓a_nil, ↓a_cons, ↓y_tup, ↓y_int, ↓y_bl, ↓y_non, ↓y_str, ↓it_tup, ↓sq_tup, ↓m_indexT, ↓k_tup, ↓ow_tup, ↓l_bl, ↓l_int, ↓l_non, ↓z_asg, ↓z_asgT, ↓z_par, ↓z_sub, ↓z_aug, ↓g_add, ↓g_sub, ↓z_ex, ↓z_ret, ↓z_if, ↓z_raise, ↓z_for, ↓z_while, ↓bt_nm, ↓bt_tp, ↓bts_n, ↓bts_c, ↓z_try, ↓tq_xc, ↓tq_nx, ↓tq_rt, ↓cq_nx, ↓cq_rt, ↓cq_xc, w_wipe0, w_wipe1, nth_0, nth_1, nth_2, nth_3, nth_4, startZ, endOf, List.map, List.length, List.replicate, List.cons_append, List.nil_append, List.append_nil, List.getElem?_cons_zero, List.getElem?_cons_succ, List.set_cons_zero, List.set_cons_succ, Nat.reduceAdd, Nat.reduceSub, Nat.reduceLT, Nat.zero_add, Nat.add_zero, Nat.sub_self, Int.reduceNeg, Int.reduceToNat, if_true, if_false, Bool.false_eq_true, Bool.not_true, Bool.not_false, Bool.and_true, Bool.true_and, Bool.and_false, Bool.false_and, and_true, true_and, Option.isSome_some, Bool.and_self, reduceIte, reduceCtorEq, decide_true, decide_false, decide_eq_true_eq, not_true_eq_false, not_false_eq_true, or_false, or_true, true_or, false_or, ↓hp0 g2, ↓hp1 g2, ↓hp2 g2, ↓hp3 g2, ↓hp4 g2, ↓hs1 g2 hd, ↓hs2 g2 hd, ↓hs3 g2 hd, ↓hs4 g2 hd, ↓x_lst gd, ↓b_lenL gd]
      refine ⟨lim_2 (by decide), by decide, ⟨by decide, by decide, by decide, by decide⟩, ?_⟩
      split <;> exact tl (by omega)
    · exact tl ha
  · exact tl ha
end
mutual
theorem under_ok {D : Nat} : ∀ v : Val, v.under D = true → v.okAt D = true
  | .non, _ => rfl
  | .bl _, _ => rfl
  | .int _, _ => rfl
  | .str _, _ => rfl
  | .loc d i, u => by
    have : d < D := of_decide_eq_true u
    exact decide_eq_true (Nat.le_of_lt this)
  | .tup vs, u => unders_ok vs u
theorem unders_ok {D : Nat} : ∀ vs : List Val, Val.under.unders D vs = true → Val.okAt.okAts D vs = true
  | [], _ => rfl
  | v :: vs, u => by
    unfold Val.under.unders at u
    rw [Bool.and_eq_true] at u
    unfold Val.okAt.okAts
    rw [Bool.and_eq_true]
    exact ⟨under_ok v u.1, unders_ok vs u.2⟩
end
mutual
theorem under_shift {D n : Nat} : ∀ v : Val, v.under D = true → shiftV D n v = v
  | .non, _ => rfl
  | .bl _, _ => rfl
  | .int _, _ => rfl
  | .str _, _ => rfl
  | .loc d i, u => by
    have : d < D := of_decide_eq_true u
    unfold shiftV
    rw [if_neg (by omega)]
  | .tup vs, u => by
    unfold shiftV
    rw [unders_shift vs u]
theorem unders_shift {D n : Nat} : ∀ vs : List Val, Val.under.unders D vs = true → shiftVs D n vs = vs
  | [], _ => rfl
  | v :: vs, u => by
    unfold Val.under.unders at u
    rw [Bool.and_eq_true] at u
    unfold shiftVs
    rw [under_shift v u.1, unders_shift vs u.2]
end
theorem all_shift {D n : Nat} : ∀ vs : List Val, (∀ v ∈ vs, v.under D = true) → shiftVs D n vs = vs
  | [], _ => rfl
  | v :: vs, u => by
    unfold shiftVs
    rw [under_shift v (u v (by simp)), all_shift vs fun w m => u w (by simp [m])]
theorem lst_ok {D : Nat} {vs : List Val} (u : ∀ v ∈ vs, v.under D = true) : (Ob.lst vs).okAt D = true :=
  List.all_eq_true.mpr fun v m => under_ok v (u v m)
/-- a hand at a place -/
def HandAt (h : Hs) (d i d' i' : Nat) : Prop := ∃ xs a b c e, d' ≤ d ∧ ¬ (d' = d ∧ i' = i) ∧ get h d i = some (hnd d' i' a b c e) ∧ get h d' i' = some (cel xs) ∧ 0 ≤ a
theorem HandAt.up {h : Hs} {d i d' i' : Nat} {r : List Ob} (H : HandAt h d i d' i') : HandAt (r :: h) d i d' i' := by
  obtain ⟨xs, a, b, c, e, h1, h2, h3, h4, h5⟩ := H
  exact ⟨xs, a, b, c, e, h1, h2, get_up h3, get_up h4, h5⟩
theorem get_down {r : List Ob} {h : Hs} {d i : Nat} (hd : d < h.length) : get (r :: h) d i = get h d i := by
  conv => lhs; unfold get
  rw [if_neg (by omega)]
theorem HandAt.down {h : Hs} {d i d' i' : Nat} {r : List Ob} (H : HandAt (r :: h) d i d' i') (hd : d < h.length) : HandAt h d i d' i' := by
  obtain ⟨xs, a, b, c, e, h1, h2, h3, h4, h5⟩ := H
  rw [get_down hd] at h3
  rw [get_down (by omega)] at h4
  exact ⟨xs, a, b, c, e, h1, h2, h3, h4, h5⟩
theorem get_app {r x : List Ob} {h : Hs} {d i : Nat} {o : Ob} (g : get (r :: h) d i = some o) : get ((r ++ x) :: h) d i = some o := by
  unfold get at g ⊢
  split at g
  · rename_i e
    rw [if_pos e, List.getElem?_append_left (List.getElem?_eq_some_iff.mp g).1]; exact g
  · rename_i e
    rw [if_neg e]; exact g
theorem HandAt.app {h : Hs} {d i d' i' : Nat} {r x : List Ob} (H : HandAt (r :: h) d i d' i') : HandAt ((r ++ x) :: h) d i d' i' := by
  obtain ⟨xs, a, b, c, e, h1, h2, h3, h4, h5⟩ := H
  exact ⟨xs, a, b, c, e, h1, h2, get_app h3, get_app h4, h5⟩
theorem HandAt.lt {h : Hs} {d i d' i' : Nat} (H : HandAt h d i d' i') : d < h.length := by
  obtain ⟨xs, a, b, c, e, h1, h2, h3, h4, h5⟩ := H
  exact get_lenZ h3
/-- a draw, by what it leaves -/
theorem draw_at {fds : List Fd} {f k : Nat} {h : Hs} {d i d' i' : Nat} (hf : fds[f]? = some drawFd) {m : Int} {P : Val → Hs → Prop} {X : Nat → List Val → Hs → Prop} (H : HandAt h d i d' i') (hm : 0 < m ∧ m < 1073741824)
    (q : ∀ r o, 0 ≤ r → r < m → HandAt (put h d i o) d i d' i' → P (.int r) (put h d i o)) : wp (callN fds (k + 1) f [.loc d i, .int m] h) P X := by
  obtain ⟨xs, a, b, c, e, h1, h2, h3, h4, h5⟩ := H
  rw [show h = put h d i (hnd d' i' a b c e) from (put_same h3).symm]
  exact draw_ok hf h3 h1 h2 h4 h5 hm fun r a b c e ha r0 r1 => q r _ r0 r1 ⟨xs, a, b, c, e, h1, h2, get_put_same h3, by rw [get_put_ne h2]; exact h4, ha⟩
/-- one of a list -/
theorem some_ok {fds : List Fd} {f g k : Nat} {h : Hs} {d i d' i' dt it : Nat} {ts : List Val} (hf : fds[f]? = some drawFd) (hg : fds[g]? = some (someFd f)) {P : Val → Hs → Prop} {X : Nat → List Val → Hs → Prop} (H : HandAt h d i d' i')
    (gt : get h dt it = some (.lst ts)) (ne : ¬ (dt = d ∧ it = i)) (hl : 0 < ts.length ∧ ts.length < 1073741824) (un : ∀ v ∈ ts, v.under h.length = true)
    (q : ∀ v o, v ∈ ts → HandAt (put h d i o) d i d' i' → P v (put h d i o)) : wp (callN fds (k + 2) g [.loc d i, .loc dt it] h) P X := by
  refine call_of (d := someFd f) hg rfl ?_
  obtain ⟨u, g0⟩ : ∃ u, get h d i = some u := by obtain ⟨xs, a, b, c, e, h1, h2, h3, h4, h5⟩ := H; exact ⟨_, h3⟩
  have gt' := get_up (r := []) gt
  simp only [↓w_cons, ↓w_nil, ↓w_ev, ↓w_fin, ↓w_some, ↓t_nx, ↓t_bk, ↓t_ct, ↓t_rt, ↓t_xc, ↓r_bnd, ↓r_ret, ↓r_ok, ↓r_ite, ↓w_ite, ↓r_guard, ↓r_alloc, ↓r_optM', ↓optP_some, ↓r_noExc, ↓r_exc, ↓e_var, ↓varP_some, ↓e_con, ↓e_bin, ↓e_cmp, ↓e_chain, ↓e_neg, ↓e_inv, ↓e_not, ↓e_and, ↓e_or, ↓v_and, ↓v_or, ↓e_ifx, ↓e_idx, ↓e_sl, ↓e_rev, ↓e_lst, ↓e_tup, ↓e_dict, ↓e_call, ↓e_bi, ↓e_me, ↓e_comp, ↓e_nil, ↓e_cons, ↓e_c0, ↓e_c1, ↓i_seq, ↓i_rng1, ↓i_rng2, ↓intP_int, ↓o_add, ↓o_sub, ↓o_mul, ↓o_fdiv, ↓o_mod, ↓o_pow, ↓o_addT, ↓c_eqI, ↓c_neI, ↓c_lt, ↓c_gt, ↓c_le, ↓c_ge, ↓n_int, ↓t_bl, ↓t_int, ↓x_tup, ↓b_lenT, ↓b_abs, ↓b_int, ↓b_tupT, ↓b_tupL, ↓b_list, ↓b_sorted, ↓b_lrg1, ↓b_trg1, ↓b_isi, ↓a_nil, ↓a_cons, ↓y_tup, ↓y_int, ↓y_bl, ↓y_non, ↓y_str, ↓it_tup, ↓sq_tup, ↓m_indexT, ↓k_tup, ↓ow_tup, ↓l_bl, ↓l_int, ↓l_non, ↓z_asg, ↓z_asgT, ↓z_par, ↓z_sub, ↓z_aug, ↓g_add, ↓g_sub, ↓z_ex, ↓z_ret, ↓z_if, ↓z_raise, ↓z_for, ↓z_while, ↓bt_nm, ↓bt_tp, ↓bts_n, ↓bts_c, ↓z_try, ↓tq_xc, ↓tq_nx, ↓tq_rt, ↓cq_nx, ↓cq_rt, ↓cq_xc, w_wipe0, w_wipe1, nth_0, nth_1, nth_2, nth_3, nth_4, startZ, endOf, List.map, List.length, List.replicate, List.cons_append, List.nil_append, List.append_nil, List.getElem?_cons_zero, List.getElem?_cons_succ, List.set_cons_zero, List.set_cons_succ, Nat.reduceAdd, Nat.reduceSub, Nat.reduceLT, Nat.zero_add, Nat.add_zero, Nat.sub_self, Int.reduceNeg, Int.reduceToNat, if_true, if_false, Bool.false_eq_true, Bool.not_true, Bool.not_false, Bool.and_true, Bool.true_and, Bool.and_false, Bool.false_and, and_true, true_and, Option.isSome_some, Bool.and_self, reduceIte, reduceCtorEq, decide_true, decide_false, decide_eq_true_eq, not_true_eq_false, not_false_eq_true, or_false, or_true, true_or, false_or, someFd, ↓b_lenL gt']
  refine draw_at hf H.up (by omega) fun r o r0 r1 H' => ?_
  have gt2 : get (put ([] :: h) d i o) dt it = some (.lst ts) := by rw [get_put_ne ne]; exact gt'
  have hr : r.toNat < ts.length := by omega
  rw [put_up g0] at *
  simp only [↓w_cons, ↓w_nil, ↓w_ev, ↓w_fin, ↓w_some, ↓t_nx, ↓t_bk, ↓t_ct, ↓t_rt, ↓t_xc, ↓r_bnd, ↓r_ret, ↓r_ok, ↓r_ite, ↓w_ite, ↓r_guard, ↓r_alloc, ↓r_optM', ↓optP_some, ↓r_noExc, ↓r_exc, ↓e_var, ↓varP_some, ↓e_con, ↓e_bin, ↓e_cmp, ↓e_chain, ↓e_neg, ↓e_inv, ↓e_not, ↓e_and, ↓e_or, ↓v_and, ↓v_or, ↓e_ifx, ↓e_idx, ↓e_sl, ↓e_rev, ↓e_lst, ↓e_tup, ↓e_dict, ↓e_call, ↓e_bi, ↓e_me, ↓e_comp, ↓e_nil, ↓e_cons, ↓e_c0, ↓e_c1, ↓i_seq, ↓i_rng1, ↓i_rng2, ↓intP_int, ↓o_add, ↓o_sub, ↓o_mul, ↓o_fdiv, ↓o_mod, ↓o_pow, ↓o_addT, ↓c_eqI, ↓c_neI, ↓c_lt, ↓c_gt, ↓c_le, ↓c_ge, ↓n_int, ↓t_bl, ↓t_int, ↓x_tup, ↓b_lenT, ↓b_abs, ↓b_int, ↓b_tupT, ↓b_tupL, ↓b_list, ↓b_sorted, ↓b_lrg1, ↓b_trg1, ↓b_isi, ↓a_nil, ↓a_cons, ↓y_tup, ↓y_int, ↓y_bl, ↓y_non, ↓y_str, ↓it_tup, ↓sq_tup, ↓m_indexT, ↓k_tup, ↓ow_tup, ↓l_bl, ↓l_int, ↓l_non, ↓z_asg, ↓z_asgT, ↓z_par, ↓z_sub, ↓z_aug, ↓g_add, ↓g_sub, ↓z_ex, ↓z_ret, ↓z_if, ↓z_raise, ↓z_for, ↓z_while, ↓bt_nm, ↓bt_tp, ↓bts_n, ↓bts_c, ↓z_try, ↓tq_xc, ↓tq_nx, ↓tq_rt, ↓cq_nx, ↓cq_rt, ↓cq_xc, w_wipe0, w_wipe1, nth_0, nth_1, nth_2, nth_3, nth_4, startZ, endOf, List.map, List.length, List.replicate, List.cons_append, List.nil_append, List.append_nil, List.getElem?_cons_zero, List.getElem?_cons_succ, List.set_cons_zero, List.set_cons_succ, Nat.reduceAdd, Nat.reduceSub, Nat.reduceLT, Nat.zero_add, Nat.add_zero, Nat.sub_self, Int.reduceNeg, Int.reduceToNat, if_true, if_false, Bool.false_eq_true, Bool.not_true, Bool.not_false, Bool.and_true, Bool.true_and, Bool.and_false, Bool.false_and, and_true, true_and, Option.isSome_some, Bool.and_self, reduceIte, reduceCtorEq, decide_true, decide_false, decide_eq_true_eq, not_true_eq_false, not_false_eq_true, or_false, or_true, true_or, false_or, ↓x_lst gt2, nth_int r0 r1, List.getElem?_eq_getElem hr, optP_some]
  rw [leave_drop (by rw [put_len]; exact un _ (List.getElem_mem hr))]
  exact q _ _ (List.getElem_mem hr) (H'.down (by rw [put_len]; exact H.lt))
theorem erase_perm {α : Type} : ∀ (l : List α) (i : Nat) (h : i < l.length), ([l[i]] ++ l.eraseIdx i).Perm l
  | [], _, h => absurd h (Nat.not_lt_zero _)
  | a :: l, 0, h => List.Perm.refl _
  | a :: l, i + 1, h => (List.Perm.swap a (l[i]'(Nat.lt_of_succ_lt_succ h)) (l.eraseIdx i)).trans ((erase_perm l i (Nat.lt_of_succ_lt_succ h)).cons a)
/-- a row mixed -/
theorem mixed_ok {fds : List Fd} {f g k : Nat} {r : List Ob} {h : Hs} {d i d' i' dt it : Nat} {ts : List Val} (hf : fds[f]? = some drawFd) (hg : fds[g]? = some (mixedFd f)) {P : Val → Hs → Prop} {X : Nat → List Val → Hs → Prop} (H : HandAt (r :: h) d i d' i')
    (gt : get (r :: h) dt it = some (.lst ts)) (hl : ts.length ≤ 1000000) (un : ∀ v ∈ ts, v.under (h.length + 1) = true)
    (q : ∀ us o r' h', us.Perm ts → put (r :: h) d i o = r' :: h' → h'.length = h.length → r'.length = r.length → HandAt (r' :: h') d i d' i' → P (.loc h.length (r'.length + 1)) ((r' ++ [.lst [], .lst us]) :: h')) : wp (callN fds (k + 2) g [.loc d i, .loc dt it] (r :: h)) P X := by
  refine call_of (d := mixedFd f) hg rfl ?_
  obtain ⟨u, gh⟩ : ∃ u, get (r :: h) d i = some u := by obtain ⟨xs, a, b, c, e, h1, h2, h3, h4, h5⟩ := H; exact ⟨_, h3⟩
  have gt' := get_up (r := []) gt
  simp only [↓w_cons, ↓w_nil, ↓w_ev, ↓w_fin, ↓w_some, ↓t_nx, ↓t_bk, ↓t_ct, ↓t_rt, ↓t_xc, ↓r_bnd, ↓r_ret, ↓r_ok, ↓r_ite, ↓w_ite, ↓r_guard, ↓r_alloc, ↓r_optM', ↓optP_some, ↓r_noExc, ↓r_exc, ↓e_var, ↓varP_some, ↓e_con, ↓e_bin, ↓e_cmp, ↓e_chain, ↓e_neg, ↓e_inv, ↓e_not, ↓e_and, ↓e_or, ↓v_and, ↓v_or, ↓e_ifx, ↓e_idx, ↓e_sl, ↓e_rev, ↓e_lst, ↓e_tup, ↓e_dict, ↓e_call, ↓e_bi, ↓e_me, ↓e_comp, ↓e_nil, ↓e_cons, ↓e_c0, ↓e_c1, ↓i_seq, ↓i_rng1, ↓i_rng2, ↓intP_int, ↓o_add, ↓o_sub, ↓o_mul, ↓o_fdiv, ↓o_mod, ↓o_pow, ↓o_addT, ↓c_eqI, ↓c_neI, ↓c_lt, ↓c_gt, ↓c_le, ↓c_ge, ↓n_int, ↓t_bl, ↓t_int, ↓x_tup, ↓b_lenT, ↓b_abs, ↓b_int, ↓b_tupT, ↓b_tupL, ↓b_list, ↓b_sorted, ↓b_lrg1, ↓b_trg1, ↓b_isi, ↓a_nil, ↓a_cons, ↓y_tup, ↓y_int, ↓y_bl, ↓y_non, ↓y_str, ↓it_tup, ↓sq_tup, ↓m_indexT, ↓k_tup, ↓ow_tup, ↓l_bl, ↓l_int, ↓l_non, ↓z_asg, ↓z_asgT, ↓z_par, ↓z_sub, ↓z_aug, ↓g_add, ↓g_sub, ↓z_ex, ↓z_ret, ↓z_if, ↓z_raise, ↓z_for, ↓z_while, ↓bt_nm, ↓bt_tp, ↓bts_n, ↓bts_c, ↓z_try, ↓tq_xc, ↓tq_nx, ↓tq_rt, ↓cq_nx, ↓cq_rt, ↓cq_xc, w_wipe0, w_wipe1, nth_0, nth_1, nth_2, nth_3, nth_4, startZ, endOf, List.map, List.length, List.replicate, List.cons_append, List.nil_append, List.append_nil, List.getElem?_cons_zero, List.getElem?_cons_succ, List.set_cons_zero, List.set_cons_succ, Nat.reduceAdd, Nat.reduceSub, Nat.reduceLT, Nat.zero_add, Nat.add_zero, Nat.sub_self, Int.reduceNeg, Int.reduceToNat, if_true, if_false, Bool.false_eq_true, Bool.not_true, Bool.not_false, Bool.and_true, Bool.true_and, Bool.and_false, Bool.false_and, and_true, true_and, Option.isSome_some, Bool.and_self, reduceIte, reduceCtorEq, decide_true, decide_false, decide_eq_true_eq, not_true_eq_false, not_false_eq_true, or_false, or_true, true_or, false_or, mixedFd, ↓it_lst gt']
  refine while_inv (fun n σ h1 => ∃ left found o, n = left.length ∧ (found ++ left).Perm ts ∧ σ = [some (.loc d i), some (.loc dt it), some (.loc (h.length + 1) 0), some (.loc (h.length + 1) 1)] ∧ h1 = [.lst left, .lst found] :: put (r :: h) d i o ∧ HandAt (put (r :: h) d i o) d i d' i') ts.length (by unfold WF; omega) ?_ ?_
  · refine ⟨ts, [], u, rfl, by simp, rfl, ?_, ?_⟩
    · rw [put_same gh]
    · rw [put_same gh]; exact H
  · rintro n σ h1 ⟨left, found, o, en, pm, es, eh, H1⟩
    subst es eh
    have el : ∀ {o : Ob}, (put (r :: h) d i o).length = h.length + 1 := by intro o; rw [put_len]; rfl
    have g0 : ∀ {x y : List Val} {o : Ob}, get ([.lst x, .lst y] :: put (r :: h) d i o) (h.length + 1) 0 = some (.lst x) := by intro x y o; rw [← el (o := o), get_top]; rfl
    have g1 : ∀ {x y : List Val} {o : Ob}, get ([.lst x, .lst y] :: put (r :: h) d i o) (h.length + 1) 1 = some (.lst y) := by intro x y o; rw [← el (o := o), get_top]; rfl
    have gs : ∃ u, get (r :: h) d i = some u := ⟨_, gh⟩
    simp only [↓w_cons, ↓w_nil, ↓w_ev, ↓w_fin, ↓w_some, ↓t_nx, ↓t_bk, ↓t_ct, ↓t_rt, ↓t_xc, ↓r_bnd, ↓r_ret, ↓r_ok, ↓r_ite, ↓w_ite, ↓r_guard, ↓r_alloc, ↓r_optM', ↓optP_some, ↓r_noExc, ↓r_exc, ↓e_var, ↓varP_some, ↓e_con, ↓e_bin, ↓e_cmp, ↓e_chain, ↓e_neg, ↓e_inv, ↓e_not, ↓e_and, ↓e_or, ↓v_and, ↓v_or, ↓e_ifx, ↓e_idx, ↓e_sl, ↓e_rev, ↓e_lst, ↓e_tup, ↓e_dict, ↓e_call, ↓e_bi, ↓e_me, ↓e_comp, ↓e_nil, ↓e_cons, ↓e_c0, ↓e_c1, ↓i_seq, ↓i_rng1, ↓i_rng2, ↓intP_int, ↓o_add, ↓o_sub, ↓o_mul, ↓o_fdiv, ↓o_mod, ↓o_pow, ↓o_addT, ↓c_eqI, ↓c_neI, ↓c_lt, ↓c_gt, ↓c_le, ↓c_ge, ↓n_int, ↓t_bl, ↓t_int, ↓x_tup, ↓b_lenT, ↓b_abs, ↓b_int, ↓b_tupT, ↓b_tupL, ↓b_list, ↓b_sorted, ↓b_lrg1, ↓b_trg1, ↓b_isi, ↓a_nil, ↓a_cons, ↓y_tup, ↓y_int, ↓y_bl, ↓y_non, ↓y_str, ↓it_tup, ↓sq_tup, ↓m_indexT, ↓k_tup, ↓ow_tup, ↓l_bl, ↓l_int, ↓l_non, ↓z_asg, ↓z_asgT, ↓z_par, ↓z_sub, ↓z_aug, ↓g_add, ↓g_sub, ↓z_ex, ↓z_ret, ↓z_if, ↓z_raise, ↓z_for, ↓z_while, ↓bt_nm, ↓bt_tp, ↓bts_n, ↓bts_c, ↓z_try, ↓tq_xc, ↓tq_nx, ↓tq_rt, ↓cq_nx, ↓cq_rt, ↓cq_xc, w_wipe0, w_wipe1, nth_0, nth_1, nth_2, nth_3, nth_4, startZ, endOf, List.map, List.length, List.replicate, List.cons_append, List.nil_append, List.append_nil, List.getElem?_cons_zero, List.getElem?_cons_succ, List.set_cons_zero, List.set_cons_succ, Nat.reduceAdd, Nat.reduceSub, Nat.reduceLT, Nat.zero_add, Nat.add_zero, Nat.sub_self, Int.reduceNeg, Int.reduceToNat, if_true, if_false, Bool.false_eq_true, Bool.not_true, Bool.not_false, Bool.and_true, Bool.true_and, Bool.and_false, Bool.false_and, and_true, true_and, Option.isSome_some, Bool.and_self, reduceIte, reduceCtorEq, decide_true, decide_false, decide_eq_true_eq, not_true_eq_false, not_false_eq_true, or_false, or_true, true_or, false_or, mixedFd, ↓b_lenL g0, ↓k_lst g0, ↓k_lst g1, supp]
    split
    · rename_i hp
      have hle : left.length ≤ ts.length := by
        have := pm.length_eq
        simp at this; omega
      refine draw_at hf H1.up (by omega) fun j o' r0 r1 H' => ?_
      rw [put_up (get_put_same gh), put_put] at H' ⊢
      have hr : j.toNat < left.length := by omega
      have ul : ∀ v ∈ left, v.under (h.length + 1) = true := fun v m => un v (pm.subset (by simp [m]))
      have uf : ∀ v ∈ found, v.under (h.length + 1) = true := fun v m => un v (pm.subset (by simp [m]))
      rw [m_popAt g0 r0 r1 (List.getElem?_eq_getElem hr)]
      have p0 : ∀ {x y z : List Val} {o : Ob}, put ([.lst x, .lst y] :: put (r :: h) d i o) (h.length + 1) 0 (.lst z) = [.lst z, .lst y] :: put (r :: h) d i o := by intro x y z o; rw [← el (o := o), put_top]; rfl
      have p1 : ∀ {x y z : List Val} {o : Ob}, put ([.lst x, .lst y] :: put (r :: h) d i o) (h.length + 1) 1 (.lst z) = [.lst x, .lst z] :: put (r :: h) d i o := by intro x y z o; rw [← el (o := o), put_top]; rfl
      rw [p0, m_append g1, p1]
      have hfl : found.length ≤ ts.length := by
        have := pm.length_eq
        simp at this; omega
      refine ⟨lst_ok fun v m => ul v (List.mem_of_mem_eraseIdx m), by unfold SL; omega, lst_ok fun v m => ?_, left.length - 1, by omega, left.eraseIdx j.toNat, found ++ [left[j.toNat]], o', by rw [List.length_eraseIdx, if_pos hr], ?_, rfl, H'.down (by have := H.lt; rw [put_len]; exact this)⟩
      · rcases List.mem_append.mp m with m | m
        · exact uf v m
        · rw [List.mem_singleton.mp m]; exact ul _ (List.getElem_mem hr)
      · refine List.Perm.trans ?_ pm
        rw [List.append_assoc]
        refine List.Perm.append_left found ?_
        exact erase_perm left _ hr
    · rename_i hp
      have hn : left = [] := List.eq_nil_of_length_eq_zero (by omega)
      subst hn
      obtain ⟨r', h', e1, e2, e3⟩ : ∃ r' h', put (r :: h) d i o = r' :: h' ∧ h'.length = h.length ∧ r'.length = r.length := by
        unfold put
        split
        · exact ⟨_, _, rfl, rfl, by simp⟩
        · exact ⟨_, _, rfl, put_len, rfl⟩
      rw [e1] at H1 ⊢
      rw [List.append_nil] at pm
      have := q found o r' h' pm e1 e2 e3 H1
      show P (shiftV (List.length (r' :: h')) r'.length (.loc (h.length + 1) 1)) ((r' ++ List.map (shiftO (List.length (r' :: h')) r'.length) [.lst [], .lst found]) :: h')
      have es : shiftVs (List.length (r' :: h')) r'.length found = found := all_shift _ fun v m => by
        rw [List.length_cons, e2]; exact un v (pm.subset m)
      have ev : shiftV (List.length (r' :: h')) r'.length (.loc (h.length + 1) 1) = .loc h.length (r'.length + 1) := by
        unfold shiftV
        rw [List.length_cons, e2, if_pos rfl]; rfl
      rw [ev]
      show P _ ((r' ++ [.lst [], .lst (shiftVs (List.length (r' :: h')) r'.length found)]) :: h')
      rw [es]
      exact this
/-- a hand made of a script -/
theorem hand_ok {fds : List Fd} {f k : Nat} {r : List Ob} {h : Hs} {dt it : Nat} {ns : List Int} (hf : fds[f]? = some handFd) {P : Val → Hs → Prop} {X : Nat → List Val → Hs → Prop}
    (gt : get (r :: h) dt it = some (.ro (ns.map Val.int))) (hl : ns.length ≤ 63) 
    (q : ∀ x, HandAt ((r ++ x) :: h) h.length (r.length + 2) h.length (r.length + 1) → P (.loc h.length (r.length + 2)) ((r ++ x) :: h)) : wp (callN fds (k + 1) f [.loc dt it] (r :: h)) P X := by
  refine call_of (d := handFd) hf rfl ?_
  have gt' := get_up (r := []) gt
  simp only [↓w_cons, ↓w_nil, ↓w_ev, ↓w_fin, ↓w_some, ↓t_nx, ↓t_bk, ↓t_ct, ↓t_rt, ↓t_xc, ↓r_bnd, ↓r_ret, ↓r_ok, ↓r_ite, ↓w_ite, ↓r_guard, ↓r_alloc, ↓r_optM', ↓optP_some, ↓r_noExc, ↓r_exc, ↓e_var, ↓varP_some, ↓e_con, ↓e_bin, ↓e_cmp, ↓e_chain, ↓e_neg, ↓e_inv, ↓e_not, ↓e_and, ↓e_or, ↓v_and, ↓v_or, ↓e_ifx, ↓e_idx, ↓e_sl, ↓e_rev, ↓e_lst, ↓e_tup, ↓e_dict, ↓e_call, ↓e_bi, ↓e_me, ↓e_comp, ↓e_nil, ↓e_cons, ↓e_c0, ↓e_c1, ↓i_seq, ↓i_rng1, ↓i_rng2, ↓intP_int, ↓o_add, ↓o_sub, ↓o_mul, ↓o_fdiv, ↓o_mod, ↓o_pow, ↓o_addT, ↓c_eqI, ↓c_neI, ↓c_lt, ↓c_gt, ↓c_le, ↓c_ge, ↓n_int, ↓t_bl, ↓t_int, ↓x_tup, ↓b_lenT, ↓b_abs, ↓b_int, ↓b_tupT, ↓b_tupL, ↓b_list, ↓b_sorted, ↓b_lrg1, ↓b_trg1, ↓b_isi, ↓a_nil, ↓a_cons, ↓y_tup, ↓y_int, ↓y_bl, ↓y_non, ↓y_str, ↓it_tup, ↓sq_tup, ↓m_indexT, ↓k_tup, ↓ow_tup, ↓l_bl, ↓l_int, ↓l_non, ↓z_asg, ↓z_asgT, ↓z_par, ↓z_sub, ↓z_aug, ↓g_add, ↓g_sub, ↓z_ex, ↓z_ret, ↓z_if, ↓z_raise, ↓z_for, ↓z_while, ↓bt_nm, ↓bt_tp, ↓bts_n, ↓bts_c, ↓z_try, ↓tq_xc, ↓tq_nx, ↓tq_rt, ↓cq_nx, ↓cq_rt, ↓cq_xc, w_wipe0, w_wipe1, nth_0, nth_1, nth_2, nth_3, nth_4, startZ, endOf, List.map, List.length, List.replicate, List.cons_append, List.nil_append, List.append_nil, List.getElem?_cons_zero, List.getElem?_cons_succ, List.set_cons_zero, List.set_cons_succ, Nat.reduceAdd, Nat.reduceSub, Nat.reduceLT, Nat.zero_add, Nat.add_zero, Nat.sub_self, Int.reduceNeg, Int.reduceToNat, if_true, if_false, Bool.false_eq_true, Bool.not_true, Bool.not_false, Bool.and_true, Bool.true_and, Bool.and_false, Bool.false_and, and_true, true_and, Option.isSome_some, Bool.and_self, reduceIte, reduceCtorEq, decide_true, decide_false, decide_eq_true_eq, not_true_eq_false, not_false_eq_true, or_false, or_true, true_or, false_or, handFd]
  show wp (sliceP (.loc dt it) none (some 63) ([] :: r :: h)) _ _
  show wp (bnd (rd (.loc dt it)) _ _) _ _
  rw [r_bnd, r_rd', gt', optP_some]
  have ec : cut (ns.map Val.int) none (some 63) = (cut ns none (some 63)).map Val.int := by
    unfold cut
    rw [← List.map_drop, ← List.map_take, List.length_map]
  have hc : (cut ns none (some 63)).length ≤ 63 := by
    unfold cut
    rw [List.length_take, List.length_drop]; omega
  show wp (alloc (.lst (cut (ns.map Val.int) none (some 63))) ([] :: r :: h)) _ _
  rw [ec]
  generalize cut ns none (some 63) = ms at *
  have g0 : ∀ {x : List Ob}, get ((Ob.lst (ms.map Val.int) :: x) :: r :: h) (h.length + 1) 0 = some (.lst (ms.map Val.int)) := by intro x; exact get_top (h := r :: h)
  simp only [↓w_cons, ↓w_nil, ↓w_ev, ↓w_fin, ↓w_some, ↓t_nx, ↓t_bk, ↓t_ct, ↓t_rt, ↓t_xc, ↓r_bnd, ↓r_ret, ↓r_ok, ↓r_ite, ↓w_ite, ↓r_guard, ↓r_alloc, ↓r_optM', ↓optP_some, ↓r_noExc, ↓r_exc, ↓e_var, ↓varP_some, ↓e_con, ↓e_bin, ↓e_cmp, ↓e_chain, ↓e_neg, ↓e_inv, ↓e_not, ↓e_and, ↓e_or, ↓v_and, ↓v_or, ↓e_ifx, ↓e_idx, ↓e_sl, ↓e_rev, ↓e_lst, ↓e_tup, ↓e_dict, ↓e_call, ↓e_bi, ↓e_me, ↓e_comp, ↓e_nil, ↓e_cons, ↓e_c0, ↓e_c1, ↓i_seq, ↓i_rng1, ↓i_rng2, ↓intP_int, ↓o_add, ↓o_sub, ↓o_mul, ↓o_fdiv, ↓o_mod, ↓o_pow, ↓o_addT, ↓c_eqI, ↓c_neI, ↓c_lt, ↓c_gt, ↓c_le, ↓c_ge, ↓n_int, ↓t_bl, ↓t_int, ↓x_tup, ↓b_lenT, ↓b_abs, ↓b_int, ↓b_tupT, ↓b_tupL, ↓b_list, ↓b_sorted, ↓b_lrg1, ↓b_trg1, ↓b_isi, ↓a_nil, ↓a_cons, ↓y_tup, ↓y_int, ↓y_bl, ↓y_non, ↓y_str, ↓it_tup, ↓sq_tup, ↓m_indexT, ↓k_tup, ↓ow_tup, ↓l_bl, ↓l_int, ↓l_non, ↓z_asg, ↓z_asgT, ↓z_par, ↓z_sub, ↓z_aug, ↓g_add, ↓g_sub, ↓z_ex, ↓z_ret, ↓z_if, ↓z_raise, ↓z_for, ↓z_while, ↓bt_nm, ↓bt_tp, ↓bts_n, ↓bts_c, ↓z_try, ↓tq_xc, ↓tq_nx, ↓tq_rt, ↓cq_nx, ↓cq_rt, ↓cq_xc, w_wipe0, w_wipe1, nth_0, nth_1, nth_2, nth_3, nth_4, startZ, endOf, List.map, List.length, List.replicate, List.cons_append, List.nil_append, List.append_nil, List.getElem?_cons_zero, List.getElem?_cons_succ, List.set_cons_zero, List.set_cons_succ, Nat.reduceAdd, Nat.reduceSub, Nat.reduceLT, Nat.zero_add, Nat.add_zero, Nat.sub_self, Int.reduceNeg, Int.reduceToNat, if_true, if_false, Bool.false_eq_true, Bool.not_true, Bool.not_false, Bool.and_true, Bool.true_and, Bool.and_false, Bool.false_and, and_true, true_and, Option.isSome_some, Bool.and_self, reduceIte, reduceCtorEq, decide_true, decide_false, decide_eq_true_eq, not_true_eq_false, not_false_eq_true, or_false, or_true, true_or, false_or, handFd, ↓sq_lst g0]
  refine walk_each Val.int ms (fun n => .int (if n < 0 then -n else n)) (st_one g0) (fun n _ => ?_) ?_
  · simp only [↓w_cons, ↓w_nil, ↓w_ev, ↓w_fin, ↓w_some, ↓t_nx, ↓t_bk, ↓t_ct, ↓t_rt, ↓t_xc, ↓r_bnd, ↓r_ret, ↓r_ok, ↓r_ite, ↓w_ite, ↓r_guard, ↓r_alloc, ↓r_optM', ↓optP_some, ↓r_noExc, ↓r_exc, ↓e_var, ↓varP_some, ↓e_con, ↓e_bin, ↓e_cmp, ↓e_chain, ↓e_neg, ↓e_inv, ↓e_not, ↓e_and, ↓e_or, ↓v_and, ↓v_or, ↓e_ifx, ↓e_idx, ↓e_sl, ↓e_rev, ↓e_lst, ↓e_tup, ↓e_dict, ↓e_call, ↓e_bi, ↓e_me, ↓e_comp, ↓e_nil, ↓e_cons, ↓e_c0, ↓e_c1, ↓i_seq, ↓i_rng1, ↓i_rng2, ↓intP_int, ↓o_add, ↓o_sub, ↓o_mul, ↓o_fdiv, ↓o_mod, ↓o_pow, ↓o_addT, ↓c_eqI, ↓c_neI, ↓c_lt, ↓c_gt, ↓c_le, ↓c_ge, ↓n_int, ↓t_bl, ↓t_int, ↓x_tup, ↓b_lenT, ↓b_abs, ↓b_int, ↓b_tupT, ↓b_tupL, ↓b_list, ↓b_sorted, ↓b_lrg1, ↓b_trg1, ↓b_isi, ↓a_nil, ↓a_cons, ↓y_tup, ↓y_int, ↓y_bl, ↓y_non, ↓y_str, ↓it_tup, ↓sq_tup, ↓m_indexT, ↓k_tup, ↓ow_tup, ↓l_bl, ↓l_int, ↓l_non, ↓z_asg, ↓z_asgT, ↓z_par, ↓z_sub, ↓z_aug, ↓g_add, ↓g_sub, ↓z_ex, ↓z_ret, ↓z_if, ↓z_raise, ↓z_for, ↓z_while, ↓bt_nm, ↓bt_tp, ↓bts_n, ↓bts_c, ↓z_try, ↓tq_xc, ↓tq_nx, ↓tq_rt, ↓cq_nx, ↓cq_rt, ↓cq_xc, w_wipe0, w_wipe1, nth_0, nth_1, nth_2, nth_3, nth_4, startZ, endOf, List.map, List.length, List.replicate, List.cons_append, List.nil_append, List.append_nil, List.getElem?_cons_zero, List.getElem?_cons_succ, List.set_cons_zero, List.set_cons_succ, Nat.reduceAdd, Nat.reduceSub, Nat.reduceLT, Nat.zero_add, Nat.add_zero, Nat.sub_self, Int.reduceNeg, Int.reduceToNat, if_true, if_false, Bool.false_eq_true, Bool.not_true, Bool.not_false, Bool.and_true, Bool.true_and, Bool.and_false, Bool.false_and, and_true, true_and, Option.isSome_some, Bool.and_self, reduceIte, reduceCtorEq, decide_true, decide_false, decide_eq_true_eq, not_true_eq_false, not_false_eq_true, or_false, or_true, true_or, false_or]
  refine ⟨by rw [List.length_map]; unfold SL; omega, ?_⟩
  rw [show ms.map (fun n => Val.int (if n < 0 then -n else n)) = (ms.map fun n => if n < 0 then -n else n).map Val.int by rw [List.map_map]; rfl]
  generalize ms.map (fun n => if n < 0 then -n else n) = cs
  have g1 : ∀ {x : List Ob} {o : Ob}, get ((o :: Ob.lst (cs.map Val.int) :: x) :: r :: h) (h.length + 1) 1 = some (.lst (cs.map Val.int)) := by intro x o; exact get_top (h := r :: h)
  simp only [↓w_cons, ↓w_nil, ↓w_ev, ↓w_fin, ↓w_some, ↓t_nx, ↓t_bk, ↓t_ct, ↓t_rt, ↓t_xc, ↓r_bnd, ↓r_ret, ↓r_ok, ↓r_ite, ↓w_ite, ↓r_guard, ↓r_alloc, ↓r_optM', ↓optP_some, ↓r_noExc, ↓r_exc, ↓e_var, ↓varP_some, ↓e_con, ↓e_bin, ↓e_cmp, ↓e_chain, ↓e_neg, ↓e_inv, ↓e_not, ↓e_and, ↓e_or, ↓v_and, ↓v_or, ↓e_ifx, ↓e_idx, ↓e_sl, ↓e_rev, ↓e_lst, ↓e_tup, ↓e_dict, ↓e_call, ↓e_bi, ↓e_me, ↓e_comp, ↓e_nil, ↓e_cons, ↓e_c0, ↓e_c1, ↓i_seq, ↓i_rng1, ↓i_rng2, ↓intP_int, ↓o_add, ↓o_sub, ↓o_mul, ↓o_fdiv, ↓o_mod, ↓o_pow, ↓o_addT, ↓c_eqI, ↓c_neI, ↓c_lt, ↓c_gt, ↓c_le, ↓c_ge, ↓n_int, ↓t_bl, ↓t_int, ↓x_tup, ↓b_lenT, ↓b_abs, ↓b_int, ↓b_tupT, ↓b_tupL, ↓b_list, ↓b_sorted, ↓b_lrg1, ↓b_trg1, ↓b_isi, ↓a_nil, ↓a_cons, ↓y_tup, ↓y_int, ↓y_bl, ↓y_non, ↓y_str, ↓it_tup, ↓sq_tup, ↓m_indexT, ↓k_tup, ↓ow_tup, ↓l_bl, ↓l_int, ↓l_non, ↓z_asg, ↓z_asgT, ↓z_par, ↓z_sub, ↓z_aug, ↓g_add, ↓g_sub, ↓z_ex, ↓z_ret, ↓z_if, ↓z_raise, ↓z_for, ↓z_while, ↓bt_nm, ↓bt_tp, ↓bts_n, ↓bts_c, ↓z_try, ↓tq_xc, ↓tq_nx, ↓tq_rt, ↓cq_nx, ↓cq_rt, ↓cq_xc, w_wipe0, w_wipe1, nth_0, nth_1, nth_2, nth_3, nth_4, startZ, endOf, List.map, List.length, List.replicate, List.cons_append, List.nil_append, List.append_nil, List.getElem?_cons_zero, List.getElem?_cons_succ, List.set_cons_zero, List.set_cons_succ, Nat.reduceAdd, Nat.reduceSub, Nat.reduceLT, Nat.zero_add, Nat.add_zero, Nat.sub_self, Int.reduceNeg, Int.reduceToNat, if_true, if_false, Bool.false_eq_true, Bool.not_true, Bool.not_false, Bool.and_true, Bool.true_and, Bool.and_false, Bool.false_and, and_true, true_and, Option.isSome_some, Bool.and_self, reduceIte, reduceCtorEq, decide_true, decide_false, decide_eq_true_eq, not_true_eq_false, not_false_eq_true, or_false, or_true, true_or, false_or, ↓b_lenL g1]
  refine ⟨lim_1 (by decide), ?_⟩
  have s0 : ∀ is : List Int, shiftVs (h.length + 1) r.length (is.map Val.int) = is.map Val.int := fun is => all_shift _ fun v m => by
    obtain ⟨n, _, e⟩ := List.mem_map.mp m
    subst e; rfl
  have s1 : ∀ i, shiftV (h.length + 1) r.length (.loc (h.length + 1) i) = .loc h.length (r.length + i) := fun i => by
    unfold shiftV; rw [if_pos rfl]; rfl
  show P (shiftV (h.length + 1) r.length _) ((r ++ [.lst (shiftVs (h.length + 1) r.length _), .lst (shiftVs (h.length + 1) r.length _), .lst (shiftVs (h.length + 1) r.length _)]) :: h)
  rw [s0, s0, s1]
  refine q _ ⟨cs, 0, 0, 31 + 7 * (cs.map Val.int).length, 0, Nat.le_refl _, by omega, ?_, ?_, by omega⟩
  · rw [get_top, List.getElem?_append_right (by omega)]
    show ([_, _, _] : List Ob)[r.length + 2 - r.length]? = _
    rw [show r.length + 2 - r.length = 2 by omega]
    show some (Ob.lst [shiftV (h.length + 1) r.length (.loc (h.length + 1) 1), _, _, _, _]) = _
    rw [s1]; rfl
  · rw [get_top, List.getElem?_append_right (by omega), show r.length + 1 - r.length = 1 by omega]; rfl
theorem HandAt.top {r : List Ob} {h : Hs} {i d' i' : Nat} (H : HandAt (r :: h) h.length i d' i') : i < r.length := by
  obtain ⟨xs, a, b, c, e, h1, h2, h3, h4, h5⟩ := H
  rw [get_top] at h3
  exact (List.getElem?_eq_some_iff.mp h3).1
theorem HandAt.other {h : Hs} {d i d' i' e j : Nat} {o : Ob} (H : HandAt h d i d' i') (n1 : ¬ (e = d ∧ j = i)) (n2 : ¬ (e = d' ∧ j = i')) : HandAt (put h e j o) d i d' i' := by
  obtain ⟨xs, a, b, c, e, h1, h2, h3, h4, h5⟩ := H
  exact ⟨xs, a, b, c, e, h1, h2, by rw [get_put_ne fun z => n1 ⟨z.1.symm, z.2.symm⟩]; exact h3, by rw [get_put_ne fun z => n2 ⟨z.1.symm, z.2.symm⟩]; exact h4, h5⟩
end Z
namespace K19
open PySem PySem.Spec PyProof.Rows L2 Z
def topS (i : Nat) : Stmt := PySem.Challenge.pw_arrowsgoon_k19_longest_falling_rows.main.body.getD i (.Pass ⟨0, 0, 0, 0⟩)
def B_is_integer : Fd := { np := 1, n := 1, mode := .drop, body := [(.ret (.and (.bi (.isinst [.int]) [(.var 0)]) (.not (.bi (.isinst [.bool]) [(.var 0)]))))] }
def dB_is_integer : Df := ⟨"is_integer", topS 5, ["thing"], ["thing"], B_is_integer⟩
def B_is_between : Fd := { np := 3, n := 3, mode := .drop, body := [(.ret (.and (.call 0 [(.var 0)]) (.chain .le .le (.var 1) (.var 0) (.var 2))))] }
def dB_is_between : Df := ⟨"is_between", topS 6, ["thing", "least", "greatest"], ["thing", "least", "greatest"], B_is_between⟩
def B_is_order : Fd := { np := 2, n := 3, mode := .drop, body := [(.iff (.or (.not (.bi (.isinst [.tuple]) [(.var 0)])) (.not (.bi .all [(.comp (.call 1 [(.var 2), (.con (.int 0)), (.bin .sub (.var 1) (.con (.int 1)))]) (.nm 2) (.seq (.var 0)) [] [2])]))) [(.ret (.con (.bl false)))] []), (.ret (.cmp .eq (.bi .sorted [(.var 0)]) (.bi .listRange [(.var 1)])))] }
def dB_is_order : Df := ⟨"is_order", topS 7, ["thing", "many", "corner"], ["thing", "many"], B_is_order⟩
def B_longest_falling : Fd := { np := 1, n := 7, mode := .drop, body := [(.iff (.or (.not (.bi (.isinst [.tuple]) [(.var 0)])) (.or (.not (.chain .le .le (.con (.int 1)) (.bi .len [(.var 0)]) (.con (.int 24)))) (.not (.call 2 [(.var 0), (.bi .len [(.var 0)])])))) [(.raise 1 [])] []), (.asg (.nm 1) (.lst [])), (.asg (.nm 2) (.dctK [] [])), (.for_ (.nm 3) (.seq (.var 0)) [(.asg (.nm 4) (.con (.int 0))), (.while_ (.and (.cmp .lt (.var 4) (.bi .len [(.var 1)])) (.cmp .gt (.idx (.idx (.var 1) (.var 4)) (.neg (.con (.int 1)))) (.var 3))) [(.aug 4 .add (.con (.int 1)))]), (.sub (.var 2) (.var 3) (.ifx (.cmp .gt (.var 4) (.con (.int 0))) (.idx (.idx (.var 1) (.bin .sub (.var 4) (.con (.int 1)))) (.neg (.con (.int 1)))) (.con .non))), (.iff (.cmp .eq (.var 4) (.bi .len [(.var 1)])) [(.ex (.me .append (.var 1) [(.lst [])]))] []), (.ex (.me .append (.idx (.var 1) (.var 4)) [(.var 3)]))]), (.asg (.nm 5) (.lst [(.idx (.idx (.var 1) (.neg (.con (.int 1)))) (.neg (.con (.int 1))))])), (.while_ (.cmp .isnot (.idx (.var 2) (.idx (.var 5) (.neg (.con (.int 1))))) (.con .non)) [(.ex (.me .append (.var 5) [(.idx (.var 2) (.idx (.var 5) (.neg (.con (.int 1)))))]))]), (.ret (.tup [(.bi .tuple [(.rev (.var 5))]), (.bi .tuple [(.comp (.bi .tuple [(.var 6)]) (.nm 6) (.seq (.var 1)) [] [6])])]))] }
def dB_longest_falling : Df := ⟨"longest_falling", topS 9, ["order", "heaps", "came", "number", "at", "row", "heap"], ["order"], B_longest_falling⟩
def Blaw_hand : Fd := { np := 1, n := 3, mode := .keep, body := [(.asg (.nm 1) (.comp (.bi .abs [(.bi .int [(.var 2)])]) (.nm 2) (.seq (.sl (.var 0) (.con .non) (.con (.int 63)))) [] [2])), (.ret (.lst [(.var 1), (.con (.int 0)), (.con (.int 0)), (.bin .add (.con (.int 31)) (.bin .mul (.con (.int 7)) (.bi .len [(.var 1)]))), (.con (.int 0))]))] }
def dBlaw_hand : Df := ⟨"_law_hand", topS 11, ["script", "cells", "cell"], ["script"], Blaw_hand⟩
def Blaw_draw : Fd := { np := 2, n := 5, mode := .drop, body := [(.iff (.and (.cmp .eq (.idx (.var 0) (.con (.int 2))) (.con (.int 0))) (.cmp .lt (.idx (.var 0) (.con (.int 1))) (.bi .len [(.idx (.var 0) (.con (.int 0)))]))) [(.asg (.nm 2) (.idx (.idx (.var 0) (.con (.int 0))) (.idx (.var 0) (.con (.int 1))))), (.sub (.var 0) (.con (.int 1)) (.bin .add (.idx (.var 0) (.con (.int 1))) (.con (.int 1)))), (.sub (.var 0) (.con (.int 3)) (.bin .mod (.bi .int [(.bin .add (.bin .add (.bin .mul (.idx (.var 0) (.con (.int 3))) (.con (.int 48271))) (.var 2)) (.con (.int 11)))]) (.con (.int 2147483647)))), (.iff (.cmp .ge (.var 2) (.bin .pow (.con (.int 10)) (.con (.int 18)))) [(.sub (.var 0) (.con (.int 2)) (.var 2))] [])] []), (.iff (.cmp .gt (.idx (.var 0) (.con (.int 2))) (.con (.int 0))) [(.asg (.nm 3) (.bin .mod (.bi .int [(.idx (.var 0) (.con (.int 2)))]) (.var 1))), (.sub (.var 0) (.con (.int 2)) (.bin .fdiv (.idx (.var 0) (.con (.int 2))) (.var 1))), (.ret (.var 3))] []), (.sub (.var 0) (.con (.int 4)) (.bin .add (.idx (.var 0) (.con (.int 4))) (.con (.int 1)))), (.asg (.nm 4) (.bin .mod (.bi .int [(.bin .mul (.bi .int [(.bin .add (.idx (.var 0) (.con (.int 3))) (.bin .mul (.con (.int 6007)) (.idx (.var 0) (.con (.int 4)))))]) (.con (.int 69621)))]) (.con (.int 2147483629)))), (.asg (.nm 4) (.bin .mod (.bi .int [(.bin .mul (.var 4) (.bin .add (.bin .fdiv (.var 4) (.con (.int 1013))) (.con (.int 48271))))]) (.con (.int 2147483647)))), (.asg (.nm 4) (.bin .mod (.bi .int [(.bin .mul (.var 4) (.bin .add (.bin .fdiv (.var 4) (.con (.int 2011))) (.con (.int 16807))))]) (.con (.int 2147483587)))), (.ret (.bin .mod (.bi .int [(.bin .fdiv (.var 4) (.con (.int 32)))]) (.var 1)))] }
def dBlaw_draw : Df := ⟨"_law_draw", topS 12, ["hand", "many", "cell", "digit", "number"], ["hand", "many"], Blaw_draw⟩
def Blaw_some : Fd := { np := 2, n := 2, mode := .drop, body := [(.ret (.idx (.var 1) (.call 5 [(.var 0), (.bi .len [(.var 1)])])))] }
def dBlaw_some : Df := ⟨"_law_some", topS 13, ["hand", "things"], ["hand", "things"], Blaw_some⟩
def Blaw_mixed : Fd := { np := 2, n := 4, mode := .keep, body := [(.par 2 3 (.bi .list [(.var 1)]) (.lst [])), (.while_ (.cmp .gt (.bi .len [(.var 2)]) (.con (.int 0))) [(.ex (.me .append (.var 3) [(.me .pop (.var 2) [(.call 5 [(.var 0), (.bi .len [(.var 2)])])])]))]), (.ret (.var 3))] }
def dBlaw_mixed : Df := ⟨"_law_mixed", topS 14, ["hand", "things", "left", "found"], ["hand", "things"], Blaw_mixed⟩
def Blaw_best : Fd := { np := 1, n := 4, mode := .drop, body := [(.asg (.nm 1) (.lst [])), (.for_ (.nm 2) (.rng1 (.bi .len [(.var 0)])) [(.ex (.me .append (.var 1) [(.bin .add (.con (.int 1)) (.bi .max [(.bin .add (.lst [(.con (.int 0))]) (.comp (.idx (.var 1) (.var 3)) (.nm 3) (.rng1 (.var 2)) [(.cmp .gt (.idx (.var 0) (.var 3)) (.idx (.var 0) (.var 2)))] [3]))]))]))]), (.ret (.bi .max [(.var 1)]))] }
def dBlaw_best : Df := ⟨"_law_best", topS 15, ["order", "sizes", "at", "place"], ["order"], Blaw_best⟩
def B_law : Fd := { np := 1, n := 13, mode := .drop, body := [(.asg (.nm 1) (.call 4 [(.var 0)])), (.for_ (.nm 2) (.rng1 (.con (.int 10))) [(.asg (.nm 3) (.bi .tuple [(.call 7 [(.var 1), (.bi .listRange [(.bin .add (.con (.int 1)) (.call 5 [(.var 1), (.idx (.lst [(.con (.int 9)), (.con (.int 20))]) (.call 5 [(.var 1), (.con (.int 2))]))]))])])])), (.asg (.nm 4) (.call 3 [(.var 3)])), (.iff (.or (.not (.bi (.isinst [.tuple]) [(.var 4)])) (.or (.cmp .ne (.bi .len [(.var 4)]) (.con (.int 2))) (.or (.not (.bi (.isinst [.tuple]) [(.idx (.var 4) (.con (.int 0)))])) (.not (.bi (.isinst [.tuple]) [(.idx (.var 4) (.con (.int 1)))]))))) [(.ret (.con (.bl false)))] []), (.asg (.tp [(.nm 5), (.nm 6)]) (.var 4)), (.asg (.nm 7) (.comp (.me .index (.var 3) [(.var 11)]) (.nm 11) (.seq (.var 5)) [] [11])), (.iff (.or (.cmp .ne (.var 7) (.bi .sortedSet [(.var 7)])) (.or (.bi .any [(.comp (.cmp .le (.idx (.var 5) (.bin .sub (.var 12) (.con (.int 1)))) (.idx (.var 5) (.var 12))) (.nm 12) (.rng2 (.con (.int 1)) (.bi .len [(.var 5)])) [] [12])]) (.cmp .ne (.bi .len [(.var 5)]) (.call 8 [(.var 3)])))) [(.ret (.con (.bl false)))] []), (.asg (.nm 8) (.lst [])), (.for_ (.nm 9) (.seq (.var 6)) [(.asg (.nm 10) (.comp (.me .index (.var 3) [(.var 11)]) (.nm 11) (.seq (.var 9)) [] [11])), (.iff (.or (.not (.bi (.isinst [.tuple]) [(.var 9)])) (.or (.cmp .ne (.var 10) (.bi .sortedSet [(.var 10)])) (.cmp .ne (.bi .list [(.var 9)]) (.bi .sorted [(.var 9)])))) [(.ret (.con (.bl false)))] []), (.ex (.me .extend (.var 8) [(.var 9)]))]), (.iff (.or (.cmp .ne (.bi .sorted [(.var 8)]) (.bi .listRange [(.bi .len [(.var 3)])])) (.cmp .ne (.bi .len [(.var 6)]) (.bi .len [(.var 5)]))) [(.ret (.con (.bl false)))] []), (.try_ [(.ex (.call 3 [(.call 6 [(.var 1), (.lst [(.con .non), (.tup []), (.bi .list [(.var 3)]), (.bin .add (.var 3) (.tup [(.con (.int 0))])), (.tup [(.con (.int 1))]), (.con (.str (Str.ofString "0"))), (.bi .tupleRange [(.con (.int 25))]), (.tup [(.con (.bl true)), (.con (.bl false))])])])])), (.ret (.con (.bl false)))] [([1], [(.asg (.nm 8) (.lst []))])])]), (.ret (.con (.bl true)))] }
def dB_law : Df := ⟨"law", topS 16, ["script", "hand", "turn", "order", "told", "row", "rows", "places", "whole", "rise", "spots", "number", "at"], ["script"], B_law⟩
abbrev tbl : List Df := [dB_is_integer, dB_is_between, dB_is_order, dB_longest_falling, dBlaw_hand, dBlaw_draw, dBlaw_some, dBlaw_mixed, dBlaw_best, dB_law]
def g : Gb := { frees := ["ValueError", "abs", "all", "any", "bool", "int", "isinstance", "len", "list", "max", "range", "set", "sorted", "tuple"], fns := [("is_integer", 1), ("is_between", 3), ("is_order", 2), ("longest_falling", 1), ("_law_hand", 1), ("_law_draw", 2), ("_law_some", 2), ("_law_mixed", 2), ("_law_best", 1), ("law", 1)], cls := ["ArrowError", "NoOrder"], mat := [[true, false], [true, true]], consts := [("MOST_CORNERS", (.int 24))] }
theorem ok_B_is_integer : dfOk g 60 dB_is_integer = true := by decide +kernel
theorem ok_B_is_between : dfOk g 60 dB_is_between = true := by decide +kernel
theorem ok_B_is_order : dfOk g 60 dB_is_order = true := by decide +kernel
theorem ok_B_longest_falling : dfOk g 60 dB_longest_falling = true := by decide +kernel
theorem ok_Blaw_hand : dfOk g 60 dBlaw_hand = true := by decide +kernel
theorem ok_Blaw_draw : dfOk g 60 dBlaw_draw = true := by decide +kernel
theorem ok_Blaw_some : dfOk g 60 dBlaw_some = true := by decide +kernel
theorem ok_Blaw_mixed : dfOk g 60 dBlaw_mixed = true := by decide +kernel
theorem ok_Blaw_best : dfOk g 60 dBlaw_best = true := by decide +kernel
theorem ok_B_law : dfOk g 60 dB_law = true := by decide +kernel
theorem oks : ∀ d ∈ tbl, dfOk g 60 d = true := Z.AllP.mem (l := tbl) (p := fun d => dfOk g 60 d = true) ⟨ok_B_is_integer, ok_B_is_between, ok_B_is_order, ok_B_longest_falling, ok_Blaw_hand, ok_Blaw_draw, ok_Blaw_some, ok_Blaw_mixed, ok_Blaw_best, ok_B_law, trivial⟩
theorem b_B_is_integer : DfB dB_is_integer := fun _ _ _ _ _ _ us hl => match us, hl with | [_], _ => rfl
theorem b_B_is_between : DfB dB_is_between := fun _ _ _ _ _ _ us hl => match us, hl with | [_, _, _], _ => rfl
theorem b_B_is_order : DfB dB_is_order := fun _ _ _ _ _ _ us hl => match us, hl with | [_, _], _ => rfl
theorem b_B_longest_falling : DfB dB_longest_falling := fun _ _ _ _ _ _ us hl => match us, hl with | [_], _ => rfl
theorem b_Blaw_hand : DfB dBlaw_hand := fun _ _ _ _ _ _ us hl => match us, hl with | [_], _ => rfl
theorem b_Blaw_draw : DfB dBlaw_draw := fun _ _ _ _ _ _ us hl => match us, hl with | [_, _], _ => rfl
theorem b_Blaw_some : DfB dBlaw_some := fun _ _ _ _ _ _ us hl => match us, hl with | [_, _], _ => rfl
theorem b_Blaw_mixed : DfB dBlaw_mixed := fun _ _ _ _ _ _ us hl => match us, hl with | [_, _], _ => rfl
theorem b_Blaw_best : DfB dBlaw_best := fun _ _ _ _ _ _ us hl => match us, hl with | [_], _ => rfl
theorem b_B_law : DfB dB_law := fun _ _ _ _ _ _ us hl => match us, hl with | [_], _ => rfl
theorem bs : Z.AllP Z.DfB tbl := ⟨b_B_is_integer, b_B_is_between, b_B_is_order, b_B_longest_falling, b_Blaw_hand, b_Blaw_draw, b_Blaw_some, b_Blaw_mixed, b_Blaw_best, b_B_law, trivial⟩
end K19
namespace K19
/-! # Patience: heaps that rise, whose tops fall -/
def top (l : List Int) : Int := l.getLastD 0
def spot (hs : List (List Int)) (x : Int) : Nat := hs.findIdx fun l => decide (top l ≤ x)
def lay (hs : List (List Int)) (x : Int) : List (List Int) :=
  if spot hs x = hs.length then hs ++ [[x]] else hs.set (spot hs x) ((hs[spot hs x]?.getD []) ++ [x])
def bef (hs : List (List Int)) (x : Int) : Option Int := if 0 < spot hs x then some (top (hs[spot hs x - 1]?.getD [])) else none
def upd {α : Type} (f : Int → α) (x : Int) (a : α) : Int → α := fun y => if y = x then a else f y
theorem upd_same {α : Type} {f : Int → α} {x : Int} {a : α} : upd f x a x = a := if_pos rfl
theorem upd_ne {α : Type} {f : Int → α} {x y : Int} {a : α} (h : y ≠ x) : upd f x a y = f y := if_neg h
structure Inv (ns : List Int) (i : Nat) (hs : List (List Int)) (f : Int → Nat) (c : Int → Option Int) : Prop where
  has : ∀ x ∈ ns.take i, ∃ l, hs[f x]? = some l ∧ x ∈ l
  bk : ∀ j l, hs[j]? = some l → l ≠ [] ∧ l.Pairwise (· < ·) ∧ l.Pairwise (fun a b => ns.idxOf a < ns.idxOf b) ∧ ∀ x ∈ l, x ∈ ns.take i ∧ f x = j
  tops : hs.Pairwise fun a b => top b < top a
  perm : hs.flatten.Perm (ns.take i)
  came : ∀ x ∈ ns.take i, (f x = 0 → c x = none) ∧ (0 < f x → ∃ y, c x = some y ∧ y ∈ ns.take i ∧ f y + 1 = f x ∧ x < y ∧ ns.idxOf y < ns.idxOf x)
  lo : ∀ k x, k < i → ns[k]? = some x → (∀ y ∈ ns.take k, x < y → f y < f x) ∧ (0 < f x → ∃ y ∈ ns.take k, x < y ∧ f y + 1 = f x)
theorem Inv.zero {ns : List Int} {f : Int → Nat} {c : Int → Option Int} : Inv ns 0 [] f c where
  has := by simp
  bk := by simp
  tops := .nil
  perm := by simp
  came := by simp
  lo := by intro k x h; omega
theorem top_mem {l : List Int} (h : l ≠ []) : top l ∈ l := by
  unfold top
  rw [List.getLastD_eq_getLast?, List.getLast?_eq_some_getLast h]
  exact List.getLast_mem h
theorem top_le {l : List Int} (h : l.Pairwise (· < ·)) : ∀ x ∈ l, x ≤ top l := by
  intro x hx
  have hn : l ≠ [] := List.ne_nil_of_mem hx
  have e : l = l.dropLast ++ [top l] := by
    unfold top
    rw [List.getLastD_eq_getLast?, List.getLast?_eq_some_getLast hn]
    exact (List.dropLast_concat_getLast hn).symm
  rw [e] at hx h
  rcases List.mem_append.mp hx with m | m
  · exact Int.le_of_lt ((List.pairwise_append.mp h).2.2 x m _ (by simp))
  · rw [List.mem_singleton.mp m]; exact Int.le_refl _
theorem top_app {l : List Int} {x : Int} : top (l ++ [x]) = x := by
  unfold top
  simp
theorem spot_le {hs : List (List Int)} {x : Int} : spot hs x ≤ hs.length := List.findIdx_le_length
theorem spot_at {hs : List (List Int)} {x : Int} {l : List Int} (h : hs[spot hs x]? = some l) : top l ≤ x := by
  obtain ⟨hl, e⟩ := List.getElem?_eq_some_iff.mp h
  have := List.findIdx_getElem (w := hl)
  rw [← e]
  exact of_decide_eq_true this
theorem spot_lt {hs : List (List Int)} {x : Int} {j : Nat} {l : List Int} (hj : j < spot hs x) (h : hs[j]? = some l) : x < top l := by
  obtain ⟨hl, e⟩ := List.getElem?_eq_some_iff.mp h
  have := List.not_of_lt_findIdx hj
  rw [e] at this
  simpa using this
theorem pw_get {hs : List (List Int)} {R : List Int → List Int → Prop} (h : hs.Pairwise R) {i j : Nat} {a b : List Int} (hij : i < j) (ha : hs[i]? = some a) (hb : hs[j]? = some b) : R a b := by
  obtain ⟨h1, e1⟩ := List.getElem?_eq_some_iff.mp ha
  obtain ⟨h2, e2⟩ := List.getElem?_eq_some_iff.mp hb
  subst e1 e2
  exact List.pairwise_iff_getElem.mp h i j h1 h2 hij
theorem idx_at {ns : List Int} (nd : ns.Nodup) {i : Nat} {x : Int} (h : ns[i]? = some x) : ns.idxOf x = i := by
  obtain ⟨hl, e⟩ := List.getElem?_eq_some_iff.mp h
  subst e
  exact nd.idxOf_getElem i hl
theorem idx_take {ns : List Int} (nd : ns.Nodup) {i : Nat} {y : Int} (h : y ∈ ns.take i) : ns.idxOf y < i := by
  obtain ⟨j, hj, e⟩ := List.getElem_of_mem h
  have hj' := hj
  rw [List.length_take] at hj
  have : ns[j]? = some y := by
    rw [List.getElem_take] at e
    rw [List.getElem?_eq_getElem (by omega), e]
  rw [idx_at nd this]; omega
theorem flatten_set : ∀ {hs : List (List Int)} {j : Nat} {l m : List Int}, hs[j]? = some l → (hs.set j (l ++ m)).flatten.Perm (hs.flatten ++ m)
  | [], _, _, _, h => by simp at h
  | a :: hs, 0, l, m, h => by
    obtain rfl : a = l := by simpa using h
    show ((a ++ m) ++ hs.flatten).Perm ((a ++ hs.flatten) ++ m)
    rw [List.append_assoc, List.append_assoc]
    exact List.Perm.append_left _ List.perm_append_comm
  | a :: hs, j + 1, l, m, h => by
    show (a ++ (hs.set j (l ++ m)).flatten).Perm ((a ++ hs.flatten) ++ m)
    rw [List.append_assoc]
    exact List.Perm.append_left _ (flatten_set (by simpa using h))
theorem Inv.step {ns : List Int} (nd : ns.Nodup) {i : Nat} {hs : List (List Int)} {f : Int → Nat} {c : Int → Option Int} (I : Inv ns i hs f c) {x : Int} (hx : ns[i]? = some x) :
    Inv ns (i + 1) (lay hs x) (upd f x (spot hs x)) (upd c x (bef hs x)) := by
  have ht : ns.take (i + 1) = ns.take i ++ [x] := by rw [List.take_add_one, hx]; rfl
  have hix : ns.idxOf x = i := idx_at nd hx
  have hnx : ∀ y ∈ ns.take i, y ≠ x := fun y hy e => by
    have := idx_take nd hy
    rw [e, hix] at this; omega
  -- what stands at each place now
  have at_s : (lay hs x)[spot hs x]? = some ((hs[spot hs x]?.getD []) ++ [x]) := by
    unfold lay
    split
    · rename_i e
      rw [List.getElem?_append_right (by omega)]
      have : hs[spot hs x]? = none := List.getElem?_eq_none (by omega)
      rw [this, e]; simp
    · rename_i e
      have := spot_le (hs := hs) (x := x)
      rw [List.getElem?_set_self (by omega)]
  have at_o : ∀ j, j ≠ spot hs x → (lay hs x)[j]? = hs[j]? := fun j hj => by
    unfold lay
    split
    · rename_i e
      by_cases h1 : j < hs.length
      · rw [List.getElem?_append_left h1]
      · rw [List.getElem?_append_right (by omega), List.getElem?_eq_none (by simp; omega), List.getElem?_eq_none (by omega)]
    · rw [List.getElem?_set_ne (by omega)]
  have old : ∀ y ∈ hs[spot hs x]?.getD [], y ∈ ns.take i ∧ f y = spot hs x ∧ y < x := fun y hy => by
    cases e : hs[spot hs x]? with
    | none => rw [e] at hy; simp at hy
    | some l =>
      rw [e] at hy
      have b := I.bk _ _ e
      have h1 := b.2.2.2 y hy
      have h2 := top_le b.2.1 y hy
      have h3 := spot_at e
      have h4 := hnx y h1.1
      exact ⟨h1.1, h1.2, by omega⟩
  -- a number above x stands in a heap before
  have up : ∀ y ∈ ns.take i, x < y → f y < spot hs x := fun y hy hxy => by
    obtain ⟨l, e, m⟩ := I.has y hy
    refine Nat.lt_of_not_le fun hle => ?_
    have h1 := top_le (I.bk _ _ e).2.1 y m
    by_cases he : f y = spot hs x
    · rw [he] at e
      have := spot_at e
      omega
    · have hl := (List.getElem?_eq_some_iff.mp e).1
      have : hs[spot hs x]? = some (hs[spot hs x]'(by omega)) := List.getElem?_eq_getElem _
      have h2 := pw_get I.tops (by omega) this e
      have h3 := spot_at this
      omega
  have dn : 0 < spot hs x → ∃ y, bef hs x = some y ∧ y ∈ ns.take i ∧ f y + 1 = spot hs x ∧ x < y := fun h0 => by
    have hl := spot_le (hs := hs) (x := x)
    have e : hs[spot hs x - 1]? = some (hs[spot hs x - 1]'(by omega)) := List.getElem?_eq_getElem _
    have b := I.bk _ _ e
    have m := top_mem b.1
    refine ⟨top (hs[spot hs x - 1]'(by omega)), ?_, (b.2.2.2 _ m).1, ?_, spot_lt (by omega) e⟩
    · unfold bef
      rw [if_pos h0, e]; rfl
    · rw [(b.2.2.2 _ m).2]; omega
  refine ⟨?_, ?_, ?_, ?_, ?_, ?_⟩
  · intro y hy
    rw [ht] at hy
    rcases List.mem_append.mp hy with m | m
    · rw [upd_ne (hnx y m)]
      obtain ⟨l, e, h1⟩ := I.has y m
      by_cases he : f y = spot hs x
      · rw [he, at_s]
        rw [he] at e
        exact ⟨_, rfl, by rw [e]; exact List.mem_append_left _ h1⟩
      · exact ⟨l, by rw [at_o _ he]; exact e, h1⟩
    · rw [List.mem_singleton.mp m, upd_same]
      exact ⟨_, at_s, by simp⟩
  · intro j l hj
    by_cases he : j = spot hs x
    · subst he
      rw [at_s] at hj
      obtain rfl := Option.some.inj hj
      refine ⟨by simp, ?_, ?_, ?_⟩
      · refine List.pairwise_append.mpr ⟨?_, List.pairwise_singleton _ _, fun a ha b hb => ?_⟩
        · cases e : hs[spot hs x]? with
          | none => exact .nil
          | some l => exact (I.bk _ _ e).2.1
        · rw [List.mem_singleton.mp hb]; exact (old a ha).2.2
      · refine List.pairwise_append.mpr ⟨?_, List.pairwise_singleton _ _, fun a ha b hb => ?_⟩
        · cases e : hs[spot hs x]? with
          | none => exact .nil
          | some l => exact (I.bk _ _ e).2.2.1
        · rw [List.mem_singleton.mp hb, hix]; exact idx_take nd (old a ha).1
      · intro y hy
        rw [ht]
        rcases List.mem_append.mp hy with m | m
        · have := old y m
          exact ⟨List.mem_append_left _ this.1, by rw [upd_ne (hnx y this.1)]; exact this.2.1⟩
        · rw [List.mem_singleton.mp m]
          exact ⟨by simp, upd_same⟩
    · rw [at_o _ he] at hj
      have b := I.bk _ _ hj
      refine ⟨b.1, b.2.1, b.2.2.1, fun y hy => ?_⟩
      have := b.2.2.2 y hy
      rw [ht, upd_ne (hnx y this.1)]
      exact ⟨List.mem_append_left _ this.1, this.2⟩
  · rw [List.pairwise_iff_getElem]
    intro a b ha hb hab
    have ea : (lay hs x)[a]? = some (lay hs x)[a] := List.getElem?_eq_getElem _
    have eb : (lay hs x)[b]? = some (lay hs x)[b] := List.getElem?_eq_getElem _
    generalize (lay hs x)[a] = la at *
    generalize (lay hs x)[b] = lb at *
    by_cases h1 : a = spot hs x
    · rw [at_o b (by omega)] at eb
      rw [h1, at_s] at ea
      obtain rfl := Option.some.inj ea
      rw [top_app]
      have hl := (List.getElem?_eq_some_iff.mp eb).1
      have : hs[spot hs x]? = some (hs[spot hs x]'(by omega)) := List.getElem?_eq_getElem _
      have h2 := pw_get I.tops (by omega) this eb
      have h3 := spot_at this
      omega
    · rw [at_o a h1] at ea
      by_cases h2 : b = spot hs x
      · rw [h2, at_s] at eb
        obtain rfl := Option.some.inj eb
        rw [top_app]
        exact spot_lt (by omega) ea
      · rw [at_o b h2] at eb
        exact pw_get I.tops hab ea eb
  · rw [ht]
    refine List.Perm.trans ?_ (I.perm.append_right [x])
    unfold lay
    split
    · simp
    · have hl := spot_le (hs := hs) (x := x)
      have e : hs[spot hs x]? = some (hs[spot hs x]'(by omega)) := List.getElem?_eq_getElem _
      rw [e]
      exact flatten_set e
  · intro y hy
    rw [ht] at hy ⊢
    rcases List.mem_append.mp hy with m | m
    · rw [upd_ne (hnx y m), upd_ne (hnx y m)]
      refine ⟨(I.came y m).1, fun h0 => ?_⟩
      obtain ⟨z, h1, h2, h3, h4, h5⟩ := (I.came y m).2 h0
      exact ⟨z, h1, List.mem_append_left _ h2, by rw [upd_ne (hnx z h2)]; exact h3, h4, h5⟩
    · rw [List.mem_singleton.mp m, upd_same, upd_same]
      refine ⟨fun h0 => by unfold bef; rw [if_neg (by omega)], fun h0 => ?_⟩
      obtain ⟨y, h1, h2, h3, h4⟩ := dn h0
      exact ⟨y, h1, List.mem_append_left _ h2, by rw [upd_ne (hnx y h2)]; exact h3, h4, by rw [hix]; exact idx_take nd h2⟩
  · intro k y hk hy
    by_cases hki : k = i
    · subst hki
      rw [hx] at hy
      obtain rfl := Option.some.inj hy
      rw [upd_same]
      refine ⟨fun z hz hxz => by rw [upd_ne (hnx z hz)]; exact up z hz hxz, fun h0 => ?_⟩
      obtain ⟨z, _, h2, h3, h4⟩ := dn h0
      exact ⟨z, h2, h4, by rw [upd_ne (hnx z h2)]; exact h3⟩
    · have hk' : k < i := by omega
      have sub : ∀ z ∈ ns.take k, z ≠ x := fun z hz => hnx z ((List.take_sublist_take_left (by omega)).subset hz)
      have hyx : y ≠ x := fun e => by
        have := idx_at nd hy
        rw [e, hix] at this; omega
      rw [upd_ne hyx]
      have := I.lo k y hk' hy
      refine ⟨fun z hz hyz => by rw [upd_ne (sub z hz)]; exact this.1 z hz hyz, fun h0 => ?_⟩
      obtain ⟨z, h1, h2, h3⟩ := this.2 h0
      exact ⟨z, h1, h2, by rw [upd_ne (sub z h1)]; exact h3⟩
/-- what the whole row gives -/
structure Good (ns row : List Int) (hs : List (List Int)) (f : Int → Nat) : Prop where
  sub : ∀ x ∈ row, x ∈ ns
  spots : row.Pairwise fun a b => ns.idxOf a < ns.idxOf b
  falls : row.Pairwise fun a b => b < a
  len : row.length = hs.length
  few : hs.length ≤ ns.length
  heaps : ∀ l ∈ hs, l.Pairwise (· < ·) ∧ l.Pairwise (fun a b => ns.idxOf a < ns.idxOf b) ∧ ∀ x ∈ l, x ∈ ns
  perm : hs.flatten.Perm ns
  lo : ∀ k x, ns[k]? = some x → (∀ y ∈ ns.take k, x < y → f y < f x) ∧ (0 < f x → ∃ y ∈ ns.take k, x < y ∧ f y + 1 = f x)
  hi : ∀ x ∈ ns, f x + 1 ≤ hs.length
  top : ∃ x ∈ ns, f x + 1 = hs.length
/-- what a row that grows holds -/
structure Grow (ns : List Int) (n : Nat) (f : Int → Nat) (r : List Int) : Prop where
  ne : r ≠ []
  sub : ∀ x ∈ r, x ∈ ns
  up : r.Pairwise (· < ·)
  spots : r.Pairwise fun a b => ns.idxOf b < ns.idxOf a
  len : f (K19.top r) + r.length = n
theorem Grow.one {ns : List Int} {hs : List (List Int)} {f : Int → Nat} {c : Int → Option Int} (I : Inv ns ns.length hs f c) (h : hs ≠ []) : Grow ns hs.length f [K19.top (hs.getLastD [])] := by
  have e : hs[hs.length - 1]? = some (hs.getLastD []) := by
    rw [List.getLastD_eq_getLast?, ← List.getLast?_eq_getElem?, List.getLast?_eq_some_getLast h]; rfl
  have b := I.bk _ _ e
  have m := b.2.2.2 _ (top_mem b.1)
  have hl := List.length_pos_iff.mpr h
  refine ⟨by simp, fun x hx => ?_, List.pairwise_singleton _ _, List.pairwise_singleton _ _, ?_⟩
  · rw [List.mem_singleton.mp hx]
    have := m.1
    rwa [List.take_length] at this
  · show f (K19.top [_]) + 1 = _
    have : K19.top [K19.top (hs.getLastD [])] = K19.top (hs.getLastD []) := rfl
    rw [this, m.2]; omega
theorem Grow.more {ns : List Int} {hs : List (List Int)} {f : Int → Nat} {c : Int → Option Int} (I : Inv ns ns.length hs f c) {r : List Int} (G : Grow ns hs.length f r) {y : Int} (hy : c (K19.top r) = some y) : Grow ns hs.length f (r ++ [y]) ∧ r.length < hs.length := by
  have m := G.sub _ (top_mem G.ne)
  have cm := I.came (K19.top r) (by rw [List.take_length]; exact m)
  have h0 : 0 < f (K19.top r) := by
    refine Nat.pos_of_ne_zero fun h => ?_
    rw [cm.1 h] at hy; cases hy
  obtain ⟨z, h1, h2, h3, h4, h5⟩ := cm.2 h0
  rw [h1] at hy
  obtain rfl := Option.some.inj hy
  rw [List.take_length] at h2
  have hl := G.len
  refine ⟨⟨by simp, fun x hx => ?_, ?_, ?_, ?_⟩, by omega⟩
  · rcases List.mem_append.mp hx with q | q
    · exact G.sub x q
    · rw [List.mem_singleton.mp q]; exact h2
  · refine List.pairwise_append.mpr ⟨G.up, List.pairwise_singleton _ _, fun a ha b hb => ?_⟩
    rw [List.mem_singleton.mp hb]
    have := top_le G.up a ha
    omega
  · refine List.pairwise_append.mpr ⟨G.spots, List.pairwise_singleton _ _, fun a ha b hb => ?_⟩
    rw [List.mem_singleton.mp hb]
    by_cases e : a = K19.top r
    · rw [e]; exact h5
    · have e2 : r = r.dropLast ++ [K19.top r] := by
        unfold K19.top
        rw [List.getLastD_eq_getLast?, List.getLast?_eq_some_getLast G.ne]
        exact (List.dropLast_concat_getLast G.ne).symm
      have sp := G.spots
      rw [e2] at ha sp
      rcases List.mem_append.mp ha with q | q
      · have := (List.pairwise_append.mp sp).2.2 a q _ (List.mem_singleton.mpr rfl)
        omega
      · exact absurd (List.mem_singleton.mp q) e
  · rw [top_app, List.length_append]
    show f z + (r.length + 1) = _
    omega
theorem flat_len : ∀ {hs : List (List Int)}, (∀ l ∈ hs, l ≠ []) → hs.length ≤ hs.flatten.length
  | [], _ => Nat.le_refl _
  | l :: hs, h => by
    have h1 := List.length_pos_iff.mpr (h l (by simp))
    have h2 := flat_len (hs := hs) fun m hm => h m (by simp [hm])
    rw [List.flatten_cons, List.length_append, List.length_cons]
    omega
theorem Inv.few {ns : List Int} {i : Nat} {hs : List (List Int)} {f : Int → Nat} {c : Int → Option Int} (I : Inv ns i hs f c) : hs.length ≤ ns.length := by
  have h1 := I.perm.length_eq
  have h2 := flat_len (hs := hs) fun l hl => by
    obtain ⟨j, hj, e⟩ := List.getElem_of_mem hl
    exact (I.bk j l (by rw [List.getElem?_eq_getElem hj, e])).1
  rw [List.length_take] at h1
  omega
theorem Grow.good {ns : List Int} {hs : List (List Int)} {f : Int → Nat} {c : Int → Option Int} (I : Inv ns ns.length hs f c) {r : List Int} (G : Grow ns hs.length f r) (hc : c (K19.top r) = none) : Good ns r.reverse hs f := by
  have m := G.sub _ (top_mem G.ne)
  have cm := I.came (K19.top r) (by rw [List.take_length]; exact m)
  have h0 : f (K19.top r) = 0 := by
    refine Nat.eq_zero_of_not_pos fun h => ?_
    obtain ⟨z, h1, _⟩ := cm.2 h
    rw [h1] at hc; cases hc
  have hl := G.len
  refine ⟨fun x hx => G.sub x (List.mem_reverse.mp hx), List.pairwise_reverse.mpr G.spots, List.pairwise_reverse.mpr G.up, by rw [List.length_reverse]; omega, I.few, fun l hl => ?_, by have := I.perm; rwa [List.take_length] at this, fun k x hk => I.lo k x (List.getElem?_eq_some_iff.mp hk).1 hk, fun x hx => ?_, ?_⟩
  · obtain ⟨j, hj, e⟩ := List.getElem_of_mem hl
    have b := I.bk j l (by rw [List.getElem?_eq_getElem hj, e])
    refine ⟨b.2.1, b.2.2.1, fun x hx => ?_⟩
    have := (b.2.2.2 x hx).1
    rwa [List.take_length] at this
  · obtain ⟨l, e, _⟩ := I.has x (by rw [List.take_length]; exact hx)
    have := (List.getElem?_eq_some_iff.mp e).1
    omega
  · have hn : 0 < hs.length := by
      have := List.length_pos_iff.mpr G.ne
      omega
    have e : hs[hs.length - 1]? = some (hs[hs.length - 1]'(by omega)) := List.getElem?_eq_getElem _
    have b := I.bk _ _ e
    have m := b.2.2.2 _ (top_mem b.1)
    refine ⟨K19.top (hs[hs.length - 1]'(by omega)), ?_, by rw [m.2]; omega⟩
    have := m.1
    rwa [List.take_length] at this
/-- the heaps, and a new one where the number goes there -/
def room (hs : List (List Int)) (x : Int) : List (List Int) := if spot hs x = hs.length then hs ++ [[]] else hs
theorem lay_eq {hs : List (List Int)} {x : Int} : ∃ l, (room hs x)[spot hs x]? = some l ∧ lay hs x = (room hs x).set (spot hs x) (l ++ [x]) := by
  unfold room lay
  have hl := spot_le (hs := hs) (x := x)
  split
  · rename_i e
    refine ⟨[], ?_, ?_⟩
    · rw [e, List.getElem?_append_right (Nat.le_refl _)]; simp
    · rw [e, List.set_append_right _ _ (Nat.le_refl _)]; simp
  · rename_i e
    have : hs[spot hs x]? = some (hs[spot hs x]'(by omega)) := List.getElem?_eq_getElem _
    exact ⟨_, this, by rw [this]; rfl⟩
end K19
namespace K19
open Z
def fds : List Fd := tbl.map (·.fd)
section
variable {k : Nat} {h : Hs} {P : Val → Hs → Prop} {X : Nat → List Val → Hs → Prop}
theorem int_ok {v : Val} (hv : ∀ d i, v ≠ .loc d i) (q : P (.bl (match v with | .int _ => true | _ => false)) h) : wp (callN fds (k + 1) 0 [v] h) P X := by
  refine call_of (d := B_is_integer) rfl rfl ?_
  cases v <;> first | exact absurd rfl (hv _ _) | skip
  all_goals simp only [↓w_cons, ↓w_nil, ↓w_ev, ↓w_fin, ↓w_some, ↓t_nx, ↓t_bk, ↓t_ct, ↓t_rt, ↓t_xc, ↓r_bnd, ↓r_ret, ↓r_ok, ↓r_ite, ↓w_ite, ↓r_guard, ↓r_alloc, ↓r_optM', ↓optP_some, ↓r_noExc, ↓r_exc, ↓e_var, ↓varP_some, ↓e_con, ↓e_bin, ↓e_cmp, ↓e_chain, ↓e_neg, ↓e_inv, ↓e_not, ↓e_and, ↓e_or, ↓v_and, ↓v_or, ↓e_ifx, ↓e_idx, ↓e_sl, ↓e_rev, ↓e_lst, ↓e_tup, ↓e_dict, ↓e_call, ↓e_bi, ↓e_me, ↓e_comp, ↓e_nil, ↓e_cons, ↓e_c0, ↓e_c1, ↓i_seq, ↓i_rng1, ↓i_rng2, ↓intP_int, ↓o_add, ↓o_sub, ↓o_mul, ↓o_fdiv, ↓o_mod, ↓o_pow, ↓o_addT, ↓c_eqI, ↓c_neI, ↓c_lt, ↓c_gt, ↓c_le, ↓c_ge, ↓n_int, ↓t_bl, ↓t_int, ↓x_tup, ↓b_lenT, ↓b_abs, ↓b_int, ↓b_tupT, ↓b_tupL, ↓b_list, ↓b_sorted, ↓b_lrg1, ↓b_trg1, ↓b_isi, ↓a_nil, ↓a_cons, ↓y_tup, ↓y_int, ↓y_bl, ↓y_non, ↓y_str, ↓it_tup, ↓sq_tup, ↓m_indexT, ↓k_tup, ↓ow_tup, ↓l_bl, ↓l_int, ↓l_non, ↓z_asg, ↓z_asgT, ↓z_par, ↓z_sub, ↓z_aug, ↓g_add, ↓g_sub, ↓z_ex, ↓z_ret, ↓z_if, ↓z_raise, ↓z_for, ↓z_while, ↓bt_nm, ↓bt_tp, ↓bts_n, ↓bts_c, ↓z_try, ↓tq_xc, ↓tq_nx, ↓tq_rt, ↓cq_nx, ↓cq_rt, ↓cq_xc, w_wipe0, w_wipe1, nth_0, nth_1, nth_2, nth_3, nth_4, startZ, endOf, List.map, List.length, List.replicate, List.cons_append, List.nil_append, List.append_nil, List.getElem?_cons_zero, List.getElem?_cons_succ, List.set_cons_zero, List.set_cons_succ, Nat.reduceAdd, Nat.reduceSub, Nat.reduceLT, Nat.zero_add, Nat.add_zero, Nat.sub_self, Int.reduceNeg, Int.reduceToNat, if_true, if_false, Bool.false_eq_true, Bool.not_true, Bool.not_false, Bool.and_true, Bool.true_and, Bool.and_false, Bool.false_and, and_true, true_and, Option.isSome_some, Bool.and_self, reduceIte, reduceCtorEq, decide_true, decide_false, decide_eq_true_eq, not_true_eq_false, not_false_eq_true, or_false, or_true, true_or, false_or, B_is_integer, leave_drop, Val.under]
  all_goals exact q
theorem btw_int {n a b : Int} (q : P (.bl (decide (a ≤ n ∧ n ≤ b))) h) : wp (callN fds (k + 2) 1 [.int n, .int a, .int b] h) P X := by
  refine call_of (d := B_is_between) rfl rfl ?_
  simp only [↓w_cons, ↓w_nil, ↓w_ev, ↓w_fin, ↓w_some, ↓t_nx, ↓t_bk, ↓t_ct, ↓t_rt, ↓t_xc, ↓r_bnd, ↓r_ret, ↓r_ok, ↓r_ite, ↓w_ite, ↓r_guard, ↓r_alloc, ↓r_optM', ↓optP_some, ↓r_noExc, ↓r_exc, ↓e_var, ↓varP_some, ↓e_con, ↓e_bin, ↓e_cmp, ↓e_chain, ↓e_neg, ↓e_inv, ↓e_not, ↓e_and, ↓e_or, ↓v_and, ↓v_or, ↓e_ifx, ↓e_idx, ↓e_sl, ↓e_rev, ↓e_lst, ↓e_tup, ↓e_dict, ↓e_call, ↓e_bi, ↓e_me, ↓e_comp, ↓e_nil, ↓e_cons, ↓e_c0, ↓e_c1, ↓i_seq, ↓i_rng1, ↓i_rng2, ↓intP_int, ↓o_add, ↓o_sub, ↓o_mul, ↓o_fdiv, ↓o_mod, ↓o_pow, ↓o_addT, ↓c_eqI, ↓c_neI, ↓c_lt, ↓c_gt, ↓c_le, ↓c_ge, ↓n_int, ↓t_bl, ↓t_int, ↓x_tup, ↓b_lenT, ↓b_abs, ↓b_int, ↓b_tupT, ↓b_tupL, ↓b_list, ↓b_sorted, ↓b_lrg1, ↓b_trg1, ↓b_isi, ↓a_nil, ↓a_cons, ↓y_tup, ↓y_int, ↓y_bl, ↓y_non, ↓y_str, ↓it_tup, ↓sq_tup, ↓m_indexT, ↓k_tup, ↓ow_tup, ↓l_bl, ↓l_int, ↓l_non, ↓z_asg, ↓z_asgT, ↓z_par, ↓z_sub, ↓z_aug, ↓g_add, ↓g_sub, ↓z_ex, ↓z_ret, ↓z_if, ↓z_raise, ↓z_for, ↓z_while, ↓bt_nm, ↓bt_tp, ↓bts_n, ↓bts_c, ↓z_try, ↓tq_xc, ↓tq_nx, ↓tq_rt, ↓cq_nx, ↓cq_rt, ↓cq_xc, w_wipe0, w_wipe1, nth_0, nth_1, nth_2, nth_3, nth_4, startZ, endOf, List.map, List.length, List.replicate, List.cons_append, List.nil_append, List.append_nil, List.getElem?_cons_zero, List.getElem?_cons_succ, List.set_cons_zero, List.set_cons_succ, Nat.reduceAdd, Nat.reduceSub, Nat.reduceLT, Nat.zero_add, Nat.add_zero, Nat.sub_self, Int.reduceNeg, Int.reduceToNat, if_true, if_false, Bool.false_eq_true, Bool.not_true, Bool.not_false, Bool.and_true, Bool.true_and, Bool.and_false, Bool.false_and, and_true, true_and, Option.isSome_some, Bool.and_self, reduceIte, reduceCtorEq, decide_true, decide_false, decide_eq_true_eq, not_true_eq_false, not_false_eq_true, or_false, or_true, true_or, false_or, B_is_between]
  refine int_ok (fun _ _ => by simp) ?_
  simp only [↓w_cons, ↓w_nil, ↓w_ev, ↓w_fin, ↓w_some, ↓t_nx, ↓t_bk, ↓t_ct, ↓t_rt, ↓t_xc, ↓r_bnd, ↓r_ret, ↓r_ok, ↓r_ite, ↓w_ite, ↓r_guard, ↓r_alloc, ↓r_optM', ↓optP_some, ↓r_noExc, ↓r_exc, ↓e_var, ↓varP_some, ↓e_con, ↓e_bin, ↓e_cmp, ↓e_chain, ↓e_neg, ↓e_inv, ↓e_not, ↓e_and, ↓e_or, ↓v_and, ↓v_or, ↓e_ifx, ↓e_idx, ↓e_sl, ↓e_rev, ↓e_lst, ↓e_tup, ↓e_dict, ↓e_call, ↓e_bi, ↓e_me, ↓e_comp, ↓e_nil, ↓e_cons, ↓e_c0, ↓e_c1, ↓i_seq, ↓i_rng1, ↓i_rng2, ↓intP_int, ↓o_add, ↓o_sub, ↓o_mul, ↓o_fdiv, ↓o_mod, ↓o_pow, ↓o_addT, ↓c_eqI, ↓c_neI, ↓c_lt, ↓c_gt, ↓c_le, ↓c_ge, ↓n_int, ↓t_bl, ↓t_int, ↓x_tup, ↓b_lenT, ↓b_abs, ↓b_int, ↓b_tupT, ↓b_tupL, ↓b_list, ↓b_sorted, ↓b_lrg1, ↓b_trg1, ↓b_isi, ↓a_nil, ↓a_cons, ↓y_tup, ↓y_int, ↓y_bl, ↓y_non, ↓y_str, ↓it_tup, ↓sq_tup, ↓m_indexT, ↓k_tup, ↓ow_tup, ↓l_bl, ↓l_int, ↓l_non, ↓z_asg, ↓z_asgT, ↓z_par, ↓z_sub, ↓z_aug, ↓g_add, ↓g_sub, ↓z_ex, ↓z_ret, ↓z_if, ↓z_raise, ↓z_for, ↓z_while, ↓bt_nm, ↓bt_tp, ↓bts_n, ↓bts_c, ↓z_try, ↓tq_xc, ↓tq_nx, ↓tq_rt, ↓cq_nx, ↓cq_rt, ↓cq_xc, w_wipe0, w_wipe1, nth_0, nth_1, nth_2, nth_3, nth_4, startZ, endOf, List.map, List.length, List.replicate, List.cons_append, List.nil_append, List.append_nil, List.getElem?_cons_zero, List.getElem?_cons_succ, List.set_cons_zero, List.set_cons_succ, Nat.reduceAdd, Nat.reduceSub, Nat.reduceLT, Nat.zero_add, Nat.add_zero, Nat.sub_self, Int.reduceNeg, Int.reduceToNat, if_true, if_false, Bool.false_eq_true, Bool.not_true, Bool.not_false, Bool.and_true, Bool.true_and, Bool.and_false, Bool.false_and, and_true, true_and, Option.isSome_some, Bool.and_self, reduceIte, reduceCtorEq, decide_true, decide_false, decide_eq_true_eq, not_true_eq_false, not_false_eq_true, or_false, or_true, true_or, false_or, leave_drop, Val.under]
  split
  · rename_i h1
    have e : decide (a ≤ n ∧ n ≤ b) = decide (n ≤ b) := by simp [h1]
    rw [e] at q
    exact q
  · rename_i h1
    have e : decide (a ≤ n ∧ n ≤ b) = false := by simp [h1]
    rw [e] at q
    exact q
theorem btw_bl {n : Bool} {a b : Int} (q : P (.bl false) h) : wp (callN fds (k + 2) 1 [.bl n, .int a, .int b] h) P X := by
  refine call_of (d := B_is_between) rfl rfl ?_
  simp only [↓w_cons, ↓w_nil, ↓w_ev, ↓w_fin, ↓w_some, ↓t_nx, ↓t_bk, ↓t_ct, ↓t_rt, ↓t_xc, ↓r_bnd, ↓r_ret, ↓r_ok, ↓r_ite, ↓w_ite, ↓r_guard, ↓r_alloc, ↓r_optM', ↓optP_some, ↓r_noExc, ↓r_exc, ↓e_var, ↓varP_some, ↓e_con, ↓e_bin, ↓e_cmp, ↓e_chain, ↓e_neg, ↓e_inv, ↓e_not, ↓e_and, ↓e_or, ↓v_and, ↓v_or, ↓e_ifx, ↓e_idx, ↓e_sl, ↓e_rev, ↓e_lst, ↓e_tup, ↓e_dict, ↓e_call, ↓e_bi, ↓e_me, ↓e_comp, ↓e_nil, ↓e_cons, ↓e_c0, ↓e_c1, ↓i_seq, ↓i_rng1, ↓i_rng2, ↓intP_int, ↓o_add, ↓o_sub, ↓o_mul, ↓o_fdiv, ↓o_mod, ↓o_pow, ↓o_addT, ↓c_eqI, ↓c_neI, ↓c_lt, ↓c_gt, ↓c_le, ↓c_ge, ↓n_int, ↓t_bl, ↓t_int, ↓x_tup, ↓b_lenT, ↓b_abs, ↓b_int, ↓b_tupT, ↓b_tupL, ↓b_list, ↓b_sorted, ↓b_lrg1, ↓b_trg1, ↓b_isi, ↓a_nil, ↓a_cons, ↓y_tup, ↓y_int, ↓y_bl, ↓y_non, ↓y_str, ↓it_tup, ↓sq_tup, ↓m_indexT, ↓k_tup, ↓ow_tup, ↓l_bl, ↓l_int, ↓l_non, ↓z_asg, ↓z_asgT, ↓z_par, ↓z_sub, ↓z_aug, ↓g_add, ↓g_sub, ↓z_ex, ↓z_ret, ↓z_if, ↓z_raise, ↓z_for, ↓z_while, ↓bt_nm, ↓bt_tp, ↓bts_n, ↓bts_c, ↓z_try, ↓tq_xc, ↓tq_nx, ↓tq_rt, ↓cq_nx, ↓cq_rt, ↓cq_xc, w_wipe0, w_wipe1, nth_0, nth_1, nth_2, nth_3, nth_4, startZ, endOf, List.map, List.length, List.replicate, List.cons_append, List.nil_append, List.append_nil, List.getElem?_cons_zero, List.getElem?_cons_succ, List.set_cons_zero, List.set_cons_succ, Nat.reduceAdd, Nat.reduceSub, Nat.reduceLT, Nat.zero_add, Nat.add_zero, Nat.sub_self, Int.reduceNeg, Int.reduceToNat, if_true, if_false, Bool.false_eq_true, Bool.not_true, Bool.not_false, Bool.and_true, Bool.true_and, Bool.and_false, Bool.false_and, and_true, true_and, Option.isSome_some, Bool.and_self, reduceIte, reduceCtorEq, decide_true, decide_false, decide_eq_true_eq, not_true_eq_false, not_false_eq_true, or_false, or_true, true_or, false_or, B_is_between]
  refine int_ok (fun _ _ => by simp) ?_
  simp only [↓w_cons, ↓w_nil, ↓w_ev, ↓w_fin, ↓w_some, ↓t_nx, ↓t_bk, ↓t_ct, ↓t_rt, ↓t_xc, ↓r_bnd, ↓r_ret, ↓r_ok, ↓r_ite, ↓w_ite, ↓r_guard, ↓r_alloc, ↓r_optM', ↓optP_some, ↓r_noExc, ↓r_exc, ↓e_var, ↓varP_some, ↓e_con, ↓e_bin, ↓e_cmp, ↓e_chain, ↓e_neg, ↓e_inv, ↓e_not, ↓e_and, ↓e_or, ↓v_and, ↓v_or, ↓e_ifx, ↓e_idx, ↓e_sl, ↓e_rev, ↓e_lst, ↓e_tup, ↓e_dict, ↓e_call, ↓e_bi, ↓e_me, ↓e_comp, ↓e_nil, ↓e_cons, ↓e_c0, ↓e_c1, ↓i_seq, ↓i_rng1, ↓i_rng2, ↓intP_int, ↓o_add, ↓o_sub, ↓o_mul, ↓o_fdiv, ↓o_mod, ↓o_pow, ↓o_addT, ↓c_eqI, ↓c_neI, ↓c_lt, ↓c_gt, ↓c_le, ↓c_ge, ↓n_int, ↓t_bl, ↓t_int, ↓x_tup, ↓b_lenT, ↓b_abs, ↓b_int, ↓b_tupT, ↓b_tupL, ↓b_list, ↓b_sorted, ↓b_lrg1, ↓b_trg1, ↓b_isi, ↓a_nil, ↓a_cons, ↓y_tup, ↓y_int, ↓y_bl, ↓y_non, ↓y_str, ↓it_tup, ↓sq_tup, ↓m_indexT, ↓k_tup, ↓ow_tup, ↓l_bl, ↓l_int, ↓l_non, ↓z_asg, ↓z_asgT, ↓z_par, ↓z_sub, ↓z_aug, ↓g_add, ↓g_sub, ↓z_ex, ↓z_ret, ↓z_if, ↓z_raise, ↓z_for, ↓z_while, ↓bt_nm, ↓bt_tp, ↓bts_n, ↓bts_c, ↓z_try, ↓tq_xc, ↓tq_nx, ↓tq_rt, ↓cq_nx, ↓cq_rt, ↓cq_xc, w_wipe0, w_wipe1, nth_0, nth_1, nth_2, nth_3, nth_4, startZ, endOf, List.map, List.length, List.replicate, List.cons_append, List.nil_append, List.append_nil, List.getElem?_cons_zero, List.getElem?_cons_succ, List.set_cons_zero, List.set_cons_succ, Nat.reduceAdd, Nat.reduceSub, Nat.reduceLT, Nat.zero_add, Nat.add_zero, Nat.sub_self, Int.reduceNeg, Int.reduceToNat, if_true, if_false, Bool.false_eq_true, Bool.not_true, Bool.not_false, Bool.and_true, Bool.true_and, Bool.and_false, Bool.false_and, and_true, true_and, Option.isSome_some, Bool.and_self, reduceIte, reduceCtorEq, decide_true, decide_false, decide_eq_true_eq, not_true_eq_false, not_false_eq_true, or_false, or_true, true_or, false_or, leave_drop, Val.under]
  exact q
theorem order_ints {ns : List Int} {m : Nat} (hl : m ≤ 1000) (hn : ns.length ≤ 1000) (q : P (.bl (decide (ns.Perm (upTo m)))) h) : wp (callN fds (k + 3) 2 [.tup (ns.map .int), .int m] h) P X := by
  refine call_of (d := B_is_order) rfl rfl ?_
  simp only [↓w_cons, ↓w_nil, ↓w_ev, ↓w_fin, ↓w_some, ↓t_nx, ↓t_bk, ↓t_ct, ↓t_rt, ↓t_xc, ↓r_bnd, ↓r_ret, ↓r_ok, ↓r_ite, ↓w_ite, ↓r_guard, ↓r_alloc, ↓r_optM', ↓optP_some, ↓r_noExc, ↓r_exc, ↓e_var, ↓varP_some, ↓e_con, ↓e_bin, ↓e_cmp, ↓e_chain, ↓e_neg, ↓e_inv, ↓e_not, ↓e_and, ↓e_or, ↓v_and, ↓v_or, ↓e_ifx, ↓e_idx, ↓e_sl, ↓e_rev, ↓e_lst, ↓e_tup, ↓e_dict, ↓e_call, ↓e_bi, ↓e_me, ↓e_comp, ↓e_nil, ↓e_cons, ↓e_c0, ↓e_c1, ↓i_seq, ↓i_rng1, ↓i_rng2, ↓intP_int, ↓o_add, ↓o_sub, ↓o_mul, ↓o_fdiv, ↓o_mod, ↓o_pow, ↓o_addT, ↓c_eqI, ↓c_neI, ↓c_lt, ↓c_gt, ↓c_le, ↓c_ge, ↓n_int, ↓t_bl, ↓t_int, ↓x_tup, ↓b_lenT, ↓b_abs, ↓b_int, ↓b_tupT, ↓b_tupL, ↓b_list, ↓b_sorted, ↓b_lrg1, ↓b_trg1, ↓b_isi, ↓a_nil, ↓a_cons, ↓y_tup, ↓y_int, ↓y_bl, ↓y_non, ↓y_str, ↓it_tup, ↓sq_tup, ↓m_indexT, ↓k_tup, ↓ow_tup, ↓l_bl, ↓l_int, ↓l_non, ↓z_asg, ↓z_asgT, ↓z_par, ↓z_sub, ↓z_aug, ↓g_add, ↓g_sub, ↓z_ex, ↓z_ret, ↓z_if, ↓z_raise, ↓z_for, ↓z_while, ↓bt_nm, ↓bt_tp, ↓bts_n, ↓bts_c, ↓z_try, ↓tq_xc, ↓tq_nx, ↓tq_rt, ↓cq_nx, ↓cq_rt, ↓cq_xc, w_wipe0, w_wipe1, nth_0, nth_1, nth_2, nth_3, nth_4, startZ, endOf, List.map, List.length, List.replicate, List.cons_append, List.nil_append, List.append_nil, List.getElem?_cons_zero, List.getElem?_cons_succ, List.set_cons_zero, List.set_cons_succ, Nat.reduceAdd, Nat.reduceSub, Nat.reduceLT, Nat.zero_add, Nat.add_zero, Nat.sub_self, Int.reduceNeg, Int.reduceToNat, if_true, if_false, Bool.false_eq_true, Bool.not_true, Bool.not_false, Bool.and_true, Bool.true_and, Bool.and_false, Bool.false_and, and_true, true_and, Option.isSome_some, Bool.and_self, reduceIte, reduceCtorEq, decide_true, decide_false, decide_eq_true_eq, not_true_eq_false, not_false_eq_true, or_false, or_true, true_or, false_or, B_is_order]
  refine walk_each Val.int ns (fun n => .bl (decide (0 ≤ n ∧ n ≤ (m : Int) - 1))) st_nil (fun n _ => ?_) ?_
  · simp only [↓w_cons, ↓w_nil, ↓w_ev, ↓w_fin, ↓w_some, ↓t_nx, ↓t_bk, ↓t_ct, ↓t_rt, ↓t_xc, ↓r_bnd, ↓r_ret, ↓r_ok, ↓r_ite, ↓w_ite, ↓r_guard, ↓r_alloc, ↓r_optM', ↓optP_some, ↓r_noExc, ↓r_exc, ↓e_var, ↓varP_some, ↓e_con, ↓e_bin, ↓e_cmp, ↓e_chain, ↓e_neg, ↓e_inv, ↓e_not, ↓e_and, ↓e_or, ↓v_and, ↓v_or, ↓e_ifx, ↓e_idx, ↓e_sl, ↓e_rev, ↓e_lst, ↓e_tup, ↓e_dict, ↓e_call, ↓e_bi, ↓e_me, ↓e_comp, ↓e_nil, ↓e_cons, ↓e_c0, ↓e_c1, ↓i_seq, ↓i_rng1, ↓i_rng2, ↓intP_int, ↓o_add, ↓o_sub, ↓o_mul, ↓o_fdiv, ↓o_mod, ↓o_pow, ↓o_addT, ↓c_eqI, ↓c_neI, ↓c_lt, ↓c_gt, ↓c_le, ↓c_ge, ↓n_int, ↓t_bl, ↓t_int, ↓x_tup, ↓b_lenT, ↓b_abs, ↓b_int, ↓b_tupT, ↓b_tupL, ↓b_list, ↓b_sorted, ↓b_lrg1, ↓b_trg1, ↓b_isi, ↓a_nil, ↓a_cons, ↓y_tup, ↓y_int, ↓y_bl, ↓y_non, ↓y_str, ↓it_tup, ↓sq_tup, ↓m_indexT, ↓k_tup, ↓ow_tup, ↓l_bl, ↓l_int, ↓l_non, ↓z_asg, ↓z_asgT, ↓z_par, ↓z_sub, ↓z_aug, ↓g_add, ↓g_sub, ↓z_ex, ↓z_ret, ↓z_if, ↓z_raise, ↓z_for, ↓z_while, ↓bt_nm, ↓bt_tp, ↓bts_n, ↓bts_c, ↓z_try, ↓tq_xc, ↓tq_nx, ↓tq_rt, ↓cq_nx, ↓cq_rt, ↓cq_xc, w_wipe0, w_wipe1, nth_0, nth_1, nth_2, nth_3, nth_4, startZ, endOf, List.map, List.length, List.replicate, List.cons_append, List.nil_append, List.append_nil, List.getElem?_cons_zero, List.getElem?_cons_succ, List.set_cons_zero, List.set_cons_succ, Nat.reduceAdd, Nat.reduceSub, Nat.reduceLT, Nat.zero_add, Nat.add_zero, Nat.sub_self, Int.reduceNeg, Int.reduceToNat, if_true, if_false, Bool.false_eq_true, Bool.not_true, Bool.not_false, Bool.and_true, Bool.true_and, Bool.and_false, Bool.false_and, and_true, true_and, Option.isSome_some, Bool.and_self, reduceIte, reduceCtorEq, decide_true, decide_false, decide_eq_true_eq, not_true_eq_false, not_false_eq_true, or_false, or_true, true_or, false_or]
    refine btw_int ?_
    exact ⟨rfl, rfl⟩
  refine ⟨by rw [List.length_map]; unfold SL; omega, ?_⟩
  rw [show ns.map (fun n => Val.bl (decide (0 ≤ n ∧ n ≤ (m : Int) - 1))) = (ns.map fun n => decide (0 ≤ n ∧ n ≤ (m : Int) - 1)).map Val.bl by rw [List.map_map]; rfl]
  simp only [↓w_cons, ↓w_nil, ↓w_ev, ↓w_fin, ↓w_some, ↓t_nx, ↓t_bk, ↓t_ct, ↓t_rt, ↓t_xc, ↓r_bnd, ↓r_ret, ↓r_ok, ↓r_ite, ↓w_ite, ↓r_guard, ↓r_alloc, ↓r_optM', ↓optP_some, ↓r_noExc, ↓r_exc, ↓e_var, ↓varP_some, ↓e_con, ↓e_bin, ↓e_cmp, ↓e_chain, ↓e_neg, ↓e_inv, ↓e_not, ↓e_and, ↓e_or, ↓v_and, ↓v_or, ↓e_ifx, ↓e_idx, ↓e_sl, ↓e_rev, ↓e_lst, ↓e_tup, ↓e_dict, ↓e_call, ↓e_bi, ↓e_me, ↓e_comp, ↓e_nil, ↓e_cons, ↓e_c0, ↓e_c1, ↓i_seq, ↓i_rng1, ↓i_rng2, ↓intP_int, ↓o_add, ↓o_sub, ↓o_mul, ↓o_fdiv, ↓o_mod, ↓o_pow, ↓o_addT, ↓c_eqI, ↓c_neI, ↓c_lt, ↓c_gt, ↓c_le, ↓c_ge, ↓n_int, ↓t_bl, ↓t_int, ↓x_tup, ↓b_lenT, ↓b_abs, ↓b_int, ↓b_tupT, ↓b_tupL, ↓b_list, ↓b_sorted, ↓b_lrg1, ↓b_trg1, ↓b_isi, ↓a_nil, ↓a_cons, ↓y_tup, ↓y_int, ↓y_bl, ↓y_non, ↓y_str, ↓it_tup, ↓sq_tup, ↓m_indexT, ↓k_tup, ↓ow_tup, ↓l_bl, ↓l_int, ↓l_non, ↓z_asg, ↓z_asgT, ↓z_par, ↓z_sub, ↓z_aug, ↓g_add, ↓g_sub, ↓z_ex, ↓z_ret, ↓z_if, ↓z_raise, ↓z_for, ↓z_while, ↓bt_nm, ↓bt_tp, ↓bts_n, ↓bts_c, ↓z_try, ↓tq_xc, ↓tq_nx, ↓tq_rt, ↓cq_nx, ↓cq_rt, ↓cq_xc, w_wipe0, w_wipe1, nth_0, nth_1, nth_2, nth_3, nth_4, startZ, endOf, List.map, List.length, List.replicate, List.cons_append, List.nil_append, List.append_nil, List.getElem?_cons_zero, List.getElem?_cons_succ, List.set_cons_zero, List.set_cons_succ, Nat.reduceAdd, Nat.reduceSub, Nat.reduceLT, Nat.zero_add, Nat.add_zero, Nat.sub_self, Int.reduceNeg, Int.reduceToNat, if_true, if_false, Bool.false_eq_true, Bool.not_true, Bool.not_false, Bool.and_true, Bool.true_and, Bool.and_false, Bool.false_and, and_true, true_and, Option.isSome_some, Bool.and_self, reduceIte, reduceCtorEq, decide_true, decide_false, decide_eq_true_eq, not_true_eq_false, not_false_eq_true, or_false, or_true, true_or, false_or]
  have g0 : ∀ {x : List Ob} {bs : List Bool}, get ((Ob.lst (bs.map Val.bl) :: x) :: h) h.length 0 = some (.lst (bs.map Val.bl)) := by intro x bs; exact get_top
  rw [b_all g0]
  rw [sortOk_ints, sortV_map, range_up]
  by_cases ha : (List.map (fun n => decide (0 ≤ n ∧ n ≤ (m : Int) - 1)) ns).all id = true
  · rw [ha]
    simp only [↓w_cons, ↓w_nil, ↓w_ev, ↓w_fin, ↓w_some, ↓t_nx, ↓t_bk, ↓t_ct, ↓t_rt, ↓t_xc, ↓r_bnd, ↓r_ret, ↓r_ok, ↓r_ite, ↓w_ite, ↓r_guard, ↓r_alloc, ↓r_optM', ↓optP_some, ↓r_noExc, ↓r_exc, ↓e_var, ↓varP_some, ↓e_con, ↓e_bin, ↓e_cmp, ↓e_chain, ↓e_neg, ↓e_inv, ↓e_not, ↓e_and, ↓e_or, ↓v_and, ↓v_or, ↓e_ifx, ↓e_idx, ↓e_sl, ↓e_rev, ↓e_lst, ↓e_tup, ↓e_dict, ↓e_call, ↓e_bi, ↓e_me, ↓e_comp, ↓e_nil, ↓e_cons, ↓e_c0, ↓e_c1, ↓i_seq, ↓i_rng1, ↓i_rng2, ↓intP_int, ↓o_add, ↓o_sub, ↓o_mul, ↓o_fdiv, ↓o_mod, ↓o_pow, ↓o_addT, ↓c_eqI, ↓c_neI, ↓c_lt, ↓c_gt, ↓c_le, ↓c_ge, ↓n_int, ↓t_bl, ↓t_int, ↓x_tup, ↓b_lenT, ↓b_abs, ↓b_int, ↓b_tupT, ↓b_tupL, ↓b_list, ↓b_sorted, ↓b_lrg1, ↓b_trg1, ↓b_isi, ↓a_nil, ↓a_cons, ↓y_tup, ↓y_int, ↓y_bl, ↓y_non, ↓y_str, ↓it_tup, ↓sq_tup, ↓m_indexT, ↓k_tup, ↓ow_tup, ↓l_bl, ↓l_int, ↓l_non, ↓z_asg, ↓z_asgT, ↓z_par, ↓z_sub, ↓z_aug, ↓g_add, ↓g_sub, ↓z_ex, ↓z_ret, ↓z_if, ↓z_raise, ↓z_for, ↓z_while, ↓bt_nm, ↓bt_tp, ↓bts_n, ↓bts_c, ↓z_try, ↓tq_xc, ↓tq_nx, ↓tq_rt, ↓cq_nx, ↓cq_rt, ↓cq_xc, w_wipe0, w_wipe1, nth_0, nth_1, nth_2, nth_3, nth_4, startZ, endOf, List.map, List.length, List.replicate, List.cons_append, List.nil_append, List.append_nil, List.getElem?_cons_zero, List.getElem?_cons_succ, List.set_cons_zero, List.set_cons_succ, Nat.reduceAdd, Nat.reduceSub, Nat.reduceLT, Nat.zero_add, Nat.add_zero, Nat.sub_self, Int.reduceNeg, Int.reduceToNat, if_true, if_false, Bool.false_eq_true, Bool.not_true, Bool.not_false, Bool.and_true, Bool.true_and, Bool.and_false, Bool.false_and, and_true, true_and, Option.isSome_some, Bool.and_self, reduceIte, reduceCtorEq, decide_true, decide_false, decide_eq_true_eq, not_true_eq_false, not_false_eq_true, or_false, or_true, true_or, false_or]
    refine ⟨⟨by omega, by omega⟩, ?_⟩
    have g1 : ∀ {a b c : Ob}, get ([a, b, c] :: h) h.length 1 = some b := get_top
    have g2 : ∀ {a b c : Ob}, get ([a, b, c] :: h) h.length 2 = some c := get_top
    rw [c_eqL g1 g2, l_bl]
    have : decide (sortI ns = upTo m) = decide (ns.Perm (upTo m)) := by
      rw [decide_eq_decide]
      exact ⟨not_upTo, sort_upTo⟩
    rw [this]; exact q
  · have : decide (ns.Perm (upTo m)) = false := decide_eq_false fun p => ha <| by
      rw [List.all_map]
      refine List.all_eq_true.mpr fun n hn => decide_eq_true ?_
      have := mem_upTo.mp (p.subset hn)
      omega
    rw [this] at q
    rw [Bool.eq_false_iff.mpr ha]
    simp only [↓w_cons, ↓w_nil, ↓w_ev, ↓w_fin, ↓w_some, ↓t_nx, ↓t_bk, ↓t_ct, ↓t_rt, ↓t_xc, ↓r_bnd, ↓r_ret, ↓r_ok, ↓r_ite, ↓w_ite, ↓r_guard, ↓r_alloc, ↓r_optM', ↓optP_some, ↓r_noExc, ↓r_exc, ↓e_var, ↓varP_some, ↓e_con, ↓e_bin, ↓e_cmp, ↓e_chain, ↓e_neg, ↓e_inv, ↓e_not, ↓e_and, ↓e_or, ↓v_and, ↓v_or, ↓e_ifx, ↓e_idx, ↓e_sl, ↓e_rev, ↓e_lst, ↓e_tup, ↓e_dict, ↓e_call, ↓e_bi, ↓e_me, ↓e_comp, ↓e_nil, ↓e_cons, ↓e_c0, ↓e_c1, ↓i_seq, ↓i_rng1, ↓i_rng2, ↓intP_int, ↓o_add, ↓o_sub, ↓o_mul, ↓o_fdiv, ↓o_mod, ↓o_pow, ↓o_addT, ↓c_eqI, ↓c_neI, ↓c_lt, ↓c_gt, ↓c_le, ↓c_ge, ↓n_int, ↓t_bl, ↓t_int, ↓x_tup, ↓b_lenT, ↓b_abs, ↓b_int, ↓b_tupT, ↓b_tupL, ↓b_list, ↓b_sorted, ↓b_lrg1, ↓b_trg1, ↓b_isi, ↓a_nil, ↓a_cons, ↓y_tup, ↓y_int, ↓y_bl, ↓y_non, ↓y_str, ↓it_tup, ↓sq_tup, ↓m_indexT, ↓k_tup, ↓ow_tup, ↓l_bl, ↓l_int, ↓l_non, ↓z_asg, ↓z_asgT, ↓z_par, ↓z_sub, ↓z_aug, ↓g_add, ↓g_sub, ↓z_ex, ↓z_ret, ↓z_if, ↓z_raise, ↓z_for, ↓z_while, ↓bt_nm, ↓bt_tp, ↓bts_n, ↓bts_c, ↓z_try, ↓tq_xc, ↓tq_nx, ↓tq_rt, ↓cq_nx, ↓cq_rt, ↓cq_xc, w_wipe0, w_wipe1, nth_0, nth_1, nth_2, nth_3, nth_4, startZ, endOf, List.map, List.length, List.replicate, List.cons_append, List.nil_append, List.append_nil, List.getElem?_cons_zero, List.getElem?_cons_succ, List.set_cons_zero, List.set_cons_succ, Nat.reduceAdd, Nat.reduceSub, Nat.reduceLT, Nat.zero_add, Nat.add_zero, Nat.sub_self, Int.reduceNeg, Int.reduceToNat, if_true, if_false, Bool.false_eq_true, Bool.not_true, Bool.not_false, Bool.and_true, Bool.true_and, Bool.and_false, Bool.false_and, and_true, true_and, Option.isSome_some, Bool.and_self, reduceIte, reduceCtorEq, decide_true, decide_false, decide_eq_true_eq, not_true_eq_false, not_false_eq_true, or_false, or_true, true_or, false_or]
    exact q
theorem order_bools {bs : List Bool} {m : Int} (hn : bs.length ≤ 1000) (h0 : bs ≠ []) (q : P (.bl false) h) : wp (callN fds (k + 3) 2 [.tup (bs.map .bl), .int m] h) P X := by
  refine call_of (d := B_is_order) rfl rfl ?_
  simp only [↓w_cons, ↓w_nil, ↓w_ev, ↓w_fin, ↓w_some, ↓t_nx, ↓t_bk, ↓t_ct, ↓t_rt, ↓t_xc, ↓r_bnd, ↓r_ret, ↓r_ok, ↓r_ite, ↓w_ite, ↓r_guard, ↓r_alloc, ↓r_optM', ↓optP_some, ↓r_noExc, ↓r_exc, ↓e_var, ↓varP_some, ↓e_con, ↓e_bin, ↓e_cmp, ↓e_chain, ↓e_neg, ↓e_inv, ↓e_not, ↓e_and, ↓e_or, ↓v_and, ↓v_or, ↓e_ifx, ↓e_idx, ↓e_sl, ↓e_rev, ↓e_lst, ↓e_tup, ↓e_dict, ↓e_call, ↓e_bi, ↓e_me, ↓e_comp, ↓e_nil, ↓e_cons, ↓e_c0, ↓e_c1, ↓i_seq, ↓i_rng1, ↓i_rng2, ↓intP_int, ↓o_add, ↓o_sub, ↓o_mul, ↓o_fdiv, ↓o_mod, ↓o_pow, ↓o_addT, ↓c_eqI, ↓c_neI, ↓c_lt, ↓c_gt, ↓c_le, ↓c_ge, ↓n_int, ↓t_bl, ↓t_int, ↓x_tup, ↓b_lenT, ↓b_abs, ↓b_int, ↓b_tupT, ↓b_tupL, ↓b_list, ↓b_sorted, ↓b_lrg1, ↓b_trg1, ↓b_isi, ↓a_nil, ↓a_cons, ↓y_tup, ↓y_int, ↓y_bl, ↓y_non, ↓y_str, ↓it_tup, ↓sq_tup, ↓m_indexT, ↓k_tup, ↓ow_tup, ↓l_bl, ↓l_int, ↓l_non, ↓z_asg, ↓z_asgT, ↓z_par, ↓z_sub, ↓z_aug, ↓g_add, ↓g_sub, ↓z_ex, ↓z_ret, ↓z_if, ↓z_raise, ↓z_for, ↓z_while, ↓bt_nm, ↓bt_tp, ↓bts_n, ↓bts_c, ↓z_try, ↓tq_xc, ↓tq_nx, ↓tq_rt, ↓cq_nx, ↓cq_rt, ↓cq_xc, w_wipe0, w_wipe1, nth_0, nth_1, nth_2, nth_3, nth_4, startZ, endOf, List.map, List.length, List.replicate, List.cons_append, List.nil_append, List.append_nil, List.getElem?_cons_zero, List.getElem?_cons_succ, List.set_cons_zero, List.set_cons_succ, Nat.reduceAdd, Nat.reduceSub, Nat.reduceLT, Nat.zero_add, Nat.add_zero, Nat.sub_self, Int.reduceNeg, Int.reduceToNat, if_true, if_false, Bool.false_eq_true, Bool.not_true, Bool.not_false, Bool.and_true, Bool.true_and, Bool.and_false, Bool.false_and, and_true, true_and, Option.isSome_some, Bool.and_self, reduceIte, reduceCtorEq, decide_true, decide_false, decide_eq_true_eq, not_true_eq_false, not_false_eq_true, or_false, or_true, true_or, false_or, B_is_order]
  refine walk_each Val.bl bs (fun _ => .bl false) st_nil (fun n _ => ?_) ?_
  · simp only [↓w_cons, ↓w_nil, ↓w_ev, ↓w_fin, ↓w_some, ↓t_nx, ↓t_bk, ↓t_ct, ↓t_rt, ↓t_xc, ↓r_bnd, ↓r_ret, ↓r_ok, ↓r_ite, ↓w_ite, ↓r_guard, ↓r_alloc, ↓r_optM', ↓optP_some, ↓r_noExc, ↓r_exc, ↓e_var, ↓varP_some, ↓e_con, ↓e_bin, ↓e_cmp, ↓e_chain, ↓e_neg, ↓e_inv, ↓e_not, ↓e_and, ↓e_or, ↓v_and, ↓v_or, ↓e_ifx, ↓e_idx, ↓e_sl, ↓e_rev, ↓e_lst, ↓e_tup, ↓e_dict, ↓e_call, ↓e_bi, ↓e_me, ↓e_comp, ↓e_nil, ↓e_cons, ↓e_c0, ↓e_c1, ↓i_seq, ↓i_rng1, ↓i_rng2, ↓intP_int, ↓o_add, ↓o_sub, ↓o_mul, ↓o_fdiv, ↓o_mod, ↓o_pow, ↓o_addT, ↓c_eqI, ↓c_neI, ↓c_lt, ↓c_gt, ↓c_le, ↓c_ge, ↓n_int, ↓t_bl, ↓t_int, ↓x_tup, ↓b_lenT, ↓b_abs, ↓b_int, ↓b_tupT, ↓b_tupL, ↓b_list, ↓b_sorted, ↓b_lrg1, ↓b_trg1, ↓b_isi, ↓a_nil, ↓a_cons, ↓y_tup, ↓y_int, ↓y_bl, ↓y_non, ↓y_str, ↓it_tup, ↓sq_tup, ↓m_indexT, ↓k_tup, ↓ow_tup, ↓l_bl, ↓l_int, ↓l_non, ↓z_asg, ↓z_asgT, ↓z_par, ↓z_sub, ↓z_aug, ↓g_add, ↓g_sub, ↓z_ex, ↓z_ret, ↓z_if, ↓z_raise, ↓z_for, ↓z_while, ↓bt_nm, ↓bt_tp, ↓bts_n, ↓bts_c, ↓z_try, ↓tq_xc, ↓tq_nx, ↓tq_rt, ↓cq_nx, ↓cq_rt, ↓cq_xc, w_wipe0, w_wipe1, nth_0, nth_1, nth_2, nth_3, nth_4, startZ, endOf, List.map, List.length, List.replicate, List.cons_append, List.nil_append, List.append_nil, List.getElem?_cons_zero, List.getElem?_cons_succ, List.set_cons_zero, List.set_cons_succ, Nat.reduceAdd, Nat.reduceSub, Nat.reduceLT, Nat.zero_add, Nat.add_zero, Nat.sub_self, Int.reduceNeg, Int.reduceToNat, if_true, if_false, Bool.false_eq_true, Bool.not_true, Bool.not_false, Bool.and_true, Bool.true_and, Bool.and_false, Bool.false_and, and_true, true_and, Option.isSome_some, Bool.and_self, reduceIte, reduceCtorEq, decide_true, decide_false, decide_eq_true_eq, not_true_eq_false, not_false_eq_true, or_false, or_true, true_or, false_or]
    refine btw_bl ?_
    exact ⟨rfl, rfl⟩
  refine ⟨by rw [List.length_map]; unfold SL; omega, ?_⟩
  rw [show bs.map (fun n => Val.bl false) = (bs.map fun n => false).map Val.bl by rw [List.map_map]; rfl]
  simp only [↓w_cons, ↓w_nil, ↓w_ev, ↓w_fin, ↓w_some, ↓t_nx, ↓t_bk, ↓t_ct, ↓t_rt, ↓t_xc, ↓r_bnd, ↓r_ret, ↓r_ok, ↓r_ite, ↓w_ite, ↓r_guard, ↓r_alloc, ↓r_optM', ↓optP_some, ↓r_noExc, ↓r_exc, ↓e_var, ↓varP_some, ↓e_con, ↓e_bin, ↓e_cmp, ↓e_chain, ↓e_neg, ↓e_inv, ↓e_not, ↓e_and, ↓e_or, ↓v_and, ↓v_or, ↓e_ifx, ↓e_idx, ↓e_sl, ↓e_rev, ↓e_lst, ↓e_tup, ↓e_dict, ↓e_call, ↓e_bi, ↓e_me, ↓e_comp, ↓e_nil, ↓e_cons, ↓e_c0, ↓e_c1, ↓i_seq, ↓i_rng1, ↓i_rng2, ↓intP_int, ↓o_add, ↓o_sub, ↓o_mul, ↓o_fdiv, ↓o_mod, ↓o_pow, ↓o_addT, ↓c_eqI, ↓c_neI, ↓c_lt, ↓c_gt, ↓c_le, ↓c_ge, ↓n_int, ↓t_bl, ↓t_int, ↓x_tup, ↓b_lenT, ↓b_abs, ↓b_int, ↓b_tupT, ↓b_tupL, ↓b_list, ↓b_sorted, ↓b_lrg1, ↓b_trg1, ↓b_isi, ↓a_nil, ↓a_cons, ↓y_tup, ↓y_int, ↓y_bl, ↓y_non, ↓y_str, ↓it_tup, ↓sq_tup, ↓m_indexT, ↓k_tup, ↓ow_tup, ↓l_bl, ↓l_int, ↓l_non, ↓z_asg, ↓z_asgT, ↓z_par, ↓z_sub, ↓z_aug, ↓g_add, ↓g_sub, ↓z_ex, ↓z_ret, ↓z_if, ↓z_raise, ↓z_for, ↓z_while, ↓bt_nm, ↓bt_tp, ↓bts_n, ↓bts_c, ↓z_try, ↓tq_xc, ↓tq_nx, ↓tq_rt, ↓cq_nx, ↓cq_rt, ↓cq_xc, w_wipe0, w_wipe1, nth_0, nth_1, nth_2, nth_3, nth_4, startZ, endOf, List.map, List.length, List.replicate, List.cons_append, List.nil_append, List.append_nil, List.getElem?_cons_zero, List.getElem?_cons_succ, List.set_cons_zero, List.set_cons_succ, Nat.reduceAdd, Nat.reduceSub, Nat.reduceLT, Nat.zero_add, Nat.add_zero, Nat.sub_self, Int.reduceNeg, Int.reduceToNat, if_true, if_false, Bool.false_eq_true, Bool.not_true, Bool.not_false, Bool.and_true, Bool.true_and, Bool.and_false, Bool.false_and, and_true, true_and, Option.isSome_some, Bool.and_self, reduceIte, reduceCtorEq, decide_true, decide_false, decide_eq_true_eq, not_true_eq_false, not_false_eq_true, or_false, or_true, true_or, false_or]
  have g0 : ∀ {x : List Ob} {bs : List Bool}, get ((Ob.lst (bs.map Val.bl) :: x) :: h) h.length 0 = some (.lst (bs.map Val.bl)) := by intro x bs; exact get_top
  rw [b_all g0]
  have : (List.map (fun _ => false) bs).all id = false := by
    cases bs with
    | nil => exact absurd rfl h0
    | cons _ _ => rfl
  rw [this]
  simp only [↓w_cons, ↓w_nil, ↓w_ev, ↓w_fin, ↓w_some, ↓t_nx, ↓t_bk, ↓t_ct, ↓t_rt, ↓t_xc, ↓r_bnd, ↓r_ret, ↓r_ok, ↓r_ite, ↓w_ite, ↓r_guard, ↓r_alloc, ↓r_optM', ↓optP_some, ↓r_noExc, ↓r_exc, ↓e_var, ↓varP_some, ↓e_con, ↓e_bin, ↓e_cmp, ↓e_chain, ↓e_neg, ↓e_inv, ↓e_not, ↓e_and, ↓e_or, ↓v_and, ↓v_or, ↓e_ifx, ↓e_idx, ↓e_sl, ↓e_rev, ↓e_lst, ↓e_tup, ↓e_dict, ↓e_call, ↓e_bi, ↓e_me, ↓e_comp, ↓e_nil, ↓e_cons, ↓e_c0, ↓e_c1, ↓i_seq, ↓i_rng1, ↓i_rng2, ↓intP_int, ↓o_add, ↓o_sub, ↓o_mul, ↓o_fdiv, ↓o_mod, ↓o_pow, ↓o_addT, ↓c_eqI, ↓c_neI, ↓c_lt, ↓c_gt, ↓c_le, ↓c_ge, ↓n_int, ↓t_bl, ↓t_int, ↓x_tup, ↓b_lenT, ↓b_abs, ↓b_int, ↓b_tupT, ↓b_tupL, ↓b_list, ↓b_sorted, ↓b_lrg1, ↓b_trg1, ↓b_isi, ↓a_nil, ↓a_cons, ↓y_tup, ↓y_int, ↓y_bl, ↓y_non, ↓y_str, ↓it_tup, ↓sq_tup, ↓m_indexT, ↓k_tup, ↓ow_tup, ↓l_bl, ↓l_int, ↓l_non, ↓z_asg, ↓z_asgT, ↓z_par, ↓z_sub, ↓z_aug, ↓g_add, ↓g_sub, ↓z_ex, ↓z_ret, ↓z_if, ↓z_raise, ↓z_for, ↓z_while, ↓bt_nm, ↓bt_tp, ↓bts_n, ↓bts_c, ↓z_try, ↓tq_xc, ↓tq_nx, ↓tq_rt, ↓cq_nx, ↓cq_rt, ↓cq_xc, w_wipe0, w_wipe1, nth_0, nth_1, nth_2, nth_3, nth_4, startZ, endOf, List.map, List.length, List.replicate, List.cons_append, List.nil_append, List.append_nil, List.getElem?_cons_zero, List.getElem?_cons_succ, List.set_cons_zero, List.set_cons_succ, Nat.reduceAdd, Nat.reduceSub, Nat.reduceLT, Nat.zero_add, Nat.add_zero, Nat.sub_self, Int.reduceNeg, Int.reduceToNat, if_true, if_false, Bool.false_eq_true, Bool.not_true, Bool.not_false, Bool.and_true, Bool.true_and, Bool.and_false, Bool.false_and, and_true, true_and, Option.isSome_some, Bool.and_self, reduceIte, reduceCtorEq, decide_true, decide_false, decide_eq_true_eq, not_true_eq_false, not_false_eq_true, or_false, or_true, true_or, false_or]
  exact q
/-- what is no order -/
theorem lf_bad {v : Val} (bad : (∃ ns : List Int, v = .tup (ns.map .int) ∧ ns.length ≤ 100 ∧ ¬ (1 ≤ ns.length ∧ ns.length ≤ 24 ∧ ns.Perm (upTo ns.length))) ∨ (∃ bs : List Bool, v = .tup (bs.map .bl) ∧ bs ≠ [] ∧ bs.length ≤ 100) ∨ v = .non ∨ (∃ x, v = .str x) ∨ ∃ d i xs, v = .loc d i ∧ get h d i = some (.lst xs))
    (q : X 1 [] h) : wp (callN fds (k + 4) 3 [v] h) P X := by
  refine call_of (d := B_longest_falling) rfl rfl ?_
  rcases bad with ⟨ns, rfl, hl, hb⟩ | ⟨bs, rfl, hb, hl⟩ | rfl | ⟨x, rfl⟩ | ⟨d, i, xs, rfl, g⟩
  · simp only [↓w_cons, ↓w_nil, ↓w_ev, ↓w_fin, ↓w_some, ↓t_nx, ↓t_bk, ↓t_ct, ↓t_rt, ↓t_xc, ↓r_bnd, ↓r_ret, ↓r_ok, ↓r_ite, ↓w_ite, ↓r_guard, ↓r_alloc, ↓r_optM', ↓optP_some, ↓r_noExc, ↓r_exc, ↓e_var, ↓varP_some, ↓e_con, ↓e_bin, ↓e_cmp, ↓e_chain, ↓e_neg, ↓e_inv, ↓e_not, ↓e_and, ↓e_or, ↓v_and, ↓v_or, ↓e_ifx, ↓e_idx, ↓e_sl, ↓e_rev, ↓e_lst, ↓e_tup, ↓e_dict, ↓e_call, ↓e_bi, ↓e_me, ↓e_comp, ↓e_nil, ↓e_cons, ↓e_c0, ↓e_c1, ↓i_seq, ↓i_rng1, ↓i_rng2, ↓intP_int, ↓o_add, ↓o_sub, ↓o_mul, ↓o_fdiv, ↓o_mod, ↓o_pow, ↓o_addT, ↓c_eqI, ↓c_neI, ↓c_lt, ↓c_gt, ↓c_le, ↓c_ge, ↓n_int, ↓t_bl, ↓t_int, ↓x_tup, ↓b_lenT, ↓b_abs, ↓b_int, ↓b_tupT, ↓b_tupL, ↓b_list, ↓b_sorted, ↓b_lrg1, ↓b_trg1, ↓b_isi, ↓a_nil, ↓a_cons, ↓y_tup, ↓y_int, ↓y_bl, ↓y_non, ↓y_str, ↓it_tup, ↓sq_tup, ↓m_indexT, ↓k_tup, ↓ow_tup, ↓l_bl, ↓l_int, ↓l_non, ↓z_asg, ↓z_asgT, ↓z_par, ↓z_sub, ↓z_aug, ↓g_add, ↓g_sub, ↓z_ex, ↓z_ret, ↓z_if, ↓z_raise, ↓z_for, ↓z_while, ↓bt_nm, ↓bt_tp, ↓bts_n, ↓bts_c, ↓z_try, ↓tq_xc, ↓tq_nx, ↓tq_rt, ↓cq_nx, ↓cq_rt, ↓cq_xc, w_wipe0, w_wipe1, nth_0, nth_1, nth_2, nth_3, nth_4, startZ, endOf, List.map, List.length, List.replicate, List.cons_append, List.nil_append, List.append_nil, List.getElem?_cons_zero, List.getElem?_cons_succ, List.set_cons_zero, List.set_cons_succ, Nat.reduceAdd, Nat.reduceSub, Nat.reduceLT, Nat.zero_add, Nat.add_zero, Nat.sub_self, Int.reduceNeg, Int.reduceToNat, if_true, if_false, Bool.false_eq_true, Bool.not_true, Bool.not_false, Bool.and_true, Bool.true_and, Bool.and_false, Bool.false_and, and_true, true_and, Option.isSome_some, Bool.and_self, reduceIte, reduceCtorEq, decide_true, decide_false, decide_eq_true_eq, not_true_eq_false, not_false_eq_true, or_false, or_true, true_or, false_or, B_longest_falling]
    split
    · split
      · exact q
      · rename_i h1 h2
        rw [show ((List.map Val.int ns).length : Int) = (ns.length : Int) by simp]
        refine order_ints (m := ns.length) (by omega) (by omega) ?_
        rw [List.length_map] at h1 h2
        have : decide (ns.Perm (upTo ns.length)) = false := decide_eq_false fun p => hb ⟨by omega, by simp at h2; omega, p⟩
        rw [this]
        simp only [↓w_cons, ↓w_nil, ↓w_ev, ↓w_fin, ↓w_some, ↓t_nx, ↓t_bk, ↓t_ct, ↓t_rt, ↓t_xc, ↓r_bnd, ↓r_ret, ↓r_ok, ↓r_ite, ↓w_ite, ↓r_guard, ↓r_alloc, ↓r_optM', ↓optP_some, ↓r_noExc, ↓r_exc, ↓e_var, ↓varP_some, ↓e_con, ↓e_bin, ↓e_cmp, ↓e_chain, ↓e_neg, ↓e_inv, ↓e_not, ↓e_and, ↓e_or, ↓v_and, ↓v_or, ↓e_ifx, ↓e_idx, ↓e_sl, ↓e_rev, ↓e_lst, ↓e_tup, ↓e_dict, ↓e_call, ↓e_bi, ↓e_me, ↓e_comp, ↓e_nil, ↓e_cons, ↓e_c0, ↓e_c1, ↓i_seq, ↓i_rng1, ↓i_rng2, ↓intP_int, ↓o_add, ↓o_sub, ↓o_mul, ↓o_fdiv, ↓o_mod, ↓o_pow, ↓o_addT, ↓c_eqI, ↓c_neI, ↓c_lt, ↓c_gt, ↓c_le, ↓c_ge, ↓n_int, ↓t_bl, ↓t_int, ↓x_tup, ↓b_lenT, ↓b_abs, ↓b_int, ↓b_tupT, ↓b_tupL, ↓b_list, ↓b_sorted, ↓b_lrg1, ↓b_trg1, ↓b_isi, ↓a_nil, ↓a_cons, ↓y_tup, ↓y_int, ↓y_bl, ↓y_non, ↓y_str, ↓it_tup, ↓sq_tup, ↓m_indexT, ↓k_tup, ↓ow_tup, ↓l_bl, ↓l_int, ↓l_non, ↓z_asg, ↓z_asgT, ↓z_par, ↓z_sub, ↓z_aug, ↓g_add, ↓g_sub, ↓z_ex, ↓z_ret, ↓z_if, ↓z_raise, ↓z_for, ↓z_while, ↓bt_nm, ↓bt_tp, ↓bts_n, ↓bts_c, ↓z_try, ↓tq_xc, ↓tq_nx, ↓tq_rt, ↓cq_nx, ↓cq_rt, ↓cq_xc, w_wipe0, w_wipe1, nth_0, nth_1, nth_2, nth_3, nth_4, startZ, endOf, List.map, List.length, List.replicate, List.cons_append, List.nil_append, List.append_nil, List.getElem?_cons_zero, List.getElem?_cons_succ, List.set_cons_zero, List.set_cons_succ, Nat.reduceAdd, Nat.reduceSub, Nat.reduceLT, Nat.zero_add, Nat.add_zero, Nat.sub_self, Int.reduceNeg, Int.reduceToNat, if_true, if_false, Bool.false_eq_true, Bool.not_true, Bool.not_false, Bool.and_true, Bool.true_and, Bool.and_false, Bool.false_and, and_true, true_and, Option.isSome_some, Bool.and_self, reduceIte, reduceCtorEq, decide_true, decide_false, decide_eq_true_eq, not_true_eq_false, not_false_eq_true, or_false, or_true, true_or, false_or]
        exact q
    · exact q
  · simp only [↓w_cons, ↓w_nil, ↓w_ev, ↓w_fin, ↓w_some, ↓t_nx, ↓t_bk, ↓t_ct, ↓t_rt, ↓t_xc, ↓r_bnd, ↓r_ret, ↓r_ok, ↓r_ite, ↓w_ite, ↓r_guard, ↓r_alloc, ↓r_optM', ↓optP_some, ↓r_noExc, ↓r_exc, ↓e_var, ↓varP_some, ↓e_con, ↓e_bin, ↓e_cmp, ↓e_chain, ↓e_neg, ↓e_inv, ↓e_not, ↓e_and, ↓e_or, ↓v_and, ↓v_or, ↓e_ifx, ↓e_idx, ↓e_sl, ↓e_rev, ↓e_lst, ↓e_tup, ↓e_dict, ↓e_call, ↓e_bi, ↓e_me, ↓e_comp, ↓e_nil, ↓e_cons, ↓e_c0, ↓e_c1, ↓i_seq, ↓i_rng1, ↓i_rng2, ↓intP_int, ↓o_add, ↓o_sub, ↓o_mul, ↓o_fdiv, ↓o_mod, ↓o_pow, ↓o_addT, ↓c_eqI, ↓c_neI, ↓c_lt, ↓c_gt, ↓c_le, ↓c_ge, ↓n_int, ↓t_bl, ↓t_int, ↓x_tup, ↓b_lenT, ↓b_abs, ↓b_int, ↓b_tupT, ↓b_tupL, ↓b_list, ↓b_sorted, ↓b_lrg1, ↓b_trg1, ↓b_isi, ↓a_nil, ↓a_cons, ↓y_tup, ↓y_int, ↓y_bl, ↓y_non, ↓y_str, ↓it_tup, ↓sq_tup, ↓m_indexT, ↓k_tup, ↓ow_tup, ↓l_bl, ↓l_int, ↓l_non, ↓z_asg, ↓z_asgT, ↓z_par, ↓z_sub, ↓z_aug, ↓g_add, ↓g_sub, ↓z_ex, ↓z_ret, ↓z_if, ↓z_raise, ↓z_for, ↓z_while, ↓bt_nm, ↓bt_tp, ↓bts_n, ↓bts_c, ↓z_try, ↓tq_xc, ↓tq_nx, ↓tq_rt, ↓cq_nx, ↓cq_rt, ↓cq_xc, w_wipe0, w_wipe1, nth_0, nth_1, nth_2, nth_3, nth_4, startZ, endOf, List.map, List.length, List.replicate, List.cons_append, List.nil_append, List.append_nil, List.getElem?_cons_zero, List.getElem?_cons_succ, List.set_cons_zero, List.set_cons_succ, Nat.reduceAdd, Nat.reduceSub, Nat.reduceLT, Nat.zero_add, Nat.add_zero, Nat.sub_self, Int.reduceNeg, Int.reduceToNat, if_true, if_false, Bool.false_eq_true, Bool.not_true, Bool.not_false, Bool.and_true, Bool.true_and, Bool.and_false, Bool.false_and, and_true, true_and, Option.isSome_some, Bool.and_self, reduceIte, reduceCtorEq, decide_true, decide_false, decide_eq_true_eq, not_true_eq_false, not_false_eq_true, or_false, or_true, true_or, false_or, B_longest_falling]
    split
    · split
      · exact q
      · refine order_bools (by omega) hb ?_
        simp only [↓w_cons, ↓w_nil, ↓w_ev, ↓w_fin, ↓w_some, ↓t_nx, ↓t_bk, ↓t_ct, ↓t_rt, ↓t_xc, ↓r_bnd, ↓r_ret, ↓r_ok, ↓r_ite, ↓w_ite, ↓r_guard, ↓r_alloc, ↓r_optM', ↓optP_some, ↓r_noExc, ↓r_exc, ↓e_var, ↓varP_some, ↓e_con, ↓e_bin, ↓e_cmp, ↓e_chain, ↓e_neg, ↓e_inv, ↓e_not, ↓e_and, ↓e_or, ↓v_and, ↓v_or, ↓e_ifx, ↓e_idx, ↓e_sl, ↓e_rev, ↓e_lst, ↓e_tup, ↓e_dict, ↓e_call, ↓e_bi, ↓e_me, ↓e_comp, ↓e_nil, ↓e_cons, ↓e_c0, ↓e_c1, ↓i_seq, ↓i_rng1, ↓i_rng2, ↓intP_int, ↓o_add, ↓o_sub, ↓o_mul, ↓o_fdiv, ↓o_mod, ↓o_pow, ↓o_addT, ↓c_eqI, ↓c_neI, ↓c_lt, ↓c_gt, ↓c_le, ↓c_ge, ↓n_int, ↓t_bl, ↓t_int, ↓x_tup, ↓b_lenT, ↓b_abs, ↓b_int, ↓b_tupT, ↓b_tupL, ↓b_list, ↓b_sorted, ↓b_lrg1, ↓b_trg1, ↓b_isi, ↓a_nil, ↓a_cons, ↓y_tup, ↓y_int, ↓y_bl, ↓y_non, ↓y_str, ↓it_tup, ↓sq_tup, ↓m_indexT, ↓k_tup, ↓ow_tup, ↓l_bl, ↓l_int, ↓l_non, ↓z_asg, ↓z_asgT, ↓z_par, ↓z_sub, ↓z_aug, ↓g_add, ↓g_sub, ↓z_ex, ↓z_ret, ↓z_if, ↓z_raise, ↓z_for, ↓z_while, ↓bt_nm, ↓bt_tp, ↓bts_n, ↓bts_c, ↓z_try, ↓tq_xc, ↓tq_nx, ↓tq_rt, ↓cq_nx, ↓cq_rt, ↓cq_xc, w_wipe0, w_wipe1, nth_0, nth_1, nth_2, nth_3, nth_4, startZ, endOf, List.map, List.length, List.replicate, List.cons_append, List.nil_append, List.append_nil, List.getElem?_cons_zero, List.getElem?_cons_succ, List.set_cons_zero, List.set_cons_succ, Nat.reduceAdd, Nat.reduceSub, Nat.reduceLT, Nat.zero_add, Nat.add_zero, Nat.sub_self, Int.reduceNeg, Int.reduceToNat, if_true, if_false, Bool.false_eq_true, Bool.not_true, Bool.not_false, Bool.and_true, Bool.true_and, Bool.and_false, Bool.false_and, and_true, true_and, Option.isSome_some, Bool.and_self, reduceIte, reduceCtorEq, decide_true, decide_false, decide_eq_true_eq, not_true_eq_false, not_false_eq_true, or_false, or_true, true_or, false_or]
        exact q
    · exact q
  · simp only [↓w_cons, ↓w_nil, ↓w_ev, ↓w_fin, ↓w_some, ↓t_nx, ↓t_bk, ↓t_ct, ↓t_rt, ↓t_xc, ↓r_bnd, ↓r_ret, ↓r_ok, ↓r_ite, ↓w_ite, ↓r_guard, ↓r_alloc, ↓r_optM', ↓optP_some, ↓r_noExc, ↓r_exc, ↓e_var, ↓varP_some, ↓e_con, ↓e_bin, ↓e_cmp, ↓e_chain, ↓e_neg, ↓e_inv, ↓e_not, ↓e_and, ↓e_or, ↓v_and, ↓v_or, ↓e_ifx, ↓e_idx, ↓e_sl, ↓e_rev, ↓e_lst, ↓e_tup, ↓e_dict, ↓e_call, ↓e_bi, ↓e_me, ↓e_comp, ↓e_nil, ↓e_cons, ↓e_c0, ↓e_c1, ↓i_seq, ↓i_rng1, ↓i_rng2, ↓intP_int, ↓o_add, ↓o_sub, ↓o_mul, ↓o_fdiv, ↓o_mod, ↓o_pow, ↓o_addT, ↓c_eqI, ↓c_neI, ↓c_lt, ↓c_gt, ↓c_le, ↓c_ge, ↓n_int, ↓t_bl, ↓t_int, ↓x_tup, ↓b_lenT, ↓b_abs, ↓b_int, ↓b_tupT, ↓b_tupL, ↓b_list, ↓b_sorted, ↓b_lrg1, ↓b_trg1, ↓b_isi, ↓a_nil, ↓a_cons, ↓y_tup, ↓y_int, ↓y_bl, ↓y_non, ↓y_str, ↓it_tup, ↓sq_tup, ↓m_indexT, ↓k_tup, ↓ow_tup, ↓l_bl, ↓l_int, ↓l_non, ↓z_asg, ↓z_asgT, ↓z_par, ↓z_sub, ↓z_aug, ↓g_add, ↓g_sub, ↓z_ex, ↓z_ret, ↓z_if, ↓z_raise, ↓z_for, ↓z_while, ↓bt_nm, ↓bt_tp, ↓bts_n, ↓bts_c, ↓z_try, ↓tq_xc, ↓tq_nx, ↓tq_rt, ↓cq_nx, ↓cq_rt, ↓cq_xc, w_wipe0, w_wipe1, nth_0, nth_1, nth_2, nth_3, nth_4, startZ, endOf, List.map, List.length, List.replicate, List.cons_append, List.nil_append, List.append_nil, List.getElem?_cons_zero, List.getElem?_cons_succ, List.set_cons_zero, List.set_cons_succ, Nat.reduceAdd, Nat.reduceSub, Nat.reduceLT, Nat.zero_add, Nat.add_zero, Nat.sub_self, Int.reduceNeg, Int.reduceToNat, if_true, if_false, Bool.false_eq_true, Bool.not_true, Bool.not_false, Bool.and_true, Bool.true_and, Bool.and_false, Bool.false_and, and_true, true_and, Option.isSome_some, Bool.and_self, reduceIte, reduceCtorEq, decide_true, decide_false, decide_eq_true_eq, not_true_eq_false, not_false_eq_true, or_false, or_true, true_or, false_or, B_longest_falling]
    exact q
  · simp only [↓w_cons, ↓w_nil, ↓w_ev, ↓w_fin, ↓w_some, ↓t_nx, ↓t_bk, ↓t_ct, ↓t_rt, ↓t_xc, ↓r_bnd, ↓r_ret, ↓r_ok, ↓r_ite, ↓w_ite, ↓r_guard, ↓r_alloc, ↓r_optM', ↓optP_some, ↓r_noExc, ↓r_exc, ↓e_var, ↓varP_some, ↓e_con, ↓e_bin, ↓e_cmp, ↓e_chain, ↓e_neg, ↓e_inv, ↓e_not, ↓e_and, ↓e_or, ↓v_and, ↓v_or, ↓e_ifx, ↓e_idx, ↓e_sl, ↓e_rev, ↓e_lst, ↓e_tup, ↓e_dict, ↓e_call, ↓e_bi, ↓e_me, ↓e_comp, ↓e_nil, ↓e_cons, ↓e_c0, ↓e_c1, ↓i_seq, ↓i_rng1, ↓i_rng2, ↓intP_int, ↓o_add, ↓o_sub, ↓o_mul, ↓o_fdiv, ↓o_mod, ↓o_pow, ↓o_addT, ↓c_eqI, ↓c_neI, ↓c_lt, ↓c_gt, ↓c_le, ↓c_ge, ↓n_int, ↓t_bl, ↓t_int, ↓x_tup, ↓b_lenT, ↓b_abs, ↓b_int, ↓b_tupT, ↓b_tupL, ↓b_list, ↓b_sorted, ↓b_lrg1, ↓b_trg1, ↓b_isi, ↓a_nil, ↓a_cons, ↓y_tup, ↓y_int, ↓y_bl, ↓y_non, ↓y_str, ↓it_tup, ↓sq_tup, ↓m_indexT, ↓k_tup, ↓ow_tup, ↓l_bl, ↓l_int, ↓l_non, ↓z_asg, ↓z_asgT, ↓z_par, ↓z_sub, ↓z_aug, ↓g_add, ↓g_sub, ↓z_ex, ↓z_ret, ↓z_if, ↓z_raise, ↓z_for, ↓z_while, ↓bt_nm, ↓bt_tp, ↓bts_n, ↓bts_c, ↓z_try, ↓tq_xc, ↓tq_nx, ↓tq_rt, ↓cq_nx, ↓cq_rt, ↓cq_xc, w_wipe0, w_wipe1, nth_0, nth_1, nth_2, nth_3, nth_4, startZ, endOf, List.map, List.length, List.replicate, List.cons_append, List.nil_append, List.append_nil, List.getElem?_cons_zero, List.getElem?_cons_succ, List.set_cons_zero, List.set_cons_succ, Nat.reduceAdd, Nat.reduceSub, Nat.reduceLT, Nat.zero_add, Nat.add_zero, Nat.sub_self, Int.reduceNeg, Int.reduceToNat, if_true, if_false, Bool.false_eq_true, Bool.not_true, Bool.not_false, Bool.and_true, Bool.true_and, Bool.and_false, Bool.false_and, and_true, true_and, Option.isSome_some, Bool.and_self, reduceIte, reduceCtorEq, decide_true, decide_false, decide_eq_true_eq, not_true_eq_false, not_false_eq_true, or_false, or_true, true_or, false_or, B_longest_falling]
    exact q
  · simp only [↓w_cons, ↓w_nil, ↓w_ev, ↓w_fin, ↓w_some, ↓t_nx, ↓t_bk, ↓t_ct, ↓t_rt, ↓t_xc, ↓r_bnd, ↓r_ret, ↓r_ok, ↓r_ite, ↓w_ite, ↓r_guard, ↓r_alloc, ↓r_optM', ↓optP_some, ↓r_noExc, ↓r_exc, ↓e_var, ↓varP_some, ↓e_con, ↓e_bin, ↓e_cmp, ↓e_chain, ↓e_neg, ↓e_inv, ↓e_not, ↓e_and, ↓e_or, ↓v_and, ↓v_or, ↓e_ifx, ↓e_idx, ↓e_sl, ↓e_rev, ↓e_lst, ↓e_tup, ↓e_dict, ↓e_call, ↓e_bi, ↓e_me, ↓e_comp, ↓e_nil, ↓e_cons, ↓e_c0, ↓e_c1, ↓i_seq, ↓i_rng1, ↓i_rng2, ↓intP_int, ↓o_add, ↓o_sub, ↓o_mul, ↓o_fdiv, ↓o_mod, ↓o_pow, ↓o_addT, ↓c_eqI, ↓c_neI, ↓c_lt, ↓c_gt, ↓c_le, ↓c_ge, ↓n_int, ↓t_bl, ↓t_int, ↓x_tup, ↓b_lenT, ↓b_abs, ↓b_int, ↓b_tupT, ↓b_tupL, ↓b_list, ↓b_sorted, ↓b_lrg1, ↓b_trg1, ↓b_isi, ↓a_nil, ↓a_cons, ↓y_tup, ↓y_int, ↓y_bl, ↓y_non, ↓y_str, ↓it_tup, ↓sq_tup, ↓m_indexT, ↓k_tup, ↓ow_tup, ↓l_bl, ↓l_int, ↓l_non, ↓z_asg, ↓z_asgT, ↓z_par, ↓z_sub, ↓z_aug, ↓g_add, ↓g_sub, ↓z_ex, ↓z_ret, ↓z_if, ↓z_raise, ↓z_for, ↓z_while, ↓bt_nm, ↓bt_tp, ↓bts_n, ↓bts_c, ↓z_try, ↓tq_xc, ↓tq_nx, ↓tq_rt, ↓cq_nx, ↓cq_rt, ↓cq_xc, w_wipe0, w_wipe1, nth_0, nth_1, nth_2, nth_3, nth_4, startZ, endOf, List.map, List.length, List.replicate, List.cons_append, List.nil_append, List.append_nil, List.getElem?_cons_zero, List.getElem?_cons_succ, List.set_cons_zero, List.set_cons_succ, Nat.reduceAdd, Nat.reduceSub, Nat.reduceLT, Nat.zero_add, Nat.add_zero, Nat.sub_self, Int.reduceNeg, Int.reduceToNat, if_true, if_false, Bool.false_eq_true, Bool.not_true, Bool.not_false, Bool.and_true, Bool.true_and, Bool.and_false, Bool.false_and, and_true, true_and, Option.isSome_some, Bool.and_self, reduceIte, reduceCtorEq, decide_true, decide_false, decide_eq_true_eq, not_true_eq_false, not_false_eq_true, or_false, or_true, true_or, false_or, B_longest_falling, ↓y_loc (get_up g)]
    exact q
def optV : Option Int → Val
  | none => .non
  | some y => .int y
def reg (D : Nat) (hs : List (List Int)) (kvs : List (Val × Val)) : List Ob := .lst ((List.range hs.length).map fun j => .loc D (j + 2)) :: .dK kvs :: hs.map fun l => .lst (l.map Val.int)
theorem reg0 {hs : List (List Int)} {kvs : List (Val × Val)} : get (reg h.length hs kvs :: h) h.length 0 = some (.lst ((List.range hs.length).map fun j => .loc h.length (j + 2))) := get_top
theorem reg1 {hs : List (List Int)} {kvs : List (Val × Val)} : get (reg h.length hs kvs :: h) h.length 1 = some (.dK kvs) := get_top
theorem reg2 {hs : List (List Int)} {kvs : List (Val × Val)} {j : Nat} {l : List Int} (e : hs[j]? = some l) : get (reg h.length hs kvs :: h) h.length (j + 2) = some (.lst (l.map Val.int)) := by
  rw [get_top]
  show (hs.map fun l => Ob.lst (l.map Val.int))[j]? = _
  rw [List.getElem?_map, e]; rfl
theorem nth_locs {D n : Nat} {a : Int} (h0 : 0 ≤ a) (h1 : a < n) : nth ((List.range n).map fun j => Val.loc D (j + 2)) a = some (.loc D (a.toNat + 2)) := by
  rw [nth_int h0 (by simpa using h1)]
  rw [List.getElem?_map, List.getElem?_range (by omega)]; rfl
theorem nth_top {l : List Int} (hl : l ≠ []) : nth (l.map Val.int) (-1) = some (.int (K19.top l)) := by
  rw [nth_last (by simpa using hl), List.getLast?_map, List.getLast?_eq_some_getLast hl]
  unfold K19.top
  rw [List.getLastD_eq_getLast?, List.getLast?_eq_some_getLast hl]; rfl
theorem nth_lastloc {D n : Nat} (hn : 0 < n) : nth ((List.range n).map fun j => Val.loc D (j + 2)) (-1) = some (.loc D (n - 1 + 2)) := by
  rw [nth_last (by intro e; have := congrArg List.length e; simp at this; omega), List.getLast?_eq_getElem?, List.length_map, List.length_range, List.getElem?_map, List.getElem?_range (by omega)]; rfl
theorem look_put {kvs : List (Val × Val)} {a b v : Val} : look (putKV kvs a v) b = if b = a then some v else look kvs b := by
  have hm : ∀ {r : List (Val × Val)}, look (r.map fun p => if p.1 = a then (p.1, v) else p) b = if b = a then (if (r.any fun p => decide (p.1 = a)) = true then some v else none) else look r b := by
    intro r
    induction r with
    | nil => split <;> rfl
    | cons p r ih =>
      show (if (if p.1 = a then (p.1, v) else p).1 = b then some (if p.1 = a then (p.1, v) else p).2 else look (r.map fun p => if p.1 = a then (p.1, v) else p) b) = _
      rw [ih]
      by_cases h1 : p.1 = a
      · rw [if_pos h1]
        by_cases h2 : b = a
        · rw [if_pos (show p.1 = b from h1.trans h2.symm), if_pos h2, if_pos (by simp [h1])]
        · rw [if_neg (show ¬ p.1 = b from fun e => h2 (e.symm.trans h1)), if_neg h2, if_neg h2]
          show _ = if p.1 = b then _ else _
          rw [if_neg fun e => h2 (e.symm.trans h1)]
      · rw [if_neg h1]
        by_cases h2 : b = a
        · rw [if_pos h2, if_pos h2, if_neg (show ¬ p.1 = b from fun e => h1 (e.trans h2))]
          simp only [List.any_cons, decide_eq_false h1, Bool.false_or]
        · rw [if_neg h2, if_neg h2]; rfl
  have ha : ∀ {r : List (Val × Val)}, (r.any fun p => decide (p.1 = a)) ≠ true → look (r ++ [(a, v)]) b = if b = a then some v else look r b := by
    intro r
    induction r with
    | nil =>
      intro _
      show (if a = b then some v else none) = _
      by_cases h2 : b = a
      · rw [if_pos h2, if_pos h2.symm]
      · rw [if_neg h2, if_neg fun e => h2 e.symm]; rfl
    | cons p r ih =>
      intro hn
      have h1 : p.1 ≠ a := fun e => hn (by simp [e])
      show (if p.1 = b then some p.2 else look (r ++ [(a, v)]) b) = _
      rw [ih fun e => hn (by rw [List.any_cons, e, Bool.or_true])]
      by_cases h2 : b = a
      · rw [if_pos h2, if_pos h2, if_neg (show ¬ p.1 = b from fun e => h1 (e.trans h2))]
      · rw [if_neg h2, if_neg h2]; rfl
  unfold putKV
  by_cases c : (kvs.any fun p => decide (p.1 = a)) = true
  · rw [if_pos c, hm, if_pos c]
  · rw [if_neg c, ha c]
theorem put_dK {kvs : List (Val × Val)} {a v : Val} {D : Nat} (h : (Ob.dK kvs).okAt D = true) (ha : a.okAt D = true) (hv : v.okAt D = true) : (Ob.dK (putKV kvs a v)).okAt D = true := by
  have h := List.all_eq_true.mp h
  refine List.all_eq_true.mpr fun p hp => ?_
  unfold putKV at hp
  split at hp
  · obtain ⟨r, hr, e⟩ := List.mem_map.mp hp
    have := h r hr
    subst e
    rw [Bool.and_eq_true] at this ⊢
    split
    · exact ⟨this.1, hv⟩
    · exact this
  · rcases List.mem_append.mp hp with m | m
    · exact h p m
    · rw [List.mem_singleton.mp m, Bool.and_eq_true]; exact ⟨ha, hv⟩
theorem put_len' {kvs : List (Val × Val)} {a v : Val} : (putKV kvs a v).length ≤ kvs.length + 1 := by
  unfold putKV
  split <;> simp
theorem lf_good {ns : List Int} (h0 : ns ≠ []) (hl : ns.length ≤ 24) (hp : ns.Perm (upTo ns.length))
    (q : ∀ row hs f, Good ns row hs f → P (.tup [.tup (row.map .int), .tup (hs.map fun l => .tup (l.map .int))]) h) : wp (callN fds (k + 4) 3 [.tup (ns.map .int)] h) P X := by
  have nd : ns.Nodup := hp.symm.nodup (upTo_nodup _)
  have hl0 := List.length_pos_iff.mpr h0
  refine call_of (d := B_longest_falling) rfl rfl ?_
  simp only [↓w_cons, ↓w_nil, ↓w_ev, ↓w_fin, ↓w_some, ↓t_nx, ↓t_bk, ↓t_ct, ↓t_rt, ↓t_xc, ↓r_bnd, ↓r_ret, ↓r_ok, ↓r_ite, ↓w_ite, ↓r_guard, ↓r_alloc, ↓r_optM', ↓optP_some, ↓r_noExc, ↓r_exc, ↓e_var, ↓varP_some, ↓e_con, ↓e_bin, ↓e_cmp, ↓e_chain, ↓e_neg, ↓e_inv, ↓e_not, ↓e_and, ↓e_or, ↓v_and, ↓v_or, ↓e_ifx, ↓e_idx, ↓e_sl, ↓e_rev, ↓e_lst, ↓e_tup, ↓e_dict, ↓e_call, ↓e_bi, ↓e_me, ↓e_comp, ↓e_nil, ↓e_cons, ↓e_c0, ↓e_c1, ↓i_seq, ↓i_rng1, ↓i_rng2, ↓intP_int, ↓o_add, ↓o_sub, ↓o_mul, ↓o_fdiv, ↓o_mod, ↓o_pow, ↓o_addT, ↓c_eqI, ↓c_neI, ↓c_lt, ↓c_gt, ↓c_le, ↓c_ge, ↓n_int, ↓t_bl, ↓t_int, ↓x_tup, ↓b_lenT, ↓b_abs, ↓b_int, ↓b_tupT, ↓b_tupL, ↓b_list, ↓b_sorted, ↓b_lrg1, ↓b_trg1, ↓b_isi, ↓a_nil, ↓a_cons, ↓y_tup, ↓y_int, ↓y_bl, ↓y_non, ↓y_str, ↓it_tup, ↓sq_tup, ↓m_indexT, ↓k_tup, ↓ow_tup, ↓l_bl, ↓l_int, ↓l_non, ↓z_asg, ↓z_asgT, ↓z_par, ↓z_sub, ↓z_aug, ↓g_add, ↓g_sub, ↓z_ex, ↓z_ret, ↓z_if, ↓z_raise, ↓z_for, ↓z_while, ↓bt_nm, ↓bt_tp, ↓bts_n, ↓bts_c, ↓z_try, ↓tq_xc, ↓tq_nx, ↓tq_rt, ↓cq_nx, ↓cq_rt, ↓cq_xc, w_wipe0, w_wipe1, nth_0, nth_1, nth_2, nth_3, nth_4, startZ, endOf, List.map, List.length, List.replicate, List.cons_append, List.nil_append, List.append_nil, List.getElem?_cons_zero, List.getElem?_cons_succ, List.set_cons_zero, List.set_cons_succ, Nat.reduceAdd, Nat.reduceSub, Nat.reduceLT, Nat.zero_add, Nat.add_zero, Nat.sub_self, Int.reduceNeg, Int.reduceToNat, if_true, if_false, Bool.false_eq_true, Bool.not_true, Bool.not_false, Bool.and_true, Bool.true_and, Bool.and_false, Bool.false_and, and_true, true_and, Option.isSome_some, Bool.and_self, reduceIte, reduceCtorEq, decide_true, decide_false, decide_eq_true_eq, not_true_eq_false, not_false_eq_true, or_false, or_true, true_or, false_or, B_longest_falling]
  rw [show ((List.map Val.int ns).length : Int) = (ns.length : Int) by simp]
  rw [if_pos (by omega), if_neg (by simp; omega)]
  refine order_ints (m := ns.length) (by omega) (by omega) ?_
  rw [decide_eq_true hp]
  simp only [↓w_cons, ↓w_nil, ↓w_ev, ↓w_fin, ↓w_some, ↓t_nx, ↓t_bk, ↓t_ct, ↓t_rt, ↓t_xc, ↓r_bnd, ↓r_ret, ↓r_ok, ↓r_ite, ↓w_ite, ↓r_guard, ↓r_alloc, ↓r_optM', ↓optP_some, ↓r_noExc, ↓r_exc, ↓e_var, ↓varP_some, ↓e_con, ↓e_bin, ↓e_cmp, ↓e_chain, ↓e_neg, ↓e_inv, ↓e_not, ↓e_and, ↓e_or, ↓v_and, ↓v_or, ↓e_ifx, ↓e_idx, ↓e_sl, ↓e_rev, ↓e_lst, ↓e_tup, ↓e_dict, ↓e_call, ↓e_bi, ↓e_me, ↓e_comp, ↓e_nil, ↓e_cons, ↓e_c0, ↓e_c1, ↓i_seq, ↓i_rng1, ↓i_rng2, ↓intP_int, ↓o_add, ↓o_sub, ↓o_mul, ↓o_fdiv, ↓o_mod, ↓o_pow, ↓o_addT, ↓c_eqI, ↓c_neI, ↓c_lt, ↓c_gt, ↓c_le, ↓c_ge, ↓n_int, ↓t_bl, ↓t_int, ↓x_tup, ↓b_lenT, ↓b_abs, ↓b_int, ↓b_tupT, ↓b_tupL, ↓b_list, ↓b_sorted, ↓b_lrg1, ↓b_trg1, ↓b_isi, ↓a_nil, ↓a_cons, ↓y_tup, ↓y_int, ↓y_bl, ↓y_non, ↓y_str, ↓it_tup, ↓sq_tup, ↓m_indexT, ↓k_tup, ↓ow_tup, ↓l_bl, ↓l_int, ↓l_non, ↓z_asg, ↓z_asgT, ↓z_par, ↓z_sub, ↓z_aug, ↓g_add, ↓g_sub, ↓z_ex, ↓z_ret, ↓z_if, ↓z_raise, ↓z_for, ↓z_while, ↓bt_nm, ↓bt_tp, ↓bts_n, ↓bts_c, ↓z_try, ↓tq_xc, ↓tq_nx, ↓tq_rt, ↓cq_nx, ↓cq_rt, ↓cq_xc, w_wipe0, w_wipe1, nth_0, nth_1, nth_2, nth_3, nth_4, startZ, endOf, List.map, List.length, List.replicate, List.cons_append, List.nil_append, List.append_nil, List.getElem?_cons_zero, List.getElem?_cons_succ, List.set_cons_zero, List.set_cons_succ, Nat.reduceAdd, Nat.reduceSub, Nat.reduceLT, Nat.zero_add, Nat.add_zero, Nat.sub_self, Int.reduceNeg, Int.reduceToNat, if_true, if_false, Bool.false_eq_true, Bool.not_true, Bool.not_false, Bool.and_true, Bool.true_and, Bool.and_false, Bool.false_and, and_true, true_and, Option.isSome_some, Bool.and_self, reduceIte, reduceCtorEq, decide_true, decide_false, decide_eq_true_eq, not_true_eq_false, not_false_eq_true, or_false, or_true, true_or, false_or]
  refine for_inv (fun i σ h' => ∃ hs f c kvs u v, Inv ns i hs f c ∧ h' = reg h.length hs kvs :: h ∧ σ = [some (.tup (ns.map .int)), some (.loc h.length 0), some (.loc h.length 1), u, v, none, none] ∧ kvs.length ≤ i ∧ (Ob.dK kvs).okAt h.length = true ∧ ∀ x ∈ ns.take i, look kvs (.int x) = some (optV (c x))) ?_ ?_ ?_ ?_
  · exact ⟨[], fun _ => 0, fun _ => none, [], _, _, Inv.zero, rfl, rfl, Nat.le_refl _, rfl, by simp⟩
  · intros; rfl
  · rintro i x σ h' hx ⟨hs, f, c, kvs, u, v, I, eh, es, hk, ho, hc⟩
    subst eh es
    rw [List.getElem?_map] at hx
    cases ex : ns[i]? with
    | none => rw [ex] at hx; cases hx
    | some x =>
    rw [ex] at hx
    obtain rfl := Option.some.inj hx
    simp only [↓w_cons, ↓w_nil, ↓w_ev, ↓w_fin, ↓w_some, ↓t_nx, ↓t_bk, ↓t_ct, ↓t_rt, ↓t_xc, ↓r_bnd, ↓r_ret, ↓r_ok, ↓r_ite, ↓w_ite, ↓r_guard, ↓r_alloc, ↓r_optM', ↓optP_some, ↓r_noExc, ↓r_exc, ↓e_var, ↓varP_some, ↓e_con, ↓e_bin, ↓e_cmp, ↓e_chain, ↓e_neg, ↓e_inv, ↓e_not, ↓e_and, ↓e_or, ↓v_and, ↓v_or, ↓e_ifx, ↓e_idx, ↓e_sl, ↓e_rev, ↓e_lst, ↓e_tup, ↓e_dict, ↓e_call, ↓e_bi, ↓e_me, ↓e_comp, ↓e_nil, ↓e_cons, ↓e_c0, ↓e_c1, ↓i_seq, ↓i_rng1, ↓i_rng2, ↓intP_int, ↓o_add, ↓o_sub, ↓o_mul, ↓o_fdiv, ↓o_mod, ↓o_pow, ↓o_addT, ↓c_eqI, ↓c_neI, ↓c_lt, ↓c_gt, ↓c_le, ↓c_ge, ↓n_int, ↓t_bl, ↓t_int, ↓x_tup, ↓b_lenT, ↓b_abs, ↓b_int, ↓b_tupT, ↓b_tupL, ↓b_list, ↓b_sorted, ↓b_lrg1, ↓b_trg1, ↓b_isi, ↓a_nil, ↓a_cons, ↓y_tup, ↓y_int, ↓y_bl, ↓y_non, ↓y_str, ↓it_tup, ↓sq_tup, ↓m_indexT, ↓k_tup, ↓ow_tup, ↓l_bl, ↓l_int, ↓l_non, ↓z_asg, ↓z_asgT, ↓z_par, ↓z_sub, ↓z_aug, ↓g_add, ↓g_sub, ↓z_ex, ↓z_ret, ↓z_if, ↓z_raise, ↓z_for, ↓z_while, ↓bt_nm, ↓bt_tp, ↓bts_n, ↓bts_c, ↓z_try, ↓tq_xc, ↓tq_nx, ↓tq_rt, ↓cq_nx, ↓cq_rt, ↓cq_xc, w_wipe0, w_wipe1, nth_0, nth_1, nth_2, nth_3, nth_4, startZ, endOf, List.map, List.length, List.replicate, List.cons_append, List.nil_append, List.append_nil, List.getElem?_cons_zero, List.getElem?_cons_succ, List.set_cons_zero, List.set_cons_succ, Nat.reduceAdd, Nat.reduceSub, Nat.reduceLT, Nat.zero_add, Nat.add_zero, Nat.sub_self, Int.reduceNeg, Int.reduceToNat, if_true, if_false, Bool.false_eq_true, Bool.not_true, Bool.not_false, Bool.and_true, Bool.true_and, Bool.and_false, Bool.false_and, and_true, true_and, Option.isSome_some, Bool.and_self, reduceIte, reduceCtorEq, decide_true, decide_false, decide_eq_true_eq, not_true_eq_false, not_false_eq_true, or_false, or_true, true_or, false_or]
    have hsp := spot_le (hs := hs) (x := x)
    have hsl : hs.length ≤ ns.length := I.few
    refine wps_mono (Q := fun o h' => h' = reg h.length hs kvs :: h ∧ o = .nx [some (.tup (ns.map .int)), some (.loc h.length 0), some (.loc h.length 1), some (.int x), some (.int (K19.spot hs x)), none, none]) (while_inv (fun m σ h' => ∃ a : Nat, m + a = K19.spot hs x ∧ h' = reg h.length hs kvs :: h ∧ σ = [some (.tup (ns.map .int)), some (.loc h.length 0), some (.loc h.length 1), some (.int x), some (.int a), none, none]) (K19.spot hs x) ?_ ?_ ?_) ?_
    · unfold WF; omega
    · exact ⟨0, rfl, rfl, rfl⟩
    · rintro m σ h' ⟨a, ea, eh, es⟩
      subst eh es
      simp only [↓w_cons, ↓w_nil, ↓w_ev, ↓w_fin, ↓w_some, ↓t_nx, ↓t_bk, ↓t_ct, ↓t_rt, ↓t_xc, ↓r_bnd, ↓r_ret, ↓r_ok, ↓r_ite, ↓w_ite, ↓r_guard, ↓r_alloc, ↓r_optM', ↓optP_some, ↓r_noExc, ↓r_exc, ↓e_var, ↓varP_some, ↓e_con, ↓e_bin, ↓e_cmp, ↓e_chain, ↓e_neg, ↓e_inv, ↓e_not, ↓e_and, ↓e_or, ↓v_and, ↓v_or, ↓e_ifx, ↓e_idx, ↓e_sl, ↓e_rev, ↓e_lst, ↓e_tup, ↓e_dict, ↓e_call, ↓e_bi, ↓e_me, ↓e_comp, ↓e_nil, ↓e_cons, ↓e_c0, ↓e_c1, ↓i_seq, ↓i_rng1, ↓i_rng2, ↓intP_int, ↓o_add, ↓o_sub, ↓o_mul, ↓o_fdiv, ↓o_mod, ↓o_pow, ↓o_addT, ↓c_eqI, ↓c_neI, ↓c_lt, ↓c_gt, ↓c_le, ↓c_ge, ↓n_int, ↓t_bl, ↓t_int, ↓x_tup, ↓b_lenT, ↓b_abs, ↓b_int, ↓b_tupT, ↓b_tupL, ↓b_list, ↓b_sorted, ↓b_lrg1, ↓b_trg1, ↓b_isi, ↓a_nil, ↓a_cons, ↓y_tup, ↓y_int, ↓y_bl, ↓y_non, ↓y_str, ↓it_tup, ↓sq_tup, ↓m_indexT, ↓k_tup, ↓ow_tup, ↓l_bl, ↓l_int, ↓l_non, ↓z_asg, ↓z_asgT, ↓z_par, ↓z_sub, ↓z_aug, ↓g_add, ↓g_sub, ↓z_ex, ↓z_ret, ↓z_if, ↓z_raise, ↓z_for, ↓z_while, ↓bt_nm, ↓bt_tp, ↓bts_n, ↓bts_c, ↓z_try, ↓tq_xc, ↓tq_nx, ↓tq_rt, ↓cq_nx, ↓cq_rt, ↓cq_xc, w_wipe0, w_wipe1, nth_0, nth_1, nth_2, nth_3, nth_4, startZ, endOf, List.map, List.length, List.replicate, List.cons_append, List.nil_append, List.append_nil, List.getElem?_cons_zero, List.getElem?_cons_succ, List.set_cons_zero, List.set_cons_succ, Nat.reduceAdd, Nat.reduceSub, Nat.reduceLT, Nat.zero_add, Nat.add_zero, Nat.sub_self, Int.reduceNeg, Int.reduceToNat, if_true, if_false, Bool.false_eq_true, Bool.not_true, Bool.not_false, Bool.and_true, Bool.true_and, Bool.and_false, Bool.false_and, and_true, true_and, Option.isSome_some, Bool.and_self, reduceIte, reduceCtorEq, decide_true, decide_false, decide_eq_true_eq, not_true_eq_false, not_false_eq_true, or_false, or_true, true_or, false_or, ↓b_lenL reg0, ↓x_lst reg0]
      rw [List.length_map, List.length_range]
      split
      · rename_i h1
        have e : hs[a]? = some (hs[a]'(by omega)) := List.getElem?_eq_getElem _
        have b := I.bk _ _ e
        rw [nth_locs (by omega) h1]
        simp only [↓w_cons, ↓w_nil, ↓w_ev, ↓w_fin, ↓w_some, ↓t_nx, ↓t_bk, ↓t_ct, ↓t_rt, ↓t_xc, ↓r_bnd, ↓r_ret, ↓r_ok, ↓r_ite, ↓w_ite, ↓r_guard, ↓r_alloc, ↓r_optM', ↓optP_some, ↓r_noExc, ↓r_exc, ↓e_var, ↓varP_some, ↓e_con, ↓e_bin, ↓e_cmp, ↓e_chain, ↓e_neg, ↓e_inv, ↓e_not, ↓e_and, ↓e_or, ↓v_and, ↓v_or, ↓e_ifx, ↓e_idx, ↓e_sl, ↓e_rev, ↓e_lst, ↓e_tup, ↓e_dict, ↓e_call, ↓e_bi, ↓e_me, ↓e_comp, ↓e_nil, ↓e_cons, ↓e_c0, ↓e_c1, ↓i_seq, ↓i_rng1, ↓i_rng2, ↓intP_int, ↓o_add, ↓o_sub, ↓o_mul, ↓o_fdiv, ↓o_mod, ↓o_pow, ↓o_addT, ↓c_eqI, ↓c_neI, ↓c_lt, ↓c_gt, ↓c_le, ↓c_ge, ↓n_int, ↓t_bl, ↓t_int, ↓x_tup, ↓b_lenT, ↓b_abs, ↓b_int, ↓b_tupT, ↓b_tupL, ↓b_list, ↓b_sorted, ↓b_lrg1, ↓b_trg1, ↓b_isi, ↓a_nil, ↓a_cons, ↓y_tup, ↓y_int, ↓y_bl, ↓y_non, ↓y_str, ↓it_tup, ↓sq_tup, ↓m_indexT, ↓k_tup, ↓ow_tup, ↓l_bl, ↓l_int, ↓l_non, ↓z_asg, ↓z_asgT, ↓z_par, ↓z_sub, ↓z_aug, ↓g_add, ↓g_sub, ↓z_ex, ↓z_ret, ↓z_if, ↓z_raise, ↓z_for, ↓z_while, ↓bt_nm, ↓bt_tp, ↓bts_n, ↓bts_c, ↓z_try, ↓tq_xc, ↓tq_nx, ↓tq_rt, ↓cq_nx, ↓cq_rt, ↓cq_xc, w_wipe0, w_wipe1, nth_0, nth_1, nth_2, nth_3, nth_4, startZ, endOf, List.map, List.length, List.replicate, List.cons_append, List.nil_append, List.append_nil, List.getElem?_cons_zero, List.getElem?_cons_succ, List.set_cons_zero, List.set_cons_succ, Nat.reduceAdd, Nat.reduceSub, Nat.reduceLT, Nat.zero_add, Nat.add_zero, Nat.sub_self, Int.reduceNeg, Int.reduceToNat, if_true, if_false, Bool.false_eq_true, Bool.not_true, Bool.not_false, Bool.and_true, Bool.true_and, Bool.and_false, Bool.false_and, and_true, true_and, Option.isSome_some, Bool.and_self, reduceIte, reduceCtorEq, decide_true, decide_false, decide_eq_true_eq, not_true_eq_false, not_false_eq_true, or_false, or_true, true_or, false_or]
        rw [show ((a : Int).toNat + 2) = a + 2 from rfl, x_lst (reg2 e), nth_top b.1]
        simp only [↓w_cons, ↓w_nil, ↓w_ev, ↓w_fin, ↓w_some, ↓t_nx, ↓t_bk, ↓t_ct, ↓t_rt, ↓t_xc, ↓r_bnd, ↓r_ret, ↓r_ok, ↓r_ite, ↓w_ite, ↓r_guard, ↓r_alloc, ↓r_optM', ↓optP_some, ↓r_noExc, ↓r_exc, ↓e_var, ↓varP_some, ↓e_con, ↓e_bin, ↓e_cmp, ↓e_chain, ↓e_neg, ↓e_inv, ↓e_not, ↓e_and, ↓e_or, ↓v_and, ↓v_or, ↓e_ifx, ↓e_idx, ↓e_sl, ↓e_rev, ↓e_lst, ↓e_tup, ↓e_dict, ↓e_call, ↓e_bi, ↓e_me, ↓e_comp, ↓e_nil, ↓e_cons, ↓e_c0, ↓e_c1, ↓i_seq, ↓i_rng1, ↓i_rng2, ↓intP_int, ↓o_add, ↓o_sub, ↓o_mul, ↓o_fdiv, ↓o_mod, ↓o_pow, ↓o_addT, ↓c_eqI, ↓c_neI, ↓c_lt, ↓c_gt, ↓c_le, ↓c_ge, ↓n_int, ↓t_bl, ↓t_int, ↓x_tup, ↓b_lenT, ↓b_abs, ↓b_int, ↓b_tupT, ↓b_tupL, ↓b_list, ↓b_sorted, ↓b_lrg1, ↓b_trg1, ↓b_isi, ↓a_nil, ↓a_cons, ↓y_tup, ↓y_int, ↓y_bl, ↓y_non, ↓y_str, ↓it_tup, ↓sq_tup, ↓m_indexT, ↓k_tup, ↓ow_tup, ↓l_bl, ↓l_int, ↓l_non, ↓z_asg, ↓z_asgT, ↓z_par, ↓z_sub, ↓z_aug, ↓g_add, ↓g_sub, ↓z_ex, ↓z_ret, ↓z_if, ↓z_raise, ↓z_for, ↓z_while, ↓bt_nm, ↓bt_tp, ↓bts_n, ↓bts_c, ↓z_try, ↓tq_xc, ↓tq_nx, ↓tq_rt, ↓cq_nx, ↓cq_rt, ↓cq_xc, w_wipe0, w_wipe1, nth_0, nth_1, nth_2, nth_3, nth_4, startZ, endOf, List.map, List.length, List.replicate, List.cons_append, List.nil_append, List.append_nil, List.getElem?_cons_zero, List.getElem?_cons_succ, List.set_cons_zero, List.set_cons_succ, Nat.reduceAdd, Nat.reduceSub, Nat.reduceLT, Nat.zero_add, Nat.add_zero, Nat.sub_self, Int.reduceNeg, Int.reduceToNat, if_true, if_false, Bool.false_eq_true, Bool.not_true, Bool.not_false, Bool.and_true, Bool.true_and, Bool.and_false, Bool.false_and, and_true, true_and, Option.isSome_some, Bool.and_self, reduceIte, reduceCtorEq, decide_true, decide_false, decide_eq_true_eq, not_true_eq_false, not_false_eq_true, or_false, or_true, true_or, false_or]
        have m1 := (b.2.2.2 _ (top_mem b.1)).1
        have m2 : K19.top (hs[a]'(by omega)) ≠ x := fun e => by
          have := idx_take nd m1
          rw [e, idx_at nd ex] at this; omega
        split
        · rename_i h2
          by_cases h3 : a = K19.spot hs x
          · have e3 : hs[K19.spot hs x]? = some (hs[a]'(by omega)) := by rw [← h3]; exact e
            have := spot_at e3
            omega
          · exact ⟨m - 1, by omega, a + 1, by omega, rfl⟩
        · rename_i h2
          by_cases h3 : a < K19.spot hs x
          · exact absurd (spot_lt h3 e) h2
          · rw [show K19.spot hs x = a by omega]
      · rename_i h1
        rw [show K19.spot hs x = a by omega]
    rintro o h' ⟨eh, eo⟩
    subst eh eo
    rw [t_nx, w_cons]
    refine wps_mono (Q := fun o h' => h' = reg h.length hs (putKV kvs (.int x) (optV (bef hs x))) :: h ∧ o = .nx [some (.tup (ns.map .int)), some (.loc h.length 0), some (.loc h.length 1), some (.int x), some (.int (K19.spot hs x)), none, none]) ?_ ?_
    · simp only [↓w_cons, ↓w_nil, ↓w_ev, ↓w_fin, ↓w_some, ↓t_nx, ↓t_bk, ↓t_ct, ↓t_rt, ↓t_xc, ↓r_bnd, ↓r_ret, ↓r_ok, ↓r_ite, ↓w_ite, ↓r_guard, ↓r_alloc, ↓r_optM', ↓optP_some, ↓r_noExc, ↓r_exc, ↓e_var, ↓varP_some, ↓e_con, ↓e_bin, ↓e_cmp, ↓e_chain, ↓e_neg, ↓e_inv, ↓e_not, ↓e_and, ↓e_or, ↓v_and, ↓v_or, ↓e_ifx, ↓e_idx, ↓e_sl, ↓e_rev, ↓e_lst, ↓e_tup, ↓e_dict, ↓e_call, ↓e_bi, ↓e_me, ↓e_comp, ↓e_nil, ↓e_cons, ↓e_c0, ↓e_c1, ↓i_seq, ↓i_rng1, ↓i_rng2, ↓intP_int, ↓o_add, ↓o_sub, ↓o_mul, ↓o_fdiv, ↓o_mod, ↓o_pow, ↓o_addT, ↓c_eqI, ↓c_neI, ↓c_lt, ↓c_gt, ↓c_le, ↓c_ge, ↓n_int, ↓t_bl, ↓t_int, ↓x_tup, ↓b_lenT, ↓b_abs, ↓b_int, ↓b_tupT, ↓b_tupL, ↓b_list, ↓b_sorted, ↓b_lrg1, ↓b_trg1, ↓b_isi, ↓a_nil, ↓a_cons, ↓y_tup, ↓y_int, ↓y_bl, ↓y_non, ↓y_str, ↓it_tup, ↓sq_tup, ↓m_indexT, ↓k_tup, ↓ow_tup, ↓l_bl, ↓l_int, ↓l_non, ↓z_asg, ↓z_asgT, ↓z_par, ↓z_sub, ↓z_aug, ↓g_add, ↓g_sub, ↓z_ex, ↓z_ret, ↓z_if, ↓z_raise, ↓z_for, ↓z_while, ↓bt_nm, ↓bt_tp, ↓bts_n, ↓bts_c, ↓z_try, ↓tq_xc, ↓tq_nx, ↓tq_rt, ↓cq_nx, ↓cq_rt, ↓cq_xc, w_wipe0, w_wipe1, nth_0, nth_1, nth_2, nth_3, nth_4, startZ, endOf, List.map, List.length, List.replicate, List.cons_append, List.nil_append, List.append_nil, List.getElem?_cons_zero, List.getElem?_cons_succ, List.set_cons_zero, List.set_cons_succ, Nat.reduceAdd, Nat.reduceSub, Nat.reduceLT, Nat.zero_add, Nat.add_zero, Nat.sub_self, Int.reduceNeg, Int.reduceToNat, if_true, if_false, Bool.false_eq_true, Bool.not_true, Bool.not_false, Bool.and_true, Bool.true_and, Bool.and_false, Bool.false_and, and_true, true_and, Option.isSome_some, Bool.and_self, reduceIte, reduceCtorEq, decide_true, decide_false, decide_eq_true_eq, not_true_eq_false, not_false_eq_true, or_false, or_true, true_or, false_or, ↓x_lst reg0, ↓st_dK reg1]
      have hi : i < ns.length := (List.getElem?_eq_some_iff.mp ex).1
      have fin : ∀ v : Val, v = optV (bef hs x) → ((Val.int x).key && decide (kvs.length < SL)) = true ∧ (Ob.dK (putKV kvs (.int x) v)).okAt h.length = true ∧ put (reg h.length hs kvs :: h) h.length 1 (.dK (putKV kvs (.int x) v)) = reg h.length hs (putKV kvs (.int x) (optV (bef hs x))) :: h := by
        intro v ev
        subst ev
        refine ⟨?_, put_dK ho rfl ?_, ?_⟩
        · show (true && decide (kvs.length < SL)) = true
          rw [Bool.true_and]; exact decide_eq_true (by unfold SL; omega)
        · cases bef hs x <;> rfl
        · rw [put_top]; rfl
      split
      · rename_i h1
        have e : hs[K19.spot hs x - 1]? = some (hs[K19.spot hs x - 1]'(by omega)) := List.getElem?_eq_getElem _
        have b := I.bk _ _ e
        rw [nth_locs (by omega) (by omega), show ((K19.spot hs x : Int) - 1).toNat + 2 = (K19.spot hs x - 1) + 2 by omega]
        simp only [↓w_cons, ↓w_nil, ↓w_ev, ↓w_fin, ↓w_some, ↓t_nx, ↓t_bk, ↓t_ct, ↓t_rt, ↓t_xc, ↓r_bnd, ↓r_ret, ↓r_ok, ↓r_ite, ↓w_ite, ↓r_guard, ↓r_alloc, ↓r_optM', ↓optP_some, ↓r_noExc, ↓r_exc, ↓e_var, ↓varP_some, ↓e_con, ↓e_bin, ↓e_cmp, ↓e_chain, ↓e_neg, ↓e_inv, ↓e_not, ↓e_and, ↓e_or, ↓v_and, ↓v_or, ↓e_ifx, ↓e_idx, ↓e_sl, ↓e_rev, ↓e_lst, ↓e_tup, ↓e_dict, ↓e_call, ↓e_bi, ↓e_me, ↓e_comp, ↓e_nil, ↓e_cons, ↓e_c0, ↓e_c1, ↓i_seq, ↓i_rng1, ↓i_rng2, ↓intP_int, ↓o_add, ↓o_sub, ↓o_mul, ↓o_fdiv, ↓o_mod, ↓o_pow, ↓o_addT, ↓c_eqI, ↓c_neI, ↓c_lt, ↓c_gt, ↓c_le, ↓c_ge, ↓n_int, ↓t_bl, ↓t_int, ↓x_tup, ↓b_lenT, ↓b_abs, ↓b_int, ↓b_tupT, ↓b_tupL, ↓b_list, ↓b_sorted, ↓b_lrg1, ↓b_trg1, ↓b_isi, ↓a_nil, ↓a_cons, ↓y_tup, ↓y_int, ↓y_bl, ↓y_non, ↓y_str, ↓it_tup, ↓sq_tup, ↓m_indexT, ↓k_tup, ↓ow_tup, ↓l_bl, ↓l_int, ↓l_non, ↓z_asg, ↓z_asgT, ↓z_par, ↓z_sub, ↓z_aug, ↓g_add, ↓g_sub, ↓z_ex, ↓z_ret, ↓z_if, ↓z_raise, ↓z_for, ↓z_while, ↓bt_nm, ↓bt_tp, ↓bts_n, ↓bts_c, ↓z_try, ↓tq_xc, ↓tq_nx, ↓tq_rt, ↓cq_nx, ↓cq_rt, ↓cq_xc, w_wipe0, w_wipe1, nth_0, nth_1, nth_2, nth_3, nth_4, startZ, endOf, List.map, List.length, List.replicate, List.cons_append, List.nil_append, List.append_nil, List.getElem?_cons_zero, List.getElem?_cons_succ, List.set_cons_zero, List.set_cons_succ, Nat.reduceAdd, Nat.reduceSub, Nat.reduceLT, Nat.zero_add, Nat.add_zero, Nat.sub_self, Int.reduceNeg, Int.reduceToNat, if_true, if_false, Bool.false_eq_true, Bool.not_true, Bool.not_false, Bool.and_true, Bool.true_and, Bool.and_false, Bool.false_and, and_true, true_and, Option.isSome_some, Bool.and_self, reduceIte, reduceCtorEq, decide_true, decide_false, decide_eq_true_eq, not_true_eq_false, not_false_eq_true, or_false, or_true, true_or, false_or]
        rw [x_lst (reg2 e), nth_top b.1]
        simp only [↓w_cons, ↓w_nil, ↓w_ev, ↓w_fin, ↓w_some, ↓t_nx, ↓t_bk, ↓t_ct, ↓t_rt, ↓t_xc, ↓r_bnd, ↓r_ret, ↓r_ok, ↓r_ite, ↓w_ite, ↓r_guard, ↓r_alloc, ↓r_optM', ↓optP_some, ↓r_noExc, ↓r_exc, ↓e_var, ↓varP_some, ↓e_con, ↓e_bin, ↓e_cmp, ↓e_chain, ↓e_neg, ↓e_inv, ↓e_not, ↓e_and, ↓e_or, ↓v_and, ↓v_or, ↓e_ifx, ↓e_idx, ↓e_sl, ↓e_rev, ↓e_lst, ↓e_tup, ↓e_dict, ↓e_call, ↓e_bi, ↓e_me, ↓e_comp, ↓e_nil, ↓e_cons, ↓e_c0, ↓e_c1, ↓i_seq, ↓i_rng1, ↓i_rng2, ↓intP_int, ↓o_add, ↓o_sub, ↓o_mul, ↓o_fdiv, ↓o_mod, ↓o_pow, ↓o_addT, ↓c_eqI, ↓c_neI, ↓c_lt, ↓c_gt, ↓c_le, ↓c_ge, ↓n_int, ↓t_bl, ↓t_int, ↓x_tup, ↓b_lenT, ↓b_abs, ↓b_int, ↓b_tupT, ↓b_tupL, ↓b_list, ↓b_sorted, ↓b_lrg1, ↓b_trg1, ↓b_isi, ↓a_nil, ↓a_cons, ↓y_tup, ↓y_int, ↓y_bl, ↓y_non, ↓y_str, ↓it_tup, ↓sq_tup, ↓m_indexT, ↓k_tup, ↓ow_tup, ↓l_bl, ↓l_int, ↓l_non, ↓z_asg, ↓z_asgT, ↓z_par, ↓z_sub, ↓z_aug, ↓g_add, ↓g_sub, ↓z_ex, ↓z_ret, ↓z_if, ↓z_raise, ↓z_for, ↓z_while, ↓bt_nm, ↓bt_tp, ↓bts_n, ↓bts_c, ↓z_try, ↓tq_xc, ↓tq_nx, ↓tq_rt, ↓cq_nx, ↓cq_rt, ↓cq_xc, w_wipe0, w_wipe1, nth_0, nth_1, nth_2, nth_3, nth_4, startZ, endOf, List.map, List.length, List.replicate, List.cons_append, List.nil_append, List.append_nil, List.getElem?_cons_zero, List.getElem?_cons_succ, List.set_cons_zero, List.set_cons_succ, Nat.reduceAdd, Nat.reduceSub, Nat.reduceLT, Nat.zero_add, Nat.add_zero, Nat.sub_self, Int.reduceNeg, Int.reduceToNat, if_true, if_false, Bool.false_eq_true, Bool.not_true, Bool.not_false, Bool.and_true, Bool.true_and, Bool.and_false, Bool.false_and, and_true, true_and, Option.isSome_some, Bool.and_self, reduceIte, reduceCtorEq, decide_true, decide_false, decide_eq_true_eq, not_true_eq_false, not_false_eq_true, or_false, or_true, true_or, false_or, ↓st_dK reg1]
        refine fin _ ?_
        unfold bef
        rw [if_pos (by omega), e]; rfl
      · rename_i h1
        refine fin _ ?_
        unfold bef
        rw [if_neg (by omega)]; rfl
    rintro o h' ⟨eh, eo⟩
    subst eh eo
    have J := I.step nd ex
    rw [t_nx, w_cons]
    generalize ekv : putKV kvs (.int x) (optV (bef hs x)) = kv2
    refine wps_mono (Q := fun o h' => h' = reg h.length (room hs x) kv2 :: h ∧ o = .nx [some (.tup (ns.map .int)), some (.loc h.length 0), some (.loc h.length 1), some (.int x), some (.int (K19.spot hs x)), none, none]) ?_ ?_
    · simp only [↓w_cons, ↓w_nil, ↓w_ev, ↓w_fin, ↓w_some, ↓t_nx, ↓t_bk, ↓t_ct, ↓t_rt, ↓t_xc, ↓r_bnd, ↓r_ret, ↓r_ok, ↓r_ite, ↓w_ite, ↓r_guard, ↓r_alloc, ↓r_optM', ↓optP_some, ↓r_noExc, ↓r_exc, ↓e_var, ↓varP_some, ↓e_con, ↓e_bin, ↓e_cmp, ↓e_chain, ↓e_neg, ↓e_inv, ↓e_not, ↓e_and, ↓e_or, ↓v_and, ↓v_or, ↓e_ifx, ↓e_idx, ↓e_sl, ↓e_rev, ↓e_lst, ↓e_tup, ↓e_dict, ↓e_call, ↓e_bi, ↓e_me, ↓e_comp, ↓e_nil, ↓e_cons, ↓e_c0, ↓e_c1, ↓i_seq, ↓i_rng1, ↓i_rng2, ↓intP_int, ↓o_add, ↓o_sub, ↓o_mul, ↓o_fdiv, ↓o_mod, ↓o_pow, ↓o_addT, ↓c_eqI, ↓c_neI, ↓c_lt, ↓c_gt, ↓c_le, ↓c_ge, ↓n_int, ↓t_bl, ↓t_int, ↓x_tup, ↓b_lenT, ↓b_abs, ↓b_int, ↓b_tupT, ↓b_tupL, ↓b_list, ↓b_sorted, ↓b_lrg1, ↓b_trg1, ↓b_isi, ↓a_nil, ↓a_cons, ↓y_tup, ↓y_int, ↓y_bl, ↓y_non, ↓y_str, ↓it_tup, ↓sq_tup, ↓m_indexT, ↓k_tup, ↓ow_tup, ↓l_bl, ↓l_int, ↓l_non, ↓z_asg, ↓z_asgT, ↓z_par, ↓z_sub, ↓z_aug, ↓g_add, ↓g_sub, ↓z_ex, ↓z_ret, ↓z_if, ↓z_raise, ↓z_for, ↓z_while, ↓bt_nm, ↓bt_tp, ↓bts_n, ↓bts_c, ↓z_try, ↓tq_xc, ↓tq_nx, ↓tq_rt, ↓cq_nx, ↓cq_rt, ↓cq_xc, w_wipe0, w_wipe1, nth_0, nth_1, nth_2, nth_3, nth_4, startZ, endOf, List.map, List.length, List.replicate, List.cons_append, List.nil_append, List.append_nil, List.getElem?_cons_zero, List.getElem?_cons_succ, List.set_cons_zero, List.set_cons_succ, Nat.reduceAdd, Nat.reduceSub, Nat.reduceLT, Nat.zero_add, Nat.add_zero, Nat.sub_self, Int.reduceNeg, Int.reduceToNat, if_true, if_false, Bool.false_eq_true, Bool.not_true, Bool.not_false, Bool.and_true, Bool.true_and, Bool.and_false, Bool.false_and, and_true, true_and, Option.isSome_some, Bool.and_self, reduceIte, reduceCtorEq, decide_true, decide_false, decide_eq_true_eq, not_true_eq_false, not_false_eq_true, or_false, or_true, true_or, false_or, ↓b_lenL reg0, ↓x_lst reg0, ↓k_lst reg0, supp]
      rw [List.length_map, List.length_range]
      split
      · rename_i h1
        rw [m_append (get_app reg0), List.length_map, List.length_range]
        refine ⟨by unfold SL; omega, ?_, ?_⟩
        · refine List.all_eq_true.mpr fun v m => ?_
          rcases List.mem_append.mp m with m | m
          · obtain ⟨j, _, e⟩ := List.mem_map.mp m
            subst e; exact decide_eq_true (Nat.le_refl _)
          · rw [List.mem_singleton.mp m]; exact decide_eq_true (Nat.le_refl _)
        · rw [put_top]
          unfold room
          rw [if_pos (by omega)]
          unfold reg
          simp [List.range_succ]
      · rename_i h1
        unfold room
        rw [if_neg (by omega)]
    rintro o h' ⟨eh, eo⟩
    subst eh eo
    obtain ⟨l, el, ey⟩ := lay_eq (hs := hs) (x := x)
    have hlt := (List.getElem?_eq_some_iff.mp el).1
    simp only [↓w_cons, ↓w_nil, ↓w_ev, ↓w_fin, ↓w_some, ↓t_nx, ↓t_bk, ↓t_ct, ↓t_rt, ↓t_xc, ↓r_bnd, ↓r_ret, ↓r_ok, ↓r_ite, ↓w_ite, ↓r_guard, ↓r_alloc, ↓r_optM', ↓optP_some, ↓r_noExc, ↓r_exc, ↓e_var, ↓varP_some, ↓e_con, ↓e_bin, ↓e_cmp, ↓e_chain, ↓e_neg, ↓e_inv, ↓e_not, ↓e_and, ↓e_or, ↓v_and, ↓v_or, ↓e_ifx, ↓e_idx, ↓e_sl, ↓e_rev, ↓e_lst, ↓e_tup, ↓e_dict, ↓e_call, ↓e_bi, ↓e_me, ↓e_comp, ↓e_nil, ↓e_cons, ↓e_c0, ↓e_c1, ↓i_seq, ↓i_rng1, ↓i_rng2, ↓intP_int, ↓o_add, ↓o_sub, ↓o_mul, ↓o_fdiv, ↓o_mod, ↓o_pow, ↓o_addT, ↓c_eqI, ↓c_neI, ↓c_lt, ↓c_gt, ↓c_le, ↓c_ge, ↓n_int, ↓t_bl, ↓t_int, ↓x_tup, ↓b_lenT, ↓b_abs, ↓b_int, ↓b_tupT, ↓b_tupL, ↓b_list, ↓b_sorted, ↓b_lrg1, ↓b_trg1, ↓b_isi, ↓a_nil, ↓a_cons, ↓y_tup, ↓y_int, ↓y_bl, ↓y_non, ↓y_str, ↓it_tup, ↓sq_tup, ↓m_indexT, ↓k_tup, ↓ow_tup, ↓l_bl, ↓l_int, ↓l_non, ↓z_asg, ↓z_asgT, ↓z_par, ↓z_sub, ↓z_aug, ↓g_add, ↓g_sub, ↓z_ex, ↓z_ret, ↓z_if, ↓z_raise, ↓z_for, ↓z_while, ↓bt_nm, ↓bt_tp, ↓bts_n, ↓bts_c, ↓z_try, ↓tq_xc, ↓tq_nx, ↓tq_rt, ↓cq_nx, ↓cq_rt, ↓cq_xc, w_wipe0, w_wipe1, nth_0, nth_1, nth_2, nth_3, nth_4, startZ, endOf, List.map, List.length, List.replicate, List.cons_append, List.nil_append, List.append_nil, List.getElem?_cons_zero, List.getElem?_cons_succ, List.set_cons_zero, List.set_cons_succ, Nat.reduceAdd, Nat.reduceSub, Nat.reduceLT, Nat.zero_add, Nat.add_zero, Nat.sub_self, Int.reduceNeg, Int.reduceToNat, if_true, if_false, Bool.false_eq_true, Bool.not_true, Bool.not_false, Bool.and_true, Bool.true_and, Bool.and_false, Bool.false_and, and_true, true_and, Option.isSome_some, Bool.and_self, reduceIte, reduceCtorEq, decide_true, decide_false, decide_eq_true_eq, not_true_eq_false, not_false_eq_true, or_false, or_true, true_or, false_or, ↓x_lst reg0]
    rw [nth_locs (by omega) (by omega), show (K19.spot hs x : Int).toNat = K19.spot hs x from rfl]
    simp only [↓w_cons, ↓w_nil, ↓w_ev, ↓w_fin, ↓w_some, ↓t_nx, ↓t_bk, ↓t_ct, ↓t_rt, ↓t_xc, ↓r_bnd, ↓r_ret, ↓r_ok, ↓r_ite, ↓w_ite, ↓r_guard, ↓r_alloc, ↓r_optM', ↓optP_some, ↓r_noExc, ↓r_exc, ↓e_var, ↓varP_some, ↓e_con, ↓e_bin, ↓e_cmp, ↓e_chain, ↓e_neg, ↓e_inv, ↓e_not, ↓e_and, ↓e_or, ↓v_and, ↓v_or, ↓e_ifx, ↓e_idx, ↓e_sl, ↓e_rev, ↓e_lst, ↓e_tup, ↓e_dict, ↓e_call, ↓e_bi, ↓e_me, ↓e_comp, ↓e_nil, ↓e_cons, ↓e_c0, ↓e_c1, ↓i_seq, ↓i_rng1, ↓i_rng2, ↓intP_int, ↓o_add, ↓o_sub, ↓o_mul, ↓o_fdiv, ↓o_mod, ↓o_pow, ↓o_addT, ↓c_eqI, ↓c_neI, ↓c_lt, ↓c_gt, ↓c_le, ↓c_ge, ↓n_int, ↓t_bl, ↓t_int, ↓x_tup, ↓b_lenT, ↓b_abs, ↓b_int, ↓b_tupT, ↓b_tupL, ↓b_list, ↓b_sorted, ↓b_lrg1, ↓b_trg1, ↓b_isi, ↓a_nil, ↓a_cons, ↓y_tup, ↓y_int, ↓y_bl, ↓y_non, ↓y_str, ↓it_tup, ↓sq_tup, ↓m_indexT, ↓k_tup, ↓ow_tup, ↓l_bl, ↓l_int, ↓l_non, ↓z_asg, ↓z_asgT, ↓z_par, ↓z_sub, ↓z_aug, ↓g_add, ↓g_sub, ↓z_ex, ↓z_ret, ↓z_if, ↓z_raise, ↓z_for, ↓z_while, ↓bt_nm, ↓bt_tp, ↓bts_n, ↓bts_c, ↓z_try, ↓tq_xc, ↓tq_nx, ↓tq_rt, ↓cq_nx, ↓cq_rt, ↓cq_xc, w_wipe0, w_wipe1, nth_0, nth_1, nth_2, nth_3, nth_4, startZ, endOf, List.map, List.length, List.replicate, List.cons_append, List.nil_append, List.append_nil, List.getElem?_cons_zero, List.getElem?_cons_succ, List.set_cons_zero, List.set_cons_succ, Nat.reduceAdd, Nat.reduceSub, Nat.reduceLT, Nat.zero_add, Nat.add_zero, Nat.sub_self, Int.reduceNeg, Int.reduceToNat, if_true, if_false, Bool.false_eq_true, Bool.not_true, Bool.not_false, Bool.and_true, Bool.true_and, Bool.and_false, Bool.false_and, and_true, true_and, Option.isSome_some, Bool.and_self, reduceIte, reduceCtorEq, decide_true, decide_false, decide_eq_true_eq, not_true_eq_false, not_false_eq_true, or_false, or_true, true_or, false_or, ↓k_lst (reg2 el), supp]
    rw [m_append (reg2 el)]
    have hi : i < ns.length := (List.getElem?_eq_some_iff.mp ex).1
    have hm : (l ++ [x]) ∈ lay hs x := by rw [ey]; exact List.mem_set hlt _
    have hll : l.length < 25 := by
      have h1 := (List.sublist_flatten_of_mem hm).length_le
      rw [J.perm.length_eq, List.length_take, List.length_append] at h1
      simp at h1
      omega
    refine ⟨by rw [List.length_map]; unfold SL; omega, ?_, lay hs x, _, _, kv2, _, _, J, ?_, rfl, ?_, ?_, ?_⟩
    · rw [show l.map Val.int ++ [Val.int x] = (l ++ [x]).map Val.int by simp]
      refine List.all_eq_true.mpr fun v m => ?_
      obtain ⟨j, _, e⟩ := List.mem_map.mp m
      subst e; rfl
    · rw [put_top, ey]
      unfold reg
      simp
      done
    · rw [← ekv]
      have := put_len' (kvs := kvs) (a := .int x) (v := optV (bef hs x))
      omega
    · rw [← ekv]
      refine put_dK ho rfl ?_
      cases bef hs x <;> rfl
    · intro y hy
      rw [← ekv, look_put]
      by_cases e : y = x
      · rw [e, if_pos rfl, upd_same]
      · rw [if_neg (fun z => e (Val.int.inj z)), upd_ne e]
        refine hc y ?_
        rw [List.take_add_one, ex] at hy
        rcases List.mem_append.mp hy with m | m
        · exact m
        · exact absurd (by simpa using m) e
  · rintro σ h' ⟨hs, f, c, kvs, u, v, I, eh, es, hk, ho, hc⟩
    subst eh es
    rw [List.length_map] at I hk hc
    have hne : hs ≠ [] := fun e => by
      subst e
      have := I.perm.length_eq
      rw [List.length_take] at this
      simp at this
      omega
    have hn0 := List.length_pos_iff.mpr hne
    have hfew := I.few
    rw [t_nx, w_cons]
    have el : hs[hs.length - 1]? = some (hs.getLastD []) := by
      rw [List.getLastD_eq_getLast?, ← List.getLast?_eq_getElem?, List.getLast?_eq_some_getLast hne]; rfl
    simp only [↓w_cons, ↓w_nil, ↓w_ev, ↓w_fin, ↓w_some, ↓t_nx, ↓t_bk, ↓t_ct, ↓t_rt, ↓t_xc, ↓r_bnd, ↓r_ret, ↓r_ok, ↓r_ite, ↓w_ite, ↓r_guard, ↓r_alloc, ↓r_optM', ↓optP_some, ↓r_noExc, ↓r_exc, ↓e_var, ↓varP_some, ↓e_con, ↓e_bin, ↓e_cmp, ↓e_chain, ↓e_neg, ↓e_inv, ↓e_not, ↓e_and, ↓e_or, ↓v_and, ↓v_or, ↓e_ifx, ↓e_idx, ↓e_sl, ↓e_rev, ↓e_lst, ↓e_tup, ↓e_dict, ↓e_call, ↓e_bi, ↓e_me, ↓e_comp, ↓e_nil, ↓e_cons, ↓e_c0, ↓e_c1, ↓i_seq, ↓i_rng1, ↓i_rng2, ↓intP_int, ↓o_add, ↓o_sub, ↓o_mul, ↓o_fdiv, ↓o_mod, ↓o_pow, ↓o_addT, ↓c_eqI, ↓c_neI, ↓c_lt, ↓c_gt, ↓c_le, ↓c_ge, ↓n_int, ↓t_bl, ↓t_int, ↓x_tup, ↓b_lenT, ↓b_abs, ↓b_int, ↓b_tupT, ↓b_tupL, ↓b_list, ↓b_sorted, ↓b_lrg1, ↓b_trg1, ↓b_isi, ↓a_nil, ↓a_cons, ↓y_tup, ↓y_int, ↓y_bl, ↓y_non, ↓y_str, ↓it_tup, ↓sq_tup, ↓m_indexT, ↓k_tup, ↓ow_tup, ↓l_bl, ↓l_int, ↓l_non, ↓z_asg, ↓z_asgT, ↓z_par, ↓z_sub, ↓z_aug, ↓g_add, ↓g_sub, ↓z_ex, ↓z_ret, ↓z_if, ↓z_raise, ↓z_for, ↓z_while, ↓bt_nm, ↓bt_tp, ↓bts_n, ↓bts_c, ↓z_try, ↓tq_xc, ↓tq_nx, ↓tq_rt, ↓cq_nx, ↓cq_rt, ↓cq_xc, w_wipe0, w_wipe1, nth_0, nth_1, nth_2, nth_3, nth_4, startZ, endOf, List.map, List.length, List.replicate, List.cons_append, List.nil_append, List.append_nil, List.getElem?_cons_zero, List.getElem?_cons_succ, List.set_cons_zero, List.set_cons_succ, Nat.reduceAdd, Nat.reduceSub, Nat.reduceLT, Nat.zero_add, Nat.add_zero, Nat.sub_self, Int.reduceNeg, Int.reduceToNat, if_true, if_false, Bool.false_eq_true, Bool.not_true, Bool.not_false, Bool.and_true, Bool.true_and, Bool.and_false, Bool.false_and, and_true, true_and, Option.isSome_some, Bool.and_self, reduceIte, reduceCtorEq, decide_true, decide_false, decide_eq_true_eq, not_true_eq_false, not_false_eq_true, or_false, or_true, true_or, false_or, ↓x_lst reg0]
    rw [nth_lastloc hn0]
    simp only [↓w_cons, ↓w_nil, ↓w_ev, ↓w_fin, ↓w_some, ↓t_nx, ↓t_bk, ↓t_ct, ↓t_rt, ↓t_xc, ↓r_bnd, ↓r_ret, ↓r_ok, ↓r_ite, ↓w_ite, ↓r_guard, ↓r_alloc, ↓r_optM', ↓optP_some, ↓r_noExc, ↓r_exc, ↓e_var, ↓varP_some, ↓e_con, ↓e_bin, ↓e_cmp, ↓e_chain, ↓e_neg, ↓e_inv, ↓e_not, ↓e_and, ↓e_or, ↓v_and, ↓v_or, ↓e_ifx, ↓e_idx, ↓e_sl, ↓e_rev, ↓e_lst, ↓e_tup, ↓e_dict, ↓e_call, ↓e_bi, ↓e_me, ↓e_comp, ↓e_nil, ↓e_cons, ↓e_c0, ↓e_c1, ↓i_seq, ↓i_rng1, ↓i_rng2, ↓intP_int, ↓o_add, ↓o_sub, ↓o_mul, ↓o_fdiv, ↓o_mod, ↓o_pow, ↓o_addT, ↓c_eqI, ↓c_neI, ↓c_lt, ↓c_gt, ↓c_le, ↓c_ge, ↓n_int, ↓t_bl, ↓t_int, ↓x_tup, ↓b_lenT, ↓b_abs, ↓b_int, ↓b_tupT, ↓b_tupL, ↓b_list, ↓b_sorted, ↓b_lrg1, ↓b_trg1, ↓b_isi, ↓a_nil, ↓a_cons, ↓y_tup, ↓y_int, ↓y_bl, ↓y_non, ↓y_str, ↓it_tup, ↓sq_tup, ↓m_indexT, ↓k_tup, ↓ow_tup, ↓l_bl, ↓l_int, ↓l_non, ↓z_asg, ↓z_asgT, ↓z_par, ↓z_sub, ↓z_aug, ↓g_add, ↓g_sub, ↓z_ex, ↓z_ret, ↓z_if, ↓z_raise, ↓z_for, ↓z_while, ↓bt_nm, ↓bt_tp, ↓bts_n, ↓bts_c, ↓z_try, ↓tq_xc, ↓tq_nx, ↓tq_rt, ↓cq_nx, ↓cq_rt, ↓cq_xc, w_wipe0, w_wipe1, nth_0, nth_1, nth_2, nth_3, nth_4, startZ, endOf, List.map, List.length, List.replicate, List.cons_append, List.nil_append, List.append_nil, List.getElem?_cons_zero, List.getElem?_cons_succ, List.set_cons_zero, List.set_cons_succ, Nat.reduceAdd, Nat.reduceSub, Nat.reduceLT, Nat.zero_add, Nat.add_zero, Nat.sub_self, Int.reduceNeg, Int.reduceToNat, if_true, if_false, Bool.false_eq_true, Bool.not_true, Bool.not_false, Bool.and_true, Bool.true_and, Bool.and_false, Bool.false_and, and_true, true_and, Option.isSome_some, Bool.and_self, reduceIte, reduceCtorEq, decide_true, decide_false, decide_eq_true_eq, not_true_eq_false, not_false_eq_true, or_false, or_true, true_or, false_or, ↓x_lst (reg2 el)]
    rw [nth_top (I.bk _ _ el).1]
    simp only [↓w_cons, ↓w_nil, ↓w_ev, ↓w_fin, ↓w_some, ↓t_nx, ↓t_bk, ↓t_ct, ↓t_rt, ↓t_xc, ↓r_bnd, ↓r_ret, ↓r_ok, ↓r_ite, ↓w_ite, ↓r_guard, ↓r_alloc, ↓r_optM', ↓optP_some, ↓r_noExc, ↓r_exc, ↓e_var, ↓varP_some, ↓e_con, ↓e_bin, ↓e_cmp, ↓e_chain, ↓e_neg, ↓e_inv, ↓e_not, ↓e_and, ↓e_or, ↓v_and, ↓v_or, ↓e_ifx, ↓e_idx, ↓e_sl, ↓e_rev, ↓e_lst, ↓e_tup, ↓e_dict, ↓e_call, ↓e_bi, ↓e_me, ↓e_comp, ↓e_nil, ↓e_cons, ↓e_c0, ↓e_c1, ↓i_seq, ↓i_rng1, ↓i_rng2, ↓intP_int, ↓o_add, ↓o_sub, ↓o_mul, ↓o_fdiv, ↓o_mod, ↓o_pow, ↓o_addT, ↓c_eqI, ↓c_neI, ↓c_lt, ↓c_gt, ↓c_le, ↓c_ge, ↓n_int, ↓t_bl, ↓t_int, ↓x_tup, ↓b_lenT, ↓b_abs, ↓b_int, ↓b_tupT, ↓b_tupL, ↓b_list, ↓b_sorted, ↓b_lrg1, ↓b_trg1, ↓b_isi, ↓a_nil, ↓a_cons, ↓y_tup, ↓y_int, ↓y_bl, ↓y_non, ↓y_str, ↓it_tup, ↓sq_tup, ↓m_indexT, ↓k_tup, ↓ow_tup, ↓l_bl, ↓l_int, ↓l_non, ↓z_asg, ↓z_asgT, ↓z_par, ↓z_sub, ↓z_aug, ↓g_add, ↓g_sub, ↓z_ex, ↓z_ret, ↓z_if, ↓z_raise, ↓z_for, ↓z_while, ↓bt_nm, ↓bt_tp, ↓bts_n, ↓bts_c, ↓z_try, ↓tq_xc, ↓tq_nx, ↓tq_rt, ↓cq_nx, ↓cq_rt, ↓cq_xc, w_wipe0, w_wipe1, nth_0, nth_1, nth_2, nth_3, nth_4, startZ, endOf, List.map, List.length, List.replicate, List.cons_append, List.nil_append, List.append_nil, List.getElem?_cons_zero, List.getElem?_cons_succ, List.set_cons_zero, List.set_cons_succ, Nat.reduceAdd, Nat.reduceSub, Nat.reduceLT, Nat.zero_add, Nat.add_zero, Nat.sub_self, Int.reduceNeg, Int.reduceToNat, if_true, if_false, Bool.false_eq_true, Bool.not_true, Bool.not_false, Bool.and_true, Bool.true_and, Bool.and_false, Bool.false_and, and_true, true_and, Option.isSome_some, Bool.and_self, reduceIte, reduceCtorEq, decide_true, decide_false, decide_eq_true_eq, not_true_eq_false, not_false_eq_true, or_false, or_true, true_or, false_or]
    have gr : ∀ {x : Ob}, get ((reg h.length hs kvs ++ [x]) :: h) h.length (hs.length + 2) = some x := fun {x} => by
      rw [get_top]; unfold reg; simp
    have gk : ∀ {x : Ob}, get ((reg h.length hs kvs ++ [x]) :: h) h.length 1 = some (.dK kvs) := fun {x} => get_app reg1
    have rl : (reg h.length hs kvs).length = hs.length + 2 := by unfold reg; simp
    rw [rl]
    refine wps_mono (Q := fun o h' => ∃ r, Grow ns hs.length f r ∧ c (K19.top r) = none ∧ h' = (reg h.length hs kvs ++ [.lst (r.map .int)]) :: h ∧ o = .nx [some (.tup (ns.map .int)), some (.loc h.length 0), some (.loc h.length 1), u, v, some (.loc h.length (hs.length + 2)), none]) (while_inv (fun m σ h' => ∃ r, Grow ns hs.length f r ∧ m = f (K19.top r) ∧ h' = (reg h.length hs kvs ++ [.lst (r.map .int)]) :: h ∧ σ = [some (.tup (ns.map .int)), some (.loc h.length 0), some (.loc h.length 1), u, v, some (.loc h.length (hs.length + 2)), none]) (f (K19.top [K19.top (hs.getLastD [])])) ?_ ?_ ?_) ?_
    · have := (Grow.one I hne).len
      unfold WF; omega
    · have G := Grow.one I hne
      exact ⟨_, G, rfl, rfl, rfl⟩
    · rintro m σ h' ⟨r, G, em, eh, es⟩
      subst eh es
      have lk : look kvs (.int (K19.top r)) = some (optV (c (K19.top r))) := hc _ (by rw [List.take_length]; exact G.sub _ (top_mem G.ne))
      simp only [↓w_cons, ↓w_nil, ↓w_ev, ↓w_fin, ↓w_some, ↓t_nx, ↓t_bk, ↓t_ct, ↓t_rt, ↓t_xc, ↓r_bnd, ↓r_ret, ↓r_ok, ↓r_ite, ↓w_ite, ↓r_guard, ↓r_alloc, ↓r_optM', ↓optP_some, ↓r_noExc, ↓r_exc, ↓e_var, ↓varP_some, ↓e_con, ↓e_bin, ↓e_cmp, ↓e_chain, ↓e_neg, ↓e_inv, ↓e_not, ↓e_and, ↓e_or, ↓v_and, ↓v_or, ↓e_ifx, ↓e_idx, ↓e_sl, ↓e_rev, ↓e_lst, ↓e_tup, ↓e_dict, ↓e_call, ↓e_bi, ↓e_me, ↓e_comp, ↓e_nil, ↓e_cons, ↓e_c0, ↓e_c1, ↓i_seq, ↓i_rng1, ↓i_rng2, ↓intP_int, ↓o_add, ↓o_sub, ↓o_mul, ↓o_fdiv, ↓o_mod, ↓o_pow, ↓o_addT, ↓c_eqI, ↓c_neI, ↓c_lt, ↓c_gt, ↓c_le, ↓c_ge, ↓n_int, ↓t_bl, ↓t_int, ↓x_tup, ↓b_lenT, ↓b_abs, ↓b_int, ↓b_tupT, ↓b_tupL, ↓b_list, ↓b_sorted, ↓b_lrg1, ↓b_trg1, ↓b_isi, ↓a_nil, ↓a_cons, ↓y_tup, ↓y_int, ↓y_bl, ↓y_non, ↓y_str, ↓it_tup, ↓sq_tup, ↓m_indexT, ↓k_tup, ↓ow_tup, ↓l_bl, ↓l_int, ↓l_non, ↓z_asg, ↓z_asgT, ↓z_par, ↓z_sub, ↓z_aug, ↓g_add, ↓g_sub, ↓z_ex, ↓z_ret, ↓z_if, ↓z_raise, ↓z_for, ↓z_while, ↓bt_nm, ↓bt_tp, ↓bts_n, ↓bts_c, ↓z_try, ↓tq_xc, ↓tq_nx, ↓tq_rt, ↓cq_nx, ↓cq_rt, ↓cq_xc, w_wipe0, w_wipe1, nth_0, nth_1, nth_2, nth_3, nth_4, startZ, endOf, List.map, List.length, List.replicate, List.cons_append, List.nil_append, List.append_nil, List.getElem?_cons_zero, List.getElem?_cons_succ, List.set_cons_zero, List.set_cons_succ, Nat.reduceAdd, Nat.reduceSub, Nat.reduceLT, Nat.zero_add, Nat.add_zero, Nat.sub_self, Int.reduceNeg, Int.reduceToNat, if_true, if_false, Bool.false_eq_true, Bool.not_true, Bool.not_false, Bool.and_true, Bool.true_and, Bool.and_false, Bool.false_and, and_true, true_and, Option.isSome_some, Bool.and_self, reduceIte, reduceCtorEq, decide_true, decide_false, decide_eq_true_eq, not_true_eq_false, not_false_eq_true, or_false, or_true, true_or, false_or, ↓x_lst gr, ↓x_dK gk, nth_top G.ne, lk, c_isnN]
      cases ec : c (K19.top r) with
      | none =>
        refine ⟨rfl, ?_⟩
        rw [if_neg (by decide)]
        exact ⟨r, G, ec, rfl⟩
      | some y =>
        refine ⟨rfl, ?_⟩
        rw [if_pos (by show (!decide (Val.int y = Val.non)) = true; simp)]
        rw [ec] at lk
        simp only [↓w_cons, ↓w_nil, ↓w_ev, ↓w_fin, ↓w_some, ↓t_nx, ↓t_bk, ↓t_ct, ↓t_rt, ↓t_xc, ↓r_bnd, ↓r_ret, ↓r_ok, ↓r_ite, ↓w_ite, ↓r_guard, ↓r_alloc, ↓r_optM', ↓optP_some, ↓r_noExc, ↓r_exc, ↓e_var, ↓varP_some, ↓e_con, ↓e_bin, ↓e_cmp, ↓e_chain, ↓e_neg, ↓e_inv, ↓e_not, ↓e_and, ↓e_or, ↓v_and, ↓v_or, ↓e_ifx, ↓e_idx, ↓e_sl, ↓e_rev, ↓e_lst, ↓e_tup, ↓e_dict, ↓e_call, ↓e_bi, ↓e_me, ↓e_comp, ↓e_nil, ↓e_cons, ↓e_c0, ↓e_c1, ↓i_seq, ↓i_rng1, ↓i_rng2, ↓intP_int, ↓o_add, ↓o_sub, ↓o_mul, ↓o_fdiv, ↓o_mod, ↓o_pow, ↓o_addT, ↓c_eqI, ↓c_neI, ↓c_lt, ↓c_gt, ↓c_le, ↓c_ge, ↓n_int, ↓t_bl, ↓t_int, ↓x_tup, ↓b_lenT, ↓b_abs, ↓b_int, ↓b_tupT, ↓b_tupL, ↓b_list, ↓b_sorted, ↓b_lrg1, ↓b_trg1, ↓b_isi, ↓a_nil, ↓a_cons, ↓y_tup, ↓y_int, ↓y_bl, ↓y_non, ↓y_str, ↓it_tup, ↓sq_tup, ↓m_indexT, ↓k_tup, ↓ow_tup, ↓l_bl, ↓l_int, ↓l_non, ↓z_asg, ↓z_asgT, ↓z_par, ↓z_sub, ↓z_aug, ↓g_add, ↓g_sub, ↓z_ex, ↓z_ret, ↓z_if, ↓z_raise, ↓z_for, ↓z_while, ↓bt_nm, ↓bt_tp, ↓bts_n, ↓bts_c, ↓z_try, ↓tq_xc, ↓tq_nx, ↓tq_rt, ↓cq_nx, ↓cq_rt, ↓cq_xc, w_wipe0, w_wipe1, nth_0, nth_1, nth_2, nth_3, nth_4, startZ, endOf, List.map, List.length, List.replicate, List.cons_append, List.nil_append, List.append_nil, List.getElem?_cons_zero, List.getElem?_cons_succ, List.set_cons_zero, List.set_cons_succ, Nat.reduceAdd, Nat.reduceSub, Nat.reduceLT, Nat.zero_add, Nat.add_zero, Nat.sub_self, Int.reduceNeg, Int.reduceToNat, if_true, if_false, Bool.false_eq_true, Bool.not_true, Bool.not_false, Bool.and_true, Bool.true_and, Bool.and_false, Bool.false_and, and_true, true_and, Option.isSome_some, Bool.and_self, reduceIte, reduceCtorEq, decide_true, decide_false, decide_eq_true_eq, not_true_eq_false, not_false_eq_true, or_false, or_true, true_or, false_or, ↓x_lst gr, ↓x_dK gk, nth_top G.ne, lk, ↓k_lst gr, supp, ↓m_append gr]
        obtain ⟨G2, hlt⟩ := Grow.more I G ec
        refine ⟨rfl, by rw [List.length_map]; unfold SL; omega, ?_, f (K19.top (r ++ [y])), ?_, r ++ [y], G2, rfl, ?_⟩
        · show (Ob.lst (r.map Val.int ++ [Val.int y])).okAt h.length = true
          rw [show r.map Val.int ++ [Val.int y] = (r ++ [y]).map Val.int by simp]
          refine List.all_eq_true.mpr fun v m => ?_
          obtain ⟨j, _, e⟩ := List.mem_map.mp m
          subst e; rfl
        · have h1 := G.len
          have h2 := G2.len
          rw [List.length_append] at h2
          simp at h2
          omega
        · rw [put_top]
          show (List.set _ _ (Ob.lst (r.map Val.int ++ [Val.int y]))) :: h = _
          rw [← rl, List.set_append_right _ _ (Nat.le_refl _)]
          simp
    rintro o h' ⟨r, G, ec, eh, eo⟩
    subst eh eo
    simp only [↓w_cons, ↓w_nil, ↓w_ev, ↓w_fin, ↓w_some, ↓t_nx, ↓t_bk, ↓t_ct, ↓t_rt, ↓t_xc, ↓r_bnd, ↓r_ret, ↓r_ok, ↓r_ite, ↓w_ite, ↓r_guard, ↓r_alloc, ↓r_optM', ↓optP_some, ↓r_noExc, ↓r_exc, ↓e_var, ↓varP_some, ↓e_con, ↓e_bin, ↓e_cmp, ↓e_chain, ↓e_neg, ↓e_inv, ↓e_not, ↓e_and, ↓e_or, ↓v_and, ↓v_or, ↓e_ifx, ↓e_idx, ↓e_sl, ↓e_rev, ↓e_lst, ↓e_tup, ↓e_dict, ↓e_call, ↓e_bi, ↓e_me, ↓e_comp, ↓e_nil, ↓e_cons, ↓e_c0, ↓e_c1, ↓i_seq, ↓i_rng1, ↓i_rng2, ↓intP_int, ↓o_add, ↓o_sub, ↓o_mul, ↓o_fdiv, ↓o_mod, ↓o_pow, ↓o_addT, ↓c_eqI, ↓c_neI, ↓c_lt, ↓c_gt, ↓c_le, ↓c_ge, ↓n_int, ↓t_bl, ↓t_int, ↓x_tup, ↓b_lenT, ↓b_abs, ↓b_int, ↓b_tupT, ↓b_tupL, ↓b_list, ↓b_sorted, ↓b_lrg1, ↓b_trg1, ↓b_isi, ↓a_nil, ↓a_cons, ↓y_tup, ↓y_int, ↓y_bl, ↓y_non, ↓y_str, ↓it_tup, ↓sq_tup, ↓m_indexT, ↓k_tup, ↓ow_tup, ↓l_bl, ↓l_int, ↓l_non, ↓z_asg, ↓z_asgT, ↓z_par, ↓z_sub, ↓z_aug, ↓g_add, ↓g_sub, ↓z_ex, ↓z_ret, ↓z_if, ↓z_raise, ↓z_for, ↓z_while, ↓bt_nm, ↓bt_tp, ↓bts_n, ↓bts_c, ↓z_try, ↓tq_xc, ↓tq_nx, ↓tq_rt, ↓cq_nx, ↓cq_rt, ↓cq_xc, w_wipe0, w_wipe1, nth_0, nth_1, nth_2, nth_3, nth_4, startZ, endOf, List.map, List.length, List.replicate, List.cons_append, List.nil_append, List.append_nil, List.getElem?_cons_zero, List.getElem?_cons_succ, List.set_cons_zero, List.set_cons_succ, Nat.reduceAdd, Nat.reduceSub, Nat.reduceLT, Nat.zero_add, Nat.add_zero, Nat.sub_self, Int.reduceNeg, Int.reduceToNat, if_true, if_false, Bool.false_eq_true, Bool.not_true, Bool.not_false, Bool.and_true, Bool.true_and, Bool.and_false, Bool.false_and, and_true, true_and, Option.isSome_some, Bool.and_self, reduceIte, reduceCtorEq, decide_true, decide_false, decide_eq_true_eq, not_true_eq_false, not_false_eq_true, or_false, or_true, true_or, false_or, ↓b_revL gr]
    have gv : ∀ {x y : Ob}, get ((reg h.length hs kvs ++ [x] ++ [y]) :: h) h.length (hs.length + 2 + 1) = some y := fun {x y} => by
      rw [get_top]; unfold reg; simp
    have g0 : ∀ {x y : Ob}, get ((reg h.length hs kvs ++ [x] ++ [y]) :: h) h.length 0 = some (.lst ((List.range hs.length).map fun j => .loc h.length (j + 2))) := fun {x y} => get_app (get_app reg0)
    have gh : ∀ {x y : Ob} {j : Nat} {l : List Int}, hs[j]? = some l → get ((reg h.length hs kvs ++ [x] ++ [y]) :: h) h.length (j + 2) = some (.lst (l.map Val.int)) := fun {x y j l} e => get_app (get_app (reg2 e))
    rw [List.length_append, rl]
    simp only [↓w_cons, ↓w_nil, ↓w_ev, ↓w_fin, ↓w_some, ↓t_nx, ↓t_bk, ↓t_ct, ↓t_rt, ↓t_xc, ↓r_bnd, ↓r_ret, ↓r_ok, ↓r_ite, ↓w_ite, ↓r_guard, ↓r_alloc, ↓r_optM', ↓optP_some, ↓r_noExc, ↓r_exc, ↓e_var, ↓varP_some, ↓e_con, ↓e_bin, ↓e_cmp, ↓e_chain, ↓e_neg, ↓e_inv, ↓e_not, ↓e_and, ↓e_or, ↓v_and, ↓v_or, ↓e_ifx, ↓e_idx, ↓e_sl, ↓e_rev, ↓e_lst, ↓e_tup, ↓e_dict, ↓e_call, ↓e_bi, ↓e_me, ↓e_comp, ↓e_nil, ↓e_cons, ↓e_c0, ↓e_c1, ↓i_seq, ↓i_rng1, ↓i_rng2, ↓intP_int, ↓o_add, ↓o_sub, ↓o_mul, ↓o_fdiv, ↓o_mod, ↓o_pow, ↓o_addT, ↓c_eqI, ↓c_neI, ↓c_lt, ↓c_gt, ↓c_le, ↓c_ge, ↓n_int, ↓t_bl, ↓t_int, ↓x_tup, ↓b_lenT, ↓b_abs, ↓b_int, ↓b_tupT, ↓b_tupL, ↓b_list, ↓b_sorted, ↓b_lrg1, ↓b_trg1, ↓b_isi, ↓a_nil, ↓a_cons, ↓y_tup, ↓y_int, ↓y_bl, ↓y_non, ↓y_str, ↓it_tup, ↓sq_tup, ↓m_indexT, ↓k_tup, ↓ow_tup, ↓l_bl, ↓l_int, ↓l_non, ↓z_asg, ↓z_asgT, ↓z_par, ↓z_sub, ↓z_aug, ↓g_add, ↓g_sub, ↓z_ex, ↓z_ret, ↓z_if, ↓z_raise, ↓z_for, ↓z_while, ↓bt_nm, ↓bt_tp, ↓bts_n, ↓bts_c, ↓z_try, ↓tq_xc, ↓tq_nx, ↓tq_rt, ↓cq_nx, ↓cq_rt, ↓cq_xc, w_wipe0, w_wipe1, nth_0, nth_1, nth_2, nth_3, nth_4, startZ, endOf, List.map, List.length, List.replicate, List.cons_append, List.nil_append, List.append_nil, List.getElem?_cons_zero, List.getElem?_cons_succ, List.set_cons_zero, List.set_cons_succ, Nat.reduceAdd, Nat.reduceSub, Nat.reduceLT, Nat.zero_add, Nat.add_zero, Nat.sub_self, Int.reduceNeg, Int.reduceToNat, if_true, if_false, Bool.false_eq_true, Bool.not_true, Bool.not_false, Bool.and_true, Bool.true_and, Bool.and_false, Bool.false_and, and_true, true_and, Option.isSome_some, Bool.and_self, reduceIte, reduceCtorEq, decide_true, decide_false, decide_eq_true_eq, not_true_eq_false, not_false_eq_true, or_false, or_true, true_or, false_or, ↓it_lst gv, ↓sq_lst g0]
    refine walk_each (fun j => Val.loc h.length (j + 2)) (List.range hs.length) (fun j => .tup ((hs[j]?.getD []).map .int)) (st_one g0) (fun j hj => ?_) ?_
    · have hj := List.mem_range.mp hj
      have e : hs[j]? = some (hs[j]'hj) := List.getElem?_eq_getElem _
      simp only [↓w_cons, ↓w_nil, ↓w_ev, ↓w_fin, ↓w_some, ↓t_nx, ↓t_bk, ↓t_ct, ↓t_rt, ↓t_xc, ↓r_bnd, ↓r_ret, ↓r_ok, ↓r_ite, ↓w_ite, ↓r_guard, ↓r_alloc, ↓r_optM', ↓optP_some, ↓r_noExc, ↓r_exc, ↓e_var, ↓varP_some, ↓e_con, ↓e_bin, ↓e_cmp, ↓e_chain, ↓e_neg, ↓e_inv, ↓e_not, ↓e_and, ↓e_or, ↓v_and, ↓v_or, ↓e_ifx, ↓e_idx, ↓e_sl, ↓e_rev, ↓e_lst, ↓e_tup, ↓e_dict, ↓e_call, ↓e_bi, ↓e_me, ↓e_comp, ↓e_nil, ↓e_cons, ↓e_c0, ↓e_c1, ↓i_seq, ↓i_rng1, ↓i_rng2, ↓intP_int, ↓o_add, ↓o_sub, ↓o_mul, ↓o_fdiv, ↓o_mod, ↓o_pow, ↓o_addT, ↓c_eqI, ↓c_neI, ↓c_lt, ↓c_gt, ↓c_le, ↓c_ge, ↓n_int, ↓t_bl, ↓t_int, ↓x_tup, ↓b_lenT, ↓b_abs, ↓b_int, ↓b_tupT, ↓b_tupL, ↓b_list, ↓b_sorted, ↓b_lrg1, ↓b_trg1, ↓b_isi, ↓a_nil, ↓a_cons, ↓y_tup, ↓y_int, ↓y_bl, ↓y_non, ↓y_str, ↓it_tup, ↓sq_tup, ↓m_indexT, ↓k_tup, ↓ow_tup, ↓l_bl, ↓l_int, ↓l_non, ↓z_asg, ↓z_asgT, ↓z_par, ↓z_sub, ↓z_aug, ↓g_add, ↓g_sub, ↓z_ex, ↓z_ret, ↓z_if, ↓z_raise, ↓z_for, ↓z_while, ↓bt_nm, ↓bt_tp, ↓bts_n, ↓bts_c, ↓z_try, ↓tq_xc, ↓tq_nx, ↓tq_rt, ↓cq_nx, ↓cq_rt, ↓cq_xc, w_wipe0, w_wipe1, nth_0, nth_1, nth_2, nth_3, nth_4, startZ, endOf, List.map, List.length, List.replicate, List.cons_append, List.nil_append, List.append_nil, List.getElem?_cons_zero, List.getElem?_cons_succ, List.set_cons_zero, List.set_cons_succ, Nat.reduceAdd, Nat.reduceSub, Nat.reduceLT, Nat.zero_add, Nat.add_zero, Nat.sub_self, Int.reduceNeg, Int.reduceToNat, if_true, if_false, Bool.false_eq_true, Bool.not_true, Bool.not_false, Bool.and_true, Bool.true_and, Bool.and_false, Bool.false_and, and_true, true_and, Option.isSome_some, Bool.and_self, reduceIte, reduceCtorEq, decide_true, decide_false, decide_eq_true_eq, not_true_eq_false, not_false_eq_true, or_false, or_true, true_or, false_or, ↓it_lst (gh e)]
      rw [e]; rfl
    have ew : (List.range hs.length).map (fun j => Val.tup ((hs[j]?.getD []).map .int)) = hs.map fun l => .tup (l.map .int) := by
      refine List.ext_getElem? fun j => ?_
      rw [List.getElem?_map, List.getElem?_map]
      by_cases hj : j < hs.length
      · rw [List.getElem?_range hj, List.getElem?_eq_getElem hj]
        show some (Val.tup ((hs[j]?.getD []).map .int)) = _
        rw [List.getElem?_eq_getElem hj]; rfl
      · rw [List.getElem?_eq_none (by simp; omega), List.getElem?_eq_none (by omega)]; rfl
    rw [ew]
    refine ⟨by rw [List.length_map]; unfold SL; omega, ?_⟩
    have gw : ∀ {x y z : Ob}, get ((reg h.length hs kvs ++ [x] ++ [y] ++ [z]) :: h) h.length (hs.length + 2 + 1 + 1) = some z := fun {x y z} => by
      rw [get_top]; unfold reg; simp
    simp only [↓w_cons, ↓w_nil, ↓w_ev, ↓w_fin, ↓w_some, ↓t_nx, ↓t_bk, ↓t_ct, ↓t_rt, ↓t_xc, ↓r_bnd, ↓r_ret, ↓r_ok, ↓r_ite, ↓w_ite, ↓r_guard, ↓r_alloc, ↓r_optM', ↓optP_some, ↓r_noExc, ↓r_exc, ↓e_var, ↓varP_some, ↓e_con, ↓e_bin, ↓e_cmp, ↓e_chain, ↓e_neg, ↓e_inv, ↓e_not, ↓e_and, ↓e_or, ↓v_and, ↓v_or, ↓e_ifx, ↓e_idx, ↓e_sl, ↓e_rev, ↓e_lst, ↓e_tup, ↓e_dict, ↓e_call, ↓e_bi, ↓e_me, ↓e_comp, ↓e_nil, ↓e_cons, ↓e_c0, ↓e_c1, ↓i_seq, ↓i_rng1, ↓i_rng2, ↓intP_int, ↓o_add, ↓o_sub, ↓o_mul, ↓o_fdiv, ↓o_mod, ↓o_pow, ↓o_addT, ↓c_eqI, ↓c_neI, ↓c_lt, ↓c_gt, ↓c_le, ↓c_ge, ↓n_int, ↓t_bl, ↓t_int, ↓x_tup, ↓b_lenT, ↓b_abs, ↓b_int, ↓b_tupT, ↓b_tupL, ↓b_list, ↓b_sorted, ↓b_lrg1, ↓b_trg1, ↓b_isi, ↓a_nil, ↓a_cons, ↓y_tup, ↓y_int, ↓y_bl, ↓y_non, ↓y_str, ↓it_tup, ↓sq_tup, ↓m_indexT, ↓k_tup, ↓ow_tup, ↓l_bl, ↓l_int, ↓l_non, ↓z_asg, ↓z_asgT, ↓z_par, ↓z_sub, ↓z_aug, ↓g_add, ↓g_sub, ↓z_ex, ↓z_ret, ↓z_if, ↓z_raise, ↓z_for, ↓z_while, ↓bt_nm, ↓bt_tp, ↓bts_n, ↓bts_c, ↓z_try, ↓tq_xc, ↓tq_nx, ↓tq_rt, ↓cq_nx, ↓cq_rt, ↓cq_xc, w_wipe0, w_wipe1, nth_0, nth_1, nth_2, nth_3, nth_4, startZ, endOf, List.map, List.length, List.replicate, List.cons_append, List.nil_append, List.append_nil, List.getElem?_cons_zero, List.getElem?_cons_succ, List.set_cons_zero, List.set_cons_succ, Nat.reduceAdd, Nat.reduceSub, Nat.reduceLT, Nat.zero_add, Nat.add_zero, Nat.sub_self, Int.reduceNeg, Int.reduceToNat, if_true, if_false, Bool.false_eq_true, Bool.not_true, Bool.not_false, Bool.and_true, Bool.true_and, Bool.and_false, Bool.false_and, and_true, true_and, Option.isSome_some, Bool.and_self, reduceIte, reduceCtorEq, decide_true, decide_false, decide_eq_true_eq, not_true_eq_false, not_false_eq_true, or_false, or_true, true_or, false_or]
    rw [List.length_append, List.length_append, rl]
    simp only [↓w_cons, ↓w_nil, ↓w_ev, ↓w_fin, ↓w_some, ↓t_nx, ↓t_bk, ↓t_ct, ↓t_rt, ↓t_xc, ↓r_bnd, ↓r_ret, ↓r_ok, ↓r_ite, ↓w_ite, ↓r_guard, ↓r_alloc, ↓r_optM', ↓optP_some, ↓r_noExc, ↓r_exc, ↓e_var, ↓varP_some, ↓e_con, ↓e_bin, ↓e_cmp, ↓e_chain, ↓e_neg, ↓e_inv, ↓e_not, ↓e_and, ↓e_or, ↓v_and, ↓v_or, ↓e_ifx, ↓e_idx, ↓e_sl, ↓e_rev, ↓e_lst, ↓e_tup, ↓e_dict, ↓e_call, ↓e_bi, ↓e_me, ↓e_comp, ↓e_nil, ↓e_cons, ↓e_c0, ↓e_c1, ↓i_seq, ↓i_rng1, ↓i_rng2, ↓intP_int, ↓o_add, ↓o_sub, ↓o_mul, ↓o_fdiv, ↓o_mod, ↓o_pow, ↓o_addT, ↓c_eqI, ↓c_neI, ↓c_lt, ↓c_gt, ↓c_le, ↓c_ge, ↓n_int, ↓t_bl, ↓t_int, ↓x_tup, ↓b_lenT, ↓b_abs, ↓b_int, ↓b_tupT, ↓b_tupL, ↓b_list, ↓b_sorted, ↓b_lrg1, ↓b_trg1, ↓b_isi, ↓a_nil, ↓a_cons, ↓y_tup, ↓y_int, ↓y_bl, ↓y_non, ↓y_str, ↓it_tup, ↓sq_tup, ↓m_indexT, ↓k_tup, ↓ow_tup, ↓l_bl, ↓l_int, ↓l_non, ↓z_asg, ↓z_asgT, ↓z_par, ↓z_sub, ↓z_aug, ↓g_add, ↓g_sub, ↓z_ex, ↓z_ret, ↓z_if, ↓z_raise, ↓z_for, ↓z_while, ↓bt_nm, ↓bt_tp, ↓bts_n, ↓bts_c, ↓z_try, ↓tq_xc, ↓tq_nx, ↓tq_rt, ↓cq_nx, ↓cq_rt, ↓cq_xc, w_wipe0, w_wipe1, nth_0, nth_1, nth_2, nth_3, nth_4, startZ, endOf, List.map, List.length, List.replicate, List.cons_append, List.nil_append, List.append_nil, List.getElem?_cons_zero, List.getElem?_cons_succ, List.set_cons_zero, List.set_cons_succ, Nat.reduceAdd, Nat.reduceSub, Nat.reduceLT, Nat.zero_add, Nat.add_zero, Nat.sub_self, Int.reduceNeg, Int.reduceToNat, if_true, if_false, Bool.false_eq_true, Bool.not_true, Bool.not_false, Bool.and_true, Bool.true_and, Bool.and_false, Bool.false_and, and_true, true_and, Option.isSome_some, Bool.and_self, reduceIte, reduceCtorEq, decide_true, decide_false, decide_eq_true_eq, not_true_eq_false, not_false_eq_true, or_false, or_true, true_or, false_or, ↓it_lst gw]
    rw [leave_drop]
    · rw [← List.map_reverse]
      exact q _ _ f (G.good I ec)
    · refine tup_under fun v m => ?_
      rcases List.mem_cons.mp m with m | m
      · rw [m, ← List.map_reverse]; exact ints_under
      · rw [List.mem_singleton.mp m]
        refine tup_under fun v m => ?_
        obtain ⟨j, _, e⟩ := List.mem_map.mp m
        subst e; exact ints_under
/-- the greatest size of a falling row, by a size of each number -/
theorem best_ok {ns : List Int} {F : Int → Int} (h0 : ns ≠ []) (hl : ns.length ≤ 100) (hF : ∀ i x, ns[i]? = some x → 1 + maxI 0 (((ns.take i).filter fun y => decide (x < y)).map F) = F x) {m : Int} (hm : (∀ x ∈ ns, F x ≤ m) ∧ ∃ x ∈ ns, F x = m)
    (q : P (.int m) h) : wp (callN fds (k + 1) 8 [.tup (ns.map .int)] h) P X := by
  refine call_of (d := Blaw_best) rfl rfl ?_
  simp only [↓w_cons, ↓w_nil, ↓w_ev, ↓w_fin, ↓w_some, ↓t_nx, ↓t_bk, ↓t_ct, ↓t_rt, ↓t_xc, ↓r_bnd, ↓r_ret, ↓r_ok, ↓r_ite, ↓w_ite, ↓r_guard, ↓r_alloc, ↓r_optM', ↓optP_some, ↓r_noExc, ↓r_exc, ↓e_var, ↓varP_some, ↓e_con, ↓e_bin, ↓e_cmp, ↓e_chain, ↓e_neg, ↓e_inv, ↓e_not, ↓e_and, ↓e_or, ↓v_and, ↓v_or, ↓e_ifx, ↓e_idx, ↓e_sl, ↓e_rev, ↓e_lst, ↓e_tup, ↓e_dict, ↓e_call, ↓e_bi, ↓e_me, ↓e_comp, ↓e_nil, ↓e_cons, ↓e_c0, ↓e_c1, ↓i_seq, ↓i_rng1, ↓i_rng2, ↓intP_int, ↓o_add, ↓o_sub, ↓o_mul, ↓o_fdiv, ↓o_mod, ↓o_pow, ↓o_addT, ↓c_eqI, ↓c_neI, ↓c_lt, ↓c_gt, ↓c_le, ↓c_ge, ↓n_int, ↓t_bl, ↓t_int, ↓x_tup, ↓b_lenT, ↓b_abs, ↓b_int, ↓b_tupT, ↓b_tupL, ↓b_list, ↓b_sorted, ↓b_lrg1, ↓b_trg1, ↓b_isi, ↓a_nil, ↓a_cons, ↓y_tup, ↓y_int, ↓y_bl, ↓y_non, ↓y_str, ↓it_tup, ↓sq_tup, ↓m_indexT, ↓k_tup, ↓ow_tup, ↓l_bl, ↓l_int, ↓l_non, ↓z_asg, ↓z_asgT, ↓z_par, ↓z_sub, ↓z_aug, ↓g_add, ↓g_sub, ↓z_ex, ↓z_ret, ↓z_if, ↓z_raise, ↓z_for, ↓z_while, ↓bt_nm, ↓bt_tp, ↓bts_n, ↓bts_c, ↓z_try, ↓tq_xc, ↓tq_nx, ↓tq_rt, ↓cq_nx, ↓cq_rt, ↓cq_xc, w_wipe0, w_wipe1, nth_0, nth_1, nth_2, nth_3, nth_4, startZ, endOf, List.map, List.length, List.replicate, List.cons_append, List.nil_append, List.append_nil, List.getElem?_cons_zero, List.getElem?_cons_succ, List.set_cons_zero, List.set_cons_succ, Nat.reduceAdd, Nat.reduceSub, Nat.reduceLT, Nat.zero_add, Nat.add_zero, Nat.sub_self, Int.reduceNeg, Int.reduceToNat, if_true, if_false, Bool.false_eq_true, Bool.not_true, Bool.not_false, Bool.and_true, Bool.true_and, Bool.and_false, Bool.false_and, and_true, true_and, Option.isSome_some, Bool.and_self, reduceIte, reduceCtorEq, decide_true, decide_false, decide_eq_true_eq, not_true_eq_false, not_false_eq_true, or_false, or_true, true_or, false_or, Blaw_best]
  rw [show ((List.map Val.int ns).length : Int) = (ns.length : Int) by simp, range_nat]
  refine ⟨⟨by omega, by omega⟩, ?_⟩
  refine for_inv (fun i σ h' => ∃ r u v, h' = r :: h ∧ r[0]? = some (.lst (((ns.take i).map F).map .int)) ∧ σ = [some (.tup (ns.map .int)), some (.loc h.length 0), u, v]) ?_ ?_ ?_ ?_
  · exact ⟨_, _, _, rfl, rfl, rfl⟩
  · intros; rfl
  · rintro i x σ h' hx ⟨r, u, v, eh, er, es⟩
    subst eh es
    rw [List.getElem?_map] at hx
    have hi : i < ns.length := by
      refine Nat.lt_of_not_le fun hle => ?_
      rw [List.getElem?_eq_none (by simpa using hle)] at hx
      cases hx
    rw [List.getElem?_range hi] at hx
    obtain rfl := Option.some.inj hx
    have g0 : get (r :: h) h.length 0 = some (.lst (((ns.take i).map F).map .int)) := by rw [get_top]; exact er
    have ex : ns[i]? = some (ns[i]'hi) := List.getElem?_eq_getElem _
    simp only [↓w_cons, ↓w_nil, ↓w_ev, ↓w_fin, ↓w_some, ↓t_nx, ↓t_bk, ↓t_ct, ↓t_rt, ↓t_xc, ↓r_bnd, ↓r_ret, ↓r_ok, ↓r_ite, ↓w_ite, ↓r_guard, ↓r_alloc, ↓r_optM', ↓optP_some, ↓r_noExc, ↓r_exc, ↓e_var, ↓varP_some, ↓e_con, ↓e_bin, ↓e_cmp, ↓e_chain, ↓e_neg, ↓e_inv, ↓e_not, ↓e_and, ↓e_or, ↓v_and, ↓v_or, ↓e_ifx, ↓e_idx, ↓e_sl, ↓e_rev, ↓e_lst, ↓e_tup, ↓e_dict, ↓e_call, ↓e_bi, ↓e_me, ↓e_comp, ↓e_nil, ↓e_cons, ↓e_c0, ↓e_c1, ↓i_seq, ↓i_rng1, ↓i_rng2, ↓intP_int, ↓o_add, ↓o_sub, ↓o_mul, ↓o_fdiv, ↓o_mod, ↓o_pow, ↓o_addT, ↓c_eqI, ↓c_neI, ↓c_lt, ↓c_gt, ↓c_le, ↓c_ge, ↓n_int, ↓t_bl, ↓t_int, ↓x_tup, ↓b_lenT, ↓b_abs, ↓b_int, ↓b_tupT, ↓b_tupL, ↓b_list, ↓b_sorted, ↓b_lrg1, ↓b_trg1, ↓b_isi, ↓a_nil, ↓a_cons, ↓y_tup, ↓y_int, ↓y_bl, ↓y_non, ↓y_str, ↓it_tup, ↓sq_tup, ↓m_indexT, ↓k_tup, ↓ow_tup, ↓l_bl, ↓l_int, ↓l_non, ↓z_asg, ↓z_asgT, ↓z_par, ↓z_sub, ↓z_aug, ↓g_add, ↓g_sub, ↓z_ex, ↓z_ret, ↓z_if, ↓z_raise, ↓z_for, ↓z_while, ↓bt_nm, ↓bt_tp, ↓bts_n, ↓bts_c, ↓z_try, ↓tq_xc, ↓tq_nx, ↓tq_rt, ↓cq_nx, ↓cq_rt, ↓cq_xc, w_wipe0, w_wipe1, nth_0, nth_1, nth_2, nth_3, nth_4, startZ, endOf, List.map, List.length, List.replicate, List.cons_append, List.nil_append, List.append_nil, List.getElem?_cons_zero, List.getElem?_cons_succ, List.set_cons_zero, List.set_cons_succ, Nat.reduceAdd, Nat.reduceSub, Nat.reduceLT, Nat.zero_add, Nat.add_zero, Nat.sub_self, Int.reduceNeg, Int.reduceToNat, if_true, if_false, Bool.false_eq_true, Bool.not_true, Bool.not_false, Bool.and_true, Bool.true_and, Bool.and_false, Bool.false_and, and_true, true_and, Option.isSome_some, Bool.and_self, reduceIte, reduceCtorEq, decide_true, decide_false, decide_eq_true_eq, not_true_eq_false, not_false_eq_true, or_false, or_true, true_or, false_or, ↓k_lst g0, supp]
    rw [range_nat]
    refine ⟨⟨by omega, by omega⟩, ?_⟩
    refine walk_by (fun k : Nat => Val.int k) (List.range i) (fun k => if decide (ns[i]'hi < ns[k]?.getD 0) = true then [.int (F (ns[k]?.getD 0))] else []) st_nil (fun k hk => ?_) ?_
    · have hk := List.mem_range.mp hk
      have ek : ns[k]? = some (ns[k]'(by omega)) := List.getElem?_eq_getElem _
      have e1 : nth (ns.map Val.int) (k : Int) = some (.int (ns[k]'(by omega))) := by
        rw [nth_nat (by simp; omega), List.getElem?_map, ek]; rfl
      have e2 : nth (ns.map Val.int) (i : Int) = some (.int (ns[i]'hi)) := by
        rw [nth_nat (by simp; omega), List.getElem?_map, ex]; rfl
      have e3 : nth (((ns.take i).map F).map Val.int) (k : Int) = some (.int (F (ns[k]'(by omega)))) := by
        rw [nth_nat (by simp; omega), List.getElem?_map, List.getElem?_map, List.getElem?_take_of_lt hk, ek]; rfl
      simp only [↓w_cons, ↓w_nil, ↓w_ev, ↓w_fin, ↓w_some, ↓t_nx, ↓t_bk, ↓t_ct, ↓t_rt, ↓t_xc, ↓r_bnd, ↓r_ret, ↓r_ok, ↓r_ite, ↓w_ite, ↓r_guard, ↓r_alloc, ↓r_optM', ↓optP_some, ↓r_noExc, ↓r_exc, ↓e_var, ↓varP_some, ↓e_con, ↓e_bin, ↓e_cmp, ↓e_chain, ↓e_neg, ↓e_inv, ↓e_not, ↓e_and, ↓e_or, ↓v_and, ↓v_or, ↓e_ifx, ↓e_idx, ↓e_sl, ↓e_rev, ↓e_lst, ↓e_tup, ↓e_dict, ↓e_call, ↓e_bi, ↓e_me, ↓e_comp, ↓e_nil, ↓e_cons, ↓e_c0, ↓e_c1, ↓i_seq, ↓i_rng1, ↓i_rng2, ↓intP_int, ↓o_add, ↓o_sub, ↓o_mul, ↓o_fdiv, ↓o_mod, ↓o_pow, ↓o_addT, ↓c_eqI, ↓c_neI, ↓c_lt, ↓c_gt, ↓c_le, ↓c_ge, ↓n_int, ↓t_bl, ↓t_int, ↓x_tup, ↓b_lenT, ↓b_abs, ↓b_int, ↓b_tupT, ↓b_tupL, ↓b_list, ↓b_sorted, ↓b_lrg1, ↓b_trg1, ↓b_isi, ↓a_nil, ↓a_cons, ↓y_tup, ↓y_int, ↓y_bl, ↓y_non, ↓y_str, ↓it_tup, ↓sq_tup, ↓m_indexT, ↓k_tup, ↓ow_tup, ↓l_bl, ↓l_int, ↓l_non, ↓z_asg, ↓z_asgT, ↓z_par, ↓z_sub, ↓z_aug, ↓g_add, ↓g_sub, ↓z_ex, ↓z_ret, ↓z_if, ↓z_raise, ↓z_for, ↓z_while, ↓bt_nm, ↓bt_tp, ↓bts_n, ↓bts_c, ↓z_try, ↓tq_xc, ↓tq_nx, ↓tq_rt, ↓cq_nx, ↓cq_rt, ↓cq_xc, w_wipe0, w_wipe1, nth_0, nth_1, nth_2, nth_3, nth_4, startZ, endOf, List.map, List.length, List.replicate, List.cons_append, List.nil_append, List.append_nil, List.getElem?_cons_zero, List.getElem?_cons_succ, List.set_cons_zero, List.set_cons_succ, Nat.reduceAdd, Nat.reduceSub, Nat.reduceLT, Nat.zero_add, Nat.add_zero, Nat.sub_self, Int.reduceNeg, Int.reduceToNat, if_true, if_false, Bool.false_eq_true, Bool.not_true, Bool.not_false, Bool.and_true, Bool.true_and, Bool.and_false, Bool.false_and, and_true, true_and, Option.isSome_some, Bool.and_self, reduceIte, reduceCtorEq, decide_true, decide_false, decide_eq_true_eq, not_true_eq_false, not_false_eq_true, or_false, or_true, true_or, false_or, e1, e2, ↓x_lst (get_app g0), e3]
      rw [ek]
      simp only [Option.getD_some]
      by_cases c : ns[i] < ns[k]'(by omega)
      · rw [if_pos c, if_pos c]
      · rw [if_neg c, if_neg c]
    have ef : (List.range i).flatMap (fun k => if decide (ns[i]'hi < ns[k]?.getD 0) = true then [Val.int (F (ns[k]?.getD 0))] else []) = ((((ns.take i).filter fun y => decide (ns[i]'hi < y))).map F).map Val.int := by
      rw [range_take ns 0 (fun y => if decide (ns[i]'hi < y) = true then [Val.int (F y)] else []) i (by omega), flat_filter (fun y => decide (ns[i]'hi < y)) (fun y => Val.int (F y)), List.map_map]; rfl
    rw [ef]
    have hfl : (((ns.take i).filter fun y => decide (ns[i]'hi < y)).map F).length ≤ 100 := by
      rw [List.length_map]
      refine Nat.le_trans (List.length_filter_le _ _) ?_
      rw [List.length_take]; omega
    have eF := hF i _ ex
    generalize ((ns.take i).filter fun y => decide (ns[i]'hi < y)).map F = zs at *
    refine ⟨by rw [List.length_map]; unfold SL; omega, ?_⟩
    simp only [↓w_cons, ↓w_nil, ↓w_ev, ↓w_fin, ↓w_some, ↓t_nx, ↓t_bk, ↓t_ct, ↓t_rt, ↓t_xc, ↓r_bnd, ↓r_ret, ↓r_ok, ↓r_ite, ↓w_ite, ↓r_guard, ↓r_alloc, ↓r_optM', ↓optP_some, ↓r_noExc, ↓r_exc, ↓e_var, ↓varP_some, ↓e_con, ↓e_bin, ↓e_cmp, ↓e_chain, ↓e_neg, ↓e_inv, ↓e_not, ↓e_and, ↓e_or, ↓v_and, ↓v_or, ↓e_ifx, ↓e_idx, ↓e_sl, ↓e_rev, ↓e_lst, ↓e_tup, ↓e_dict, ↓e_call, ↓e_bi, ↓e_me, ↓e_comp, ↓e_nil, ↓e_cons, ↓e_c0, ↓e_c1, ↓i_seq, ↓i_rng1, ↓i_rng2, ↓intP_int, ↓o_add, ↓o_sub, ↓o_mul, ↓o_fdiv, ↓o_mod, ↓o_pow, ↓o_addT, ↓c_eqI, ↓c_neI, ↓c_lt, ↓c_gt, ↓c_le, ↓c_ge, ↓n_int, ↓t_bl, ↓t_int, ↓x_tup, ↓b_lenT, ↓b_abs, ↓b_int, ↓b_tupT, ↓b_tupL, ↓b_list, ↓b_sorted, ↓b_lrg1, ↓b_trg1, ↓b_isi, ↓a_nil, ↓a_cons, ↓y_tup, ↓y_int, ↓y_bl, ↓y_non, ↓y_str, ↓it_tup, ↓sq_tup, ↓m_indexT, ↓k_tup, ↓ow_tup, ↓l_bl, ↓l_int, ↓l_non, ↓z_asg, ↓z_asgT, ↓z_par, ↓z_sub, ↓z_aug, ↓g_add, ↓g_sub, ↓z_ex, ↓z_ret, ↓z_if, ↓z_raise, ↓z_for, ↓z_while, ↓bt_nm, ↓bt_tp, ↓bts_n, ↓bts_c, ↓z_try, ↓tq_xc, ↓tq_nx, ↓tq_rt, ↓cq_nx, ↓cq_rt, ↓cq_xc, w_wipe0, w_wipe1, nth_0, nth_1, nth_2, nth_3, nth_4, startZ, endOf, List.map, List.length, List.replicate, List.cons_append, List.nil_append, List.append_nil, List.getElem?_cons_zero, List.getElem?_cons_succ, List.set_cons_zero, List.set_cons_succ, Nat.reduceAdd, Nat.reduceSub, Nat.reduceLT, Nat.zero_add, Nat.add_zero, Nat.sub_self, Int.reduceNeg, Int.reduceToNat, if_true, if_false, Bool.false_eq_true, Bool.not_true, Bool.not_false, Bool.and_true, Bool.true_and, Bool.and_false, Bool.false_and, and_true, true_and, Option.isSome_some, Bool.and_self, reduceIte, reduceCtorEq, decide_true, decide_false, decide_eq_true_eq, not_true_eq_false, not_false_eq_true, or_false, or_true, true_or, false_or, ↓o_addLs (get_app get_new) get_new]
    refine ⟨by rw [List.length_map]; unfold SL; omega, ?_⟩
    rw [show Val.int 0 :: zs.map Val.int = (0 :: zs).map Val.int from rfl]
    simp only [↓w_cons, ↓w_nil, ↓w_ev, ↓w_fin, ↓w_some, ↓t_nx, ↓t_bk, ↓t_ct, ↓t_rt, ↓t_xc, ↓r_bnd, ↓r_ret, ↓r_ok, ↓r_ite, ↓w_ite, ↓r_guard, ↓r_alloc, ↓r_optM', ↓optP_some, ↓r_noExc, ↓r_exc, ↓e_var, ↓varP_some, ↓e_con, ↓e_bin, ↓e_cmp, ↓e_chain, ↓e_neg, ↓e_inv, ↓e_not, ↓e_and, ↓e_or, ↓v_and, ↓v_or, ↓e_ifx, ↓e_idx, ↓e_sl, ↓e_rev, ↓e_lst, ↓e_tup, ↓e_dict, ↓e_call, ↓e_bi, ↓e_me, ↓e_comp, ↓e_nil, ↓e_cons, ↓e_c0, ↓e_c1, ↓i_seq, ↓i_rng1, ↓i_rng2, ↓intP_int, ↓o_add, ↓o_sub, ↓o_mul, ↓o_fdiv, ↓o_mod, ↓o_pow, ↓o_addT, ↓c_eqI, ↓c_neI, ↓c_lt, ↓c_gt, ↓c_le, ↓c_ge, ↓n_int, ↓t_bl, ↓t_int, ↓x_tup, ↓b_lenT, ↓b_abs, ↓b_int, ↓b_tupT, ↓b_tupL, ↓b_list, ↓b_sorted, ↓b_lrg1, ↓b_trg1, ↓b_isi, ↓a_nil, ↓a_cons, ↓y_tup, ↓y_int, ↓y_bl, ↓y_non, ↓y_str, ↓it_tup, ↓sq_tup, ↓m_indexT, ↓k_tup, ↓ow_tup, ↓l_bl, ↓l_int, ↓l_non, ↓z_asg, ↓z_asgT, ↓z_par, ↓z_sub, ↓z_aug, ↓g_add, ↓g_sub, ↓z_ex, ↓z_ret, ↓z_if, ↓z_raise, ↓z_for, ↓z_while, ↓bt_nm, ↓bt_tp, ↓bts_n, ↓bts_c, ↓z_try, ↓tq_xc, ↓tq_nx, ↓tq_rt, ↓cq_nx, ↓cq_rt, ↓cq_xc, w_wipe0, w_wipe1, nth_0, nth_1, nth_2, nth_3, nth_4, startZ, endOf, List.map, List.length, List.replicate, List.cons_append, List.nil_append, List.append_nil, List.getElem?_cons_zero, List.getElem?_cons_succ, List.set_cons_zero, List.set_cons_succ, Nat.reduceAdd, Nat.reduceSub, Nat.reduceLT, Nat.zero_add, Nat.add_zero, Nat.sub_self, Int.reduceNeg, Int.reduceToNat, if_true, if_false, Bool.false_eq_true, Bool.not_true, Bool.not_false, Bool.and_true, Bool.true_and, Bool.and_false, Bool.false_and, and_true, true_and, Option.isSome_some, Bool.and_self, reduceIte, reduceCtorEq, decide_true, decide_false, decide_eq_true_eq, not_true_eq_false, not_false_eq_true, or_false, or_true, true_or, false_or, ↓b_max get_new, ↓m_append (get_app (get_app (get_app g0)))]
    rw [eF]
    refine ⟨by rw [List.length_map, List.length_map, List.length_take]; unfold SL; omega, ?_, ?_⟩
    · refine List.all_eq_true.mpr fun v m => ?_
      rcases List.mem_append.mp m with m | m
      · obtain ⟨j, _, e⟩ := List.mem_map.mp m
        subst e; rfl
      · rw [List.mem_singleton.mp m]; rfl
    · refine ⟨_, _, _, put_top, ?_, rfl⟩
      rw [List.getElem?_set_self (by have := (List.getElem?_eq_some_iff.mp er).1; simp), List.take_add_one, ex]
      simp only [Option.toList_some, List.map_append, List.map_cons, List.map_nil]
  · rintro σ h' ⟨r, u, v, eh, er, es⟩
    subst eh es
    rw [List.length_map, List.length_range, List.take_length] at er
    have g0 : get (r :: h) h.length 0 = some (.lst ((ns.map F).map .int)) := by rw [get_top]; exact er
    cases ens : ns with
    | nil => exact absurd ens h0
    | cons n t =>
    rw [ens, List.map_cons] at g0
    simp only [↓w_cons, ↓w_nil, ↓w_ev, ↓w_fin, ↓w_some, ↓t_nx, ↓t_bk, ↓t_ct, ↓t_rt, ↓t_xc, ↓r_bnd, ↓r_ret, ↓r_ok, ↓r_ite, ↓w_ite, ↓r_guard, ↓r_alloc, ↓r_optM', ↓optP_some, ↓r_noExc, ↓r_exc, ↓e_var, ↓varP_some, ↓e_con, ↓e_bin, ↓e_cmp, ↓e_chain, ↓e_neg, ↓e_inv, ↓e_not, ↓e_and, ↓e_or, ↓v_and, ↓v_or, ↓e_ifx, ↓e_idx, ↓e_sl, ↓e_rev, ↓e_lst, ↓e_tup, ↓e_dict, ↓e_call, ↓e_bi, ↓e_me, ↓e_comp, ↓e_nil, ↓e_cons, ↓e_c0, ↓e_c1, ↓i_seq, ↓i_rng1, ↓i_rng2, ↓intP_int, ↓o_add, ↓o_sub, ↓o_mul, ↓o_fdiv, ↓o_mod, ↓o_pow, ↓o_addT, ↓c_eqI, ↓c_neI, ↓c_lt, ↓c_gt, ↓c_le, ↓c_ge, ↓n_int, ↓t_bl, ↓t_int, ↓x_tup, ↓b_lenT, ↓b_abs, ↓b_int, ↓b_tupT, ↓b_tupL, ↓b_list, ↓b_sorted, ↓b_lrg1, ↓b_trg1, ↓b_isi, ↓a_nil, ↓a_cons, ↓y_tup, ↓y_int, ↓y_bl, ↓y_non, ↓y_str, ↓it_tup, ↓sq_tup, ↓m_indexT, ↓k_tup, ↓ow_tup, ↓l_bl, ↓l_int, ↓l_non, ↓z_asg, ↓z_asgT, ↓z_par, ↓z_sub, ↓z_aug, ↓g_add, ↓g_sub, ↓z_ex, ↓z_ret, ↓z_if, ↓z_raise, ↓z_for, ↓z_while, ↓bt_nm, ↓bt_tp, ↓bts_n, ↓bts_c, ↓z_try, ↓tq_xc, ↓tq_nx, ↓tq_rt, ↓cq_nx, ↓cq_rt, ↓cq_xc, w_wipe0, w_wipe1, nth_0, nth_1, nth_2, nth_3, nth_4, startZ, endOf, List.map, List.length, List.replicate, List.cons_append, List.nil_append, List.append_nil, List.getElem?_cons_zero, List.getElem?_cons_succ, List.set_cons_zero, List.set_cons_succ, Nat.reduceAdd, Nat.reduceSub, Nat.reduceLT, Nat.zero_add, Nat.add_zero, Nat.sub_self, Int.reduceNeg, Int.reduceToNat, if_true, if_false, Bool.false_eq_true, Bool.not_true, Bool.not_false, Bool.and_true, Bool.true_and, Bool.and_false, Bool.false_and, and_true, true_and, Option.isSome_some, Bool.and_self, reduceIte, reduceCtorEq, decide_true, decide_false, decide_eq_true_eq, not_true_eq_false, not_false_eq_true, or_false, or_true, true_or, false_or, ↓b_max g0]
    have : maxI (F n) (t.map F) = m := by
      refine topI_is ?_ ?_ ?_
      · exact hm.1 n (by rw [ens]; simp)
      · intro y hy
        obtain ⟨x, hx, e⟩ := List.mem_map.mp hy
        rw [← e]; exact hm.1 x (by rw [ens]; simp [hx])
      · obtain ⟨x, hx, e⟩ := hm.2
        rw [ens] at hx
        rcases List.mem_cons.mp hx with e2 | e2
        · rw [← e, e2]; exact .inl rfl
        · exact .inr (List.mem_map.mpr ⟨x, e2, e⟩)
    rw [this]
    exact q
theorem Good.sizes {ns row : List Int} {hs : List (List Int)} {f : Int → Nat} (G : Good ns row hs f) (i : Nat) (x : Int) (hx : ns[i]? = some x) : 1 + maxI 0 (((ns.take i).filter fun y => decide (x < y)).map fun y => (f y : Int) + 1) = (f x : Int) + 1 := by
  have lo := G.lo i x hx
  have : maxI 0 (((ns.take i).filter fun y => decide (x < y)).map fun y => (f y : Int) + 1) = (f x : Int) := by
    refine topI_is (by omega) (fun y hy => ?_) ?_
    · obtain ⟨z, hz, e⟩ := List.mem_map.mp hy
      obtain ⟨h1, h2⟩ := List.mem_filter.mp hz
      have := lo.1 z h1 (of_decide_eq_true h2)
      omega
    · by_cases h0 : f x = 0
      · left; omega
      · right
        obtain ⟨y, h1, h2, h3⟩ := lo.2 (by omega)
        exact List.mem_map.mpr ⟨y, List.mem_filter.mpr ⟨h1, decide_eq_true h2⟩, by omega⟩
  omega
theorem f5 : fds[5]? = some drawFd := rfl
theorem f6 : fds[6]? = some (someFd 5) := rfl
theorem f7 : fds[7]? = some (mixedFd 5) := rfl
theorem f4 : fds[4]? = some handFd := rfl
theorem law_ok {ns : List Int} (hl : ns.length ≤ 63) (gt : get h 0 0 = some (.ro (ns.map .int))) (q : P (.bl true) h) : wp (callN fds (k + 6) 9 [.loc 0 0] h) P X := by
  refine call_of (d := B_law) rfl rfl ?_
  simp only [↓w_cons, ↓w_nil, ↓w_ev, ↓w_fin, ↓w_some, ↓t_nx, ↓t_bk, ↓t_ct, ↓t_rt, ↓t_xc, ↓r_bnd, ↓r_ret, ↓r_ok, ↓r_ite, ↓w_ite, ↓r_guard, ↓r_alloc, ↓r_optM', ↓optP_some, ↓r_noExc, ↓r_exc, ↓e_var, ↓varP_some, ↓e_con, ↓e_bin, ↓e_cmp, ↓e_chain, ↓e_neg, ↓e_inv, ↓e_not, ↓e_and, ↓e_or, ↓v_and, ↓v_or, ↓e_ifx, ↓e_idx, ↓e_sl, ↓e_rev, ↓e_lst, ↓e_tup, ↓e_dict, ↓e_call, ↓e_bi, ↓e_me, ↓e_comp, ↓e_nil, ↓e_cons, ↓e_c0, ↓e_c1, ↓i_seq, ↓i_rng1, ↓i_rng2, ↓intP_int, ↓o_add, ↓o_sub, ↓o_mul, ↓o_fdiv, ↓o_mod, ↓o_pow, ↓o_addT, ↓c_eqI, ↓c_neI, ↓c_lt, ↓c_gt, ↓c_le, ↓c_ge, ↓n_int, ↓t_bl, ↓t_int, ↓x_tup, ↓b_lenT, ↓b_abs, ↓b_int, ↓b_tupT, ↓b_tupL, ↓b_list, ↓b_sorted, ↓b_lrg1, ↓b_trg1, ↓b_isi, ↓a_nil, ↓a_cons, ↓y_tup, ↓y_int, ↓y_bl, ↓y_non, ↓y_str, ↓it_tup, ↓sq_tup, ↓m_indexT, ↓k_tup, ↓ow_tup, ↓l_bl, ↓l_int, ↓l_non, ↓z_asg, ↓z_asgT, ↓z_par, ↓z_sub, ↓z_aug, ↓g_add, ↓g_sub, ↓z_ex, ↓z_ret, ↓z_if, ↓z_raise, ↓z_for, ↓z_while, ↓bt_nm, ↓bt_tp, ↓bts_n, ↓bts_c, ↓z_try, ↓tq_xc, ↓tq_nx, ↓tq_rt, ↓cq_nx, ↓cq_rt, ↓cq_xc, w_wipe0, w_wipe1, nth_0, nth_1, nth_2, nth_3, nth_4, startZ, endOf, List.map, List.length, List.replicate, List.cons_append, List.nil_append, List.append_nil, List.getElem?_cons_zero, List.getElem?_cons_succ, List.set_cons_zero, List.set_cons_succ, Nat.reduceAdd, Nat.reduceSub, Nat.reduceLT, Nat.zero_add, Nat.add_zero, Nat.sub_self, Int.reduceNeg, Int.reduceToNat, if_true, if_false, Bool.false_eq_true, Bool.not_true, Bool.not_false, Bool.and_true, Bool.true_and, Bool.and_false, Bool.false_and, and_true, true_and, Option.isSome_some, Bool.and_self, reduceIte, reduceCtorEq, decide_true, decide_false, decide_eq_true_eq, not_true_eq_false, not_false_eq_true, or_false, or_true, true_or, false_or, B_law]
  refine hand_ok f4 (get_up gt) hl fun x H => ?_
  simp only [↓w_cons, ↓w_nil, ↓w_ev, ↓w_fin, ↓w_some, ↓t_nx, ↓t_bk, ↓t_ct, ↓t_rt, ↓t_xc, ↓r_bnd, ↓r_ret, ↓r_ok, ↓r_ite, ↓w_ite, ↓r_guard, ↓r_alloc, ↓r_optM', ↓optP_some, ↓r_noExc, ↓r_exc, ↓e_var, ↓varP_some, ↓e_con, ↓e_bin, ↓e_cmp, ↓e_chain, ↓e_neg, ↓e_inv, ↓e_not, ↓e_and, ↓e_or, ↓v_and, ↓v_or, ↓e_ifx, ↓e_idx, ↓e_sl, ↓e_rev, ↓e_lst, ↓e_tup, ↓e_dict, ↓e_call, ↓e_bi, ↓e_me, ↓e_comp, ↓e_nil, ↓e_cons, ↓e_c0, ↓e_c1, ↓i_seq, ↓i_rng1, ↓i_rng2, ↓intP_int, ↓o_add, ↓o_sub, ↓o_mul, ↓o_fdiv, ↓o_mod, ↓o_pow, ↓o_addT, ↓c_eqI, ↓c_neI, ↓c_lt, ↓c_gt, ↓c_le, ↓c_ge, ↓n_int, ↓t_bl, ↓t_int, ↓x_tup, ↓b_lenT, ↓b_abs, ↓b_int, ↓b_tupT, ↓b_tupL, ↓b_list, ↓b_sorted, ↓b_lrg1, ↓b_trg1, ↓b_isi, ↓a_nil, ↓a_cons, ↓y_tup, ↓y_int, ↓y_bl, ↓y_non, ↓y_str, ↓it_tup, ↓sq_tup, ↓m_indexT, ↓k_tup, ↓ow_tup, ↓l_bl, ↓l_int, ↓l_non, ↓z_asg, ↓z_asgT, ↓z_par, ↓z_sub, ↓z_aug, ↓g_add, ↓g_sub, ↓z_ex, ↓z_ret, ↓z_if, ↓z_raise, ↓z_for, ↓z_while, ↓bt_nm, ↓bt_tp, ↓bts_n, ↓bts_c, ↓z_try, ↓tq_xc, ↓tq_nx, ↓tq_rt, ↓cq_nx, ↓cq_rt, ↓cq_xc, w_wipe0, w_wipe1, nth_0, nth_1, nth_2, nth_3, nth_4, startZ, endOf, List.map, List.length, List.replicate, List.cons_append, List.nil_append, List.append_nil, List.getElem?_cons_zero, List.getElem?_cons_succ, List.set_cons_zero, List.set_cons_succ, Nat.reduceAdd, Nat.reduceSub, Nat.reduceLT, Nat.zero_add, Nat.add_zero, Nat.sub_self, Int.reduceNeg, Int.reduceToNat, if_true, if_false, Bool.false_eq_true, Bool.not_true, Bool.not_false, Bool.and_true, Bool.true_and, Bool.and_false, Bool.false_and, and_true, true_and, Option.isSome_some, Bool.and_self, reduceIte, reduceCtorEq, decide_true, decide_false, decide_eq_true_eq, not_true_eq_false, not_false_eq_true, or_false, or_true, true_or, false_or]
  refine ⟨⟨by omega, by omega⟩, ?_⟩
  refine for_inv (fun i σ h' => ∃ r a2 a3 a4 a5 a6 a7 a8 a9 a10 a11 a12, h' = r :: h ∧ HandAt (r :: h) h.length 2 h.length 1 ∧ σ = [some (.loc 0 0), some (.loc h.length 2), a2, a3, a4, a5, a6, a7, a8, a9, a10, a11, a12]) ?_ ?_ ?_ ?_
  · exact ⟨_, _, _, _, _, _, _, _, _, _, _, _, rfl, H, rfl⟩
  · intros; rfl
  · rintro i x σ h' hx ⟨r, a2, a3, a4, a5, a6, a7, a8, a9, a10, a11, a12, eh, H, es⟩
    subst eh es
    have H0 := H
    clear hx
    rw [w_ev, bt_nm]
    rw [w_cons]
    refine wps_mono (Q := fun o h' => ∃ r ms, (ms : List Int).Perm (upTo ms.length) ∧ 1 ≤ ms.length ∧ ms.length ≤ 20 ∧ h' = r :: h ∧ HandAt (r :: h) h.length 2 h.length 1 ∧ o = .nx [some (.loc 0 0), some (.loc h.length 2), some x, some (.tup (ms.map .int)), a4, a5, a6, a7, a8, a9, a10, a11, a12]) ?_ ?_
    · simp only [↓w_cons, ↓w_nil, ↓w_ev, ↓w_fin, ↓w_some, ↓t_nx, ↓t_bk, ↓t_ct, ↓t_rt, ↓t_xc, ↓r_bnd, ↓r_ret, ↓r_ok, ↓r_ite, ↓w_ite, ↓r_guard, ↓r_alloc, ↓r_optM', ↓optP_some, ↓r_noExc, ↓r_exc, ↓e_var, ↓varP_some, ↓e_con, ↓e_bin, ↓e_cmp, ↓e_chain, ↓e_neg, ↓e_inv, ↓e_not, ↓e_and, ↓e_or, ↓v_and, ↓v_or, ↓e_ifx, ↓e_idx, ↓e_sl, ↓e_rev, ↓e_lst, ↓e_tup, ↓e_dict, ↓e_call, ↓e_bi, ↓e_me, ↓e_comp, ↓e_nil, ↓e_cons, ↓e_c0, ↓e_c1, ↓i_seq, ↓i_rng1, ↓i_rng2, ↓intP_int, ↓o_add, ↓o_sub, ↓o_mul, ↓o_fdiv, ↓o_mod, ↓o_pow, ↓o_addT, ↓c_eqI, ↓c_neI, ↓c_lt, ↓c_gt, ↓c_le, ↓c_ge, ↓n_int, ↓t_bl, ↓t_int, ↓x_tup, ↓b_lenT, ↓b_abs, ↓b_int, ↓b_tupT, ↓b_tupL, ↓b_list, ↓b_sorted, ↓b_lrg1, ↓b_trg1, ↓b_isi, ↓a_nil, ↓a_cons, ↓y_tup, ↓y_int, ↓y_bl, ↓y_non, ↓y_str, ↓it_tup, ↓sq_tup, ↓m_indexT, ↓k_tup, ↓ow_tup, ↓l_bl, ↓l_int, ↓l_non, ↓z_asg, ↓z_asgT, ↓z_par, ↓z_sub, ↓z_aug, ↓g_add, ↓g_sub, ↓z_ex, ↓z_ret, ↓z_if, ↓z_raise, ↓z_for, ↓z_while, ↓bt_nm, ↓bt_tp, ↓bts_n, ↓bts_c, ↓z_try, ↓tq_xc, ↓tq_nx, ↓tq_rt, ↓cq_nx, ↓cq_rt, ↓cq_xc, w_wipe0, w_wipe1, nth_0, nth_1, nth_2, nth_3, nth_4, startZ, endOf, List.map, List.length, List.replicate, List.cons_append, List.nil_append, List.append_nil, List.getElem?_cons_zero, List.getElem?_cons_succ, List.set_cons_zero, List.set_cons_succ, Nat.reduceAdd, Nat.reduceSub, Nat.reduceLT, Nat.zero_add, Nat.add_zero, Nat.sub_self, Int.reduceNeg, Int.reduceToNat, if_true, if_false, Bool.false_eq_true, Bool.not_true, Bool.not_false, Bool.and_true, Bool.true_and, Bool.and_false, Bool.false_and, and_true, true_and, Option.isSome_some, Bool.and_self, reduceIte, reduceCtorEq, decide_true, decide_false, decide_eq_true_eq, not_true_eq_false, not_false_eq_true, or_false, or_true, true_or, false_or]
      refine draw_at f5 H.app (by decide) fun n0 o n1 n2 H => ?_
      rw [put_top] at H ⊢
      have hi : 2 < r.length := H0.top
      obtain ⟨w, ew, hw⟩ : ∃ w, nth [Val.int 9, Val.int 20] n0 = some (.int w) ∧ (w = 9 ∨ w = 20) := by
        rcases (show n0 = 0 ∨ n0 = 1 by omega) with e | e
        · subst e; exact ⟨9, nth_0, .inl rfl⟩
        · subst e; exact ⟨20, nth_1, .inr rfl⟩
      simp only [↓w_cons, ↓w_nil, ↓w_ev, ↓w_fin, ↓w_some, ↓t_nx, ↓t_bk, ↓t_ct, ↓t_rt, ↓t_xc, ↓r_bnd, ↓r_ret, ↓r_ok, ↓r_ite, ↓w_ite, ↓r_guard, ↓r_alloc, ↓r_optM', ↓optP_some, ↓r_noExc, ↓r_exc, ↓e_var, ↓varP_some, ↓e_con, ↓e_bin, ↓e_cmp, ↓e_chain, ↓e_neg, ↓e_inv, ↓e_not, ↓e_and, ↓e_or, ↓v_and, ↓v_or, ↓e_ifx, ↓e_idx, ↓e_sl, ↓e_rev, ↓e_lst, ↓e_tup, ↓e_dict, ↓e_call, ↓e_bi, ↓e_me, ↓e_comp, ↓e_nil, ↓e_cons, ↓e_c0, ↓e_c1, ↓i_seq, ↓i_rng1, ↓i_rng2, ↓intP_int, ↓o_add, ↓o_sub, ↓o_mul, ↓o_fdiv, ↓o_mod, ↓o_pow, ↓o_addT, ↓c_eqI, ↓c_neI, ↓c_lt, ↓c_gt, ↓c_le, ↓c_ge, ↓n_int, ↓t_bl, ↓t_int, ↓x_tup, ↓b_lenT, ↓b_abs, ↓b_int, ↓b_tupT, ↓b_tupL, ↓b_list, ↓b_sorted, ↓b_lrg1, ↓b_trg1, ↓b_isi, ↓a_nil, ↓a_cons, ↓y_tup, ↓y_int, ↓y_bl, ↓y_non, ↓y_str, ↓it_tup, ↓sq_tup, ↓m_indexT, ↓k_tup, ↓ow_tup, ↓l_bl, ↓l_int, ↓l_non, ↓z_asg, ↓z_asgT, ↓z_par, ↓z_sub, ↓z_aug, ↓g_add, ↓g_sub, ↓z_ex, ↓z_ret, ↓z_if, ↓z_raise, ↓z_for, ↓z_while, ↓bt_nm, ↓bt_tp, ↓bts_n, ↓bts_c, ↓z_try, ↓tq_xc, ↓tq_nx, ↓tq_rt, ↓cq_nx, ↓cq_rt, ↓cq_xc, w_wipe0, w_wipe1, nth_0, nth_1, nth_2, nth_3, nth_4, startZ, endOf, List.map, List.length, List.replicate, List.cons_append, List.nil_append, List.append_nil, List.getElem?_cons_zero, List.getElem?_cons_succ, List.set_cons_zero, List.set_cons_succ, Nat.reduceAdd, Nat.reduceSub, Nat.reduceLT, Nat.zero_add, Nat.add_zero, Nat.sub_self, Int.reduceNeg, Int.reduceToNat, if_true, if_false, Bool.false_eq_true, Bool.not_true, Bool.not_false, Bool.and_true, Bool.true_and, Bool.and_false, Bool.false_and, and_true, true_and, Option.isSome_some, Bool.and_self, reduceIte, reduceCtorEq, decide_true, decide_false, decide_eq_true_eq, not_true_eq_false, not_false_eq_true, or_false, or_true, true_or, false_or, ↓x_lst (get_newp hi), ew]
      refine draw_at f5 H (by omega) fun n o n1 n2 H => ?_
      rw [put_top] at H ⊢
      generalize ((r ++ [Ob.lst [Val.int 9, Val.int 20]]).set 2 _).set 2 o = r at *
      simp only [↓w_cons, ↓w_nil, ↓w_ev, ↓w_fin, ↓w_some, ↓t_nx, ↓t_bk, ↓t_ct, ↓t_rt, ↓t_xc, ↓r_bnd, ↓r_ret, ↓r_ok, ↓r_ite, ↓w_ite, ↓r_guard, ↓r_alloc, ↓r_optM', ↓optP_some, ↓r_noExc, ↓r_exc, ↓e_var, ↓varP_some, ↓e_con, ↓e_bin, ↓e_cmp, ↓e_chain, ↓e_neg, ↓e_inv, ↓e_not, ↓e_and, ↓e_or, ↓v_and, ↓v_or, ↓e_ifx, ↓e_idx, ↓e_sl, ↓e_rev, ↓e_lst, ↓e_tup, ↓e_dict, ↓e_call, ↓e_bi, ↓e_me, ↓e_comp, ↓e_nil, ↓e_cons, ↓e_c0, ↓e_c1, ↓i_seq, ↓i_rng1, ↓i_rng2, ↓intP_int, ↓o_add, ↓o_sub, ↓o_mul, ↓o_fdiv, ↓o_mod, ↓o_pow, ↓o_addT, ↓c_eqI, ↓c_neI, ↓c_lt, ↓c_gt, ↓c_le, ↓c_ge, ↓n_int, ↓t_bl, ↓t_int, ↓x_tup, ↓b_lenT, ↓b_abs, ↓b_int, ↓b_tupT, ↓b_tupL, ↓b_list, ↓b_sorted, ↓b_lrg1, ↓b_trg1, ↓b_isi, ↓a_nil, ↓a_cons, ↓y_tup, ↓y_int, ↓y_bl, ↓y_non, ↓y_str, ↓it_tup, ↓sq_tup, ↓m_indexT, ↓k_tup, ↓ow_tup, ↓l_bl, ↓l_int, ↓l_non, ↓z_asg, ↓z_asgT, ↓z_par, ↓z_sub, ↓z_aug, ↓g_add, ↓g_sub, ↓z_ex, ↓z_ret, ↓z_if, ↓z_raise, ↓z_for, ↓z_while, ↓bt_nm, ↓bt_tp, ↓bts_n, ↓bts_c, ↓z_try, ↓tq_xc, ↓tq_nx, ↓tq_rt, ↓cq_nx, ↓cq_rt, ↓cq_xc, w_wipe0, w_wipe1, nth_0, nth_1, nth_2, nth_3, nth_4, startZ, endOf, List.map, List.length, List.replicate, List.cons_append, List.nil_append, List.append_nil, List.getElem?_cons_zero, List.getElem?_cons_succ, List.set_cons_zero, List.set_cons_succ, Nat.reduceAdd, Nat.reduceSub, Nat.reduceLT, Nat.zero_add, Nat.add_zero, Nat.sub_self, Int.reduceNeg, Int.reduceToNat, if_true, if_false, Bool.false_eq_true, Bool.not_true, Bool.not_false, Bool.and_true, Bool.true_and, Bool.and_false, Bool.false_and, and_true, true_and, Option.isSome_some, Bool.and_self, reduceIte, reduceCtorEq, decide_true, decide_false, decide_eq_true_eq, not_true_eq_false, not_false_eq_true, or_false, or_true, true_or, false_or]
      refine ⟨⟨by omega, by omega⟩, ?_⟩
      have er : rangeV 0 (1 + n) = (upTo (1 + n).toNat).map Val.int := by
        rw [← range_up]
        congr 1
        omega
      rw [er]
      have hm : (1 + n).toNat ≤ 20 ∧ 1 ≤ (1 + n).toNat := by omega
      generalize (1 + n).toNat = m at *
      refine mixed_ok f5 f7 H.app get_new (by rw [List.length_map, upTo_len]; omega) (fun v hv => ?_) fun us o r' h' pv e e1 e2 H => ?_
      · obtain ⟨j, _, e⟩ := List.mem_map.mp hv
        subst e; rfl
      rw [put_top] at e
      obtain ⟨_, rfl⟩ := List.cons.inj e
      obtain ⟨ms, pm, rfl⟩ := perm_ints pv
      have gn : get ((r' ++ [.lst [], .lst (ms.map Val.int)]) :: h) h.length (r'.length + 1) = some (.lst (ms.map Val.int)) := by rw [get_top]; simp
      simp only [↓w_cons, ↓w_nil, ↓w_ev, ↓w_fin, ↓w_some, ↓t_nx, ↓t_bk, ↓t_ct, ↓t_rt, ↓t_xc, ↓r_bnd, ↓r_ret, ↓r_ok, ↓r_ite, ↓w_ite, ↓r_guard, ↓r_alloc, ↓r_optM', ↓optP_some, ↓r_noExc, ↓r_exc, ↓e_var, ↓varP_some, ↓e_con, ↓e_bin, ↓e_cmp, ↓e_chain, ↓e_neg, ↓e_inv, ↓e_not, ↓e_and, ↓e_or, ↓v_and, ↓v_or, ↓e_ifx, ↓e_idx, ↓e_sl, ↓e_rev, ↓e_lst, ↓e_tup, ↓e_dict, ↓e_call, ↓e_bi, ↓e_me, ↓e_comp, ↓e_nil, ↓e_cons, ↓e_c0, ↓e_c1, ↓i_seq, ↓i_rng1, ↓i_rng2, ↓intP_int, ↓o_add, ↓o_sub, ↓o_mul, ↓o_fdiv, ↓o_mod, ↓o_pow, ↓o_addT, ↓c_eqI, ↓c_neI, ↓c_lt, ↓c_gt, ↓c_le, ↓c_ge, ↓n_int, ↓t_bl, ↓t_int, ↓x_tup, ↓b_lenT, ↓b_abs, ↓b_int, ↓b_tupT, ↓b_tupL, ↓b_list, ↓b_sorted, ↓b_lrg1, ↓b_trg1, ↓b_isi, ↓a_nil, ↓a_cons, ↓y_tup, ↓y_int, ↓y_bl, ↓y_non, ↓y_str, ↓it_tup, ↓sq_tup, ↓m_indexT, ↓k_tup, ↓ow_tup, ↓l_bl, ↓l_int, ↓l_non, ↓z_asg, ↓z_asgT, ↓z_par, ↓z_sub, ↓z_aug, ↓g_add, ↓g_sub, ↓z_ex, ↓z_ret, ↓z_if, ↓z_raise, ↓z_for, ↓z_while, ↓bt_nm, ↓bt_tp, ↓bts_n, ↓bts_c, ↓z_try, ↓tq_xc, ↓tq_nx, ↓tq_rt, ↓cq_nx, ↓cq_rt, ↓cq_xc, w_wipe0, w_wipe1, nth_0, nth_1, nth_2, nth_3, nth_4, startZ, endOf, List.map, List.length, List.replicate, List.cons_append, List.nil_append, List.append_nil, List.getElem?_cons_zero, List.getElem?_cons_succ, List.set_cons_zero, List.set_cons_succ, Nat.reduceAdd, Nat.reduceSub, Nat.reduceLT, Nat.zero_add, Nat.add_zero, Nat.sub_self, Int.reduceNeg, Int.reduceToNat, if_true, if_false, Bool.false_eq_true, Bool.not_true, Bool.not_false, Bool.and_true, Bool.true_and, Bool.and_false, Bool.false_and, and_true, true_and, Option.isSome_some, Bool.and_self, reduceIte, reduceCtorEq, decide_true, decide_false, decide_eq_true_eq, not_true_eq_false, not_false_eq_true, or_false, or_true, true_or, false_or, ↓it_lst gn]
      have := pm.length_eq
      rw [upTo_len] at this
      exact ⟨_, ms, by rw [this]; exact pm, by omega, by omega, rfl, H.app, rfl⟩
    rintro o h' ⟨r, ms, pm, l1, l2, eh, H, eo⟩
    subst eh eo
    rw [t_nx, w_cons]
    refine wps_mono (Q := fun o h' => ∃ row hs f, Good ms row hs f ∧ h' = r :: h ∧ o = .nx [some (.loc 0 0), some (.loc h.length 2), some x, some (.tup (ms.map .int)), some (.tup [.tup (row.map .int), .tup (hs.map fun l => .tup (l.map .int))]), a5, a6, a7, a8, a9, a10, a11, a12]) ?_ ?_
    · simp only [↓w_cons, ↓w_nil, ↓w_ev, ↓w_fin, ↓w_some, ↓t_nx, ↓t_bk, ↓t_ct, ↓t_rt, ↓t_xc, ↓r_bnd, ↓r_ret, ↓r_ok, ↓r_ite, ↓w_ite, ↓r_guard, ↓r_alloc, ↓r_optM', ↓optP_some, ↓r_noExc, ↓r_exc, ↓e_var, ↓varP_some, ↓e_con, ↓e_bin, ↓e_cmp, ↓e_chain, ↓e_neg, ↓e_inv, ↓e_not, ↓e_and, ↓e_or, ↓v_and, ↓v_or, ↓e_ifx, ↓e_idx, ↓e_sl, ↓e_rev, ↓e_lst, ↓e_tup, ↓e_dict, ↓e_call, ↓e_bi, ↓e_me, ↓e_comp, ↓e_nil, ↓e_cons, ↓e_c0, ↓e_c1, ↓i_seq, ↓i_rng1, ↓i_rng2, ↓intP_int, ↓o_add, ↓o_sub, ↓o_mul, ↓o_fdiv, ↓o_mod, ↓o_pow, ↓o_addT, ↓c_eqI, ↓c_neI, ↓c_lt, ↓c_gt, ↓c_le, ↓c_ge, ↓n_int, ↓t_bl, ↓t_int, ↓x_tup, ↓b_lenT, ↓b_abs, ↓b_int, ↓b_tupT, ↓b_tupL, ↓b_list, ↓b_sorted, ↓b_lrg1, ↓b_trg1, ↓b_isi, ↓a_nil, ↓a_cons, ↓y_tup, ↓y_int, ↓y_bl, ↓y_non, ↓y_str, ↓it_tup, ↓sq_tup, ↓m_indexT, ↓k_tup, ↓ow_tup, ↓l_bl, ↓l_int, ↓l_non, ↓z_asg, ↓z_asgT, ↓z_par, ↓z_sub, ↓z_aug, ↓g_add, ↓g_sub, ↓z_ex, ↓z_ret, ↓z_if, ↓z_raise, ↓z_for, ↓z_while, ↓bt_nm, ↓bt_tp, ↓bts_n, ↓bts_c, ↓z_try, ↓tq_xc, ↓tq_nx, ↓tq_rt, ↓cq_nx, ↓cq_rt, ↓cq_xc, w_wipe0, w_wipe1, nth_0, nth_1, nth_2, nth_3, nth_4, startZ, endOf, List.map, List.length, List.replicate, List.cons_append, List.nil_append, List.append_nil, List.getElem?_cons_zero, List.getElem?_cons_succ, List.set_cons_zero, List.set_cons_succ, Nat.reduceAdd, Nat.reduceSub, Nat.reduceLT, Nat.zero_add, Nat.add_zero, Nat.sub_self, Int.reduceNeg, Int.reduceToNat, if_true, if_false, Bool.false_eq_true, Bool.not_true, Bool.not_false, Bool.and_true, Bool.true_and, Bool.and_false, Bool.false_and, and_true, true_and, Option.isSome_some, Bool.and_self, reduceIte, reduceCtorEq, decide_true, decide_false, decide_eq_true_eq, not_true_eq_false, not_false_eq_true, or_false, or_true, true_or, false_or]
      refine lf_good (by intro e; subst e; simp at l1) (by omega) pm fun row hs f G => ?_
      exact ⟨row, hs, f, G, rfl, rfl⟩
    rintro o h' ⟨row, hs, f, G, eh, eo⟩
    subst eh eo
    simp only [↓w_cons, ↓w_nil, ↓w_ev, ↓w_fin, ↓w_some, ↓t_nx, ↓t_bk, ↓t_ct, ↓t_rt, ↓t_xc, ↓r_bnd, ↓r_ret, ↓r_ok, ↓r_ite, ↓w_ite, ↓r_guard, ↓r_alloc, ↓r_optM', ↓optP_some, ↓r_noExc, ↓r_exc, ↓e_var, ↓varP_some, ↓e_con, ↓e_bin, ↓e_cmp, ↓e_chain, ↓e_neg, ↓e_inv, ↓e_not, ↓e_and, ↓e_or, ↓v_and, ↓v_or, ↓e_ifx, ↓e_idx, ↓e_sl, ↓e_rev, ↓e_lst, ↓e_tup, ↓e_dict, ↓e_call, ↓e_bi, ↓e_me, ↓e_comp, ↓e_nil, ↓e_cons, ↓e_c0, ↓e_c1, ↓i_seq, ↓i_rng1, ↓i_rng2, ↓intP_int, ↓o_add, ↓o_sub, ↓o_mul, ↓o_fdiv, ↓o_mod, ↓o_pow, ↓o_addT, ↓c_eqI, ↓c_neI, ↓c_lt, ↓c_gt, ↓c_le, ↓c_ge, ↓n_int, ↓t_bl, ↓t_int, ↓x_tup, ↓b_lenT, ↓b_abs, ↓b_int, ↓b_tupT, ↓b_tupL, ↓b_list, ↓b_sorted, ↓b_lrg1, ↓b_trg1, ↓b_isi, ↓a_nil, ↓a_cons, ↓y_tup, ↓y_int, ↓y_bl, ↓y_non, ↓y_str, ↓it_tup, ↓sq_tup, ↓m_indexT, ↓k_tup, ↓ow_tup, ↓l_bl, ↓l_int, ↓l_non, ↓z_asg, ↓z_asgT, ↓z_par, ↓z_sub, ↓z_aug, ↓g_add, ↓g_sub, ↓z_ex, ↓z_ret, ↓z_if, ↓z_raise, ↓z_for, ↓z_while, ↓bt_nm, ↓bt_tp, ↓bts_n, ↓bts_c, ↓z_try, ↓tq_xc, ↓tq_nx, ↓tq_rt, ↓cq_nx, ↓cq_rt, ↓cq_xc, w_wipe0, w_wipe1, nth_0, nth_1, nth_2, nth_3, nth_4, startZ, endOf, List.map, List.length, List.replicate, List.cons_append, List.nil_append, List.append_nil, List.getElem?_cons_zero, List.getElem?_cons_succ, List.set_cons_zero, List.set_cons_succ, Nat.reduceAdd, Nat.reduceSub, Nat.reduceLT, Nat.zero_add, Nat.add_zero, Nat.sub_self, Int.reduceNeg, Int.reduceToNat, if_true, if_false, Bool.false_eq_true, Bool.not_true, Bool.not_false, Bool.and_true, Bool.true_and, Bool.and_false, Bool.false_and, and_true, true_and, Option.isSome_some, Bool.and_self, reduceIte, reduceCtorEq, decide_true, decide_false, decide_eq_true_eq, not_true_eq_false, not_false_eq_true, or_false, or_true, true_or, false_or]
    rw [if_neg (by decide)]
    refine walk_each Val.int row (fun n => .int (ms.idxOf n : Nat)) st_nil (fun n hn => ?_) ?_
    · simp only [↓w_cons, ↓w_nil, ↓w_ev, ↓w_fin, ↓w_some, ↓t_nx, ↓t_bk, ↓t_ct, ↓t_rt, ↓t_xc, ↓r_bnd, ↓r_ret, ↓r_ok, ↓r_ite, ↓w_ite, ↓r_guard, ↓r_alloc, ↓r_optM', ↓optP_some, ↓r_noExc, ↓r_exc, ↓e_var, ↓varP_some, ↓e_con, ↓e_bin, ↓e_cmp, ↓e_chain, ↓e_neg, ↓e_inv, ↓e_not, ↓e_and, ↓e_or, ↓v_and, ↓v_or, ↓e_ifx, ↓e_idx, ↓e_sl, ↓e_rev, ↓e_lst, ↓e_tup, ↓e_dict, ↓e_call, ↓e_bi, ↓e_me, ↓e_comp, ↓e_nil, ↓e_cons, ↓e_c0, ↓e_c1, ↓i_seq, ↓i_rng1, ↓i_rng2, ↓intP_int, ↓o_add, ↓o_sub, ↓o_mul, ↓o_fdiv, ↓o_mod, ↓o_pow, ↓o_addT, ↓c_eqI, ↓c_neI, ↓c_lt, ↓c_gt, ↓c_le, ↓c_ge, ↓n_int, ↓t_bl, ↓t_int, ↓x_tup, ↓b_lenT, ↓b_abs, ↓b_int, ↓b_tupT, ↓b_tupL, ↓b_list, ↓b_sorted, ↓b_lrg1, ↓b_trg1, ↓b_isi, ↓a_nil, ↓a_cons, ↓y_tup, ↓y_int, ↓y_bl, ↓y_non, ↓y_str, ↓it_tup, ↓sq_tup, ↓m_indexT, ↓k_tup, ↓ow_tup, ↓l_bl, ↓l_int, ↓l_non, ↓z_asg, ↓z_asgT, ↓z_par, ↓z_sub, ↓z_aug, ↓g_add, ↓g_sub, ↓z_ex, ↓z_ret, ↓z_if, ↓z_raise, ↓z_for, ↓z_while, ↓bt_nm, ↓bt_tp, ↓bts_n, ↓bts_c, ↓z_try, ↓tq_xc, ↓tq_nx, ↓tq_rt, ↓cq_nx, ↓cq_rt, ↓cq_xc, w_wipe0, w_wipe1, nth_0, nth_1, nth_2, nth_3, nth_4, startZ, endOf, List.map, List.length, List.replicate, List.cons_append, List.nil_append, List.append_nil, List.getElem?_cons_zero, List.getElem?_cons_succ, List.set_cons_zero, List.set_cons_succ, Nat.reduceAdd, Nat.reduceSub, Nat.reduceLT, Nat.zero_add, Nat.add_zero, Nat.sub_self, Int.reduceNeg, Int.reduceToNat, if_true, if_false, Bool.false_eq_true, Bool.not_true, Bool.not_false, Bool.and_true, Bool.true_and, Bool.and_false, Bool.false_and, and_true, true_and, Option.isSome_some, Bool.and_self, reduceIte, reduceCtorEq, decide_true, decide_false, decide_eq_true_eq, not_true_eq_false, not_false_eq_true, or_false, or_true, true_or, false_or, first_in (G.sub n hn), supp]
    have hrow : row.length ≤ 20 := by
      have h1 := G.len
      have h2 := G.few
      omega
    refine ⟨by rw [List.length_map]; unfold SL; omega, ?_⟩
    rw [show row.map (fun n => Val.int (ms.idxOf n : Nat)) = (row.map fun n => ((ms.idxOf n : Nat) : Int)).map Val.int by rw [List.map_map]; rfl]
    simp only [↓w_cons, ↓w_nil, ↓w_ev, ↓w_fin, ↓w_some, ↓t_nx, ↓t_bk, ↓t_ct, ↓t_rt, ↓t_xc, ↓r_bnd, ↓r_ret, ↓r_ok, ↓r_ite, ↓w_ite, ↓r_guard, ↓r_alloc, ↓r_optM', ↓optP_some, ↓r_noExc, ↓r_exc, ↓e_var, ↓varP_some, ↓e_con, ↓e_bin, ↓e_cmp, ↓e_chain, ↓e_neg, ↓e_inv, ↓e_not, ↓e_and, ↓e_or, ↓v_and, ↓v_or, ↓e_ifx, ↓e_idx, ↓e_sl, ↓e_rev, ↓e_lst, ↓e_tup, ↓e_dict, ↓e_call, ↓e_bi, ↓e_me, ↓e_comp, ↓e_nil, ↓e_cons, ↓e_c0, ↓e_c1, ↓i_seq, ↓i_rng1, ↓i_rng2, ↓intP_int, ↓o_add, ↓o_sub, ↓o_mul, ↓o_fdiv, ↓o_mod, ↓o_pow, ↓o_addT, ↓c_eqI, ↓c_neI, ↓c_lt, ↓c_gt, ↓c_le, ↓c_ge, ↓n_int, ↓t_bl, ↓t_int, ↓x_tup, ↓b_lenT, ↓b_abs, ↓b_int, ↓b_tupT, ↓b_tupL, ↓b_list, ↓b_sorted, ↓b_lrg1, ↓b_trg1, ↓b_isi, ↓a_nil, ↓a_cons, ↓y_tup, ↓y_int, ↓y_bl, ↓y_non, ↓y_str, ↓it_tup, ↓sq_tup, ↓m_indexT, ↓k_tup, ↓ow_tup, ↓l_bl, ↓l_int, ↓l_non, ↓z_asg, ↓z_asgT, ↓z_par, ↓z_sub, ↓z_aug, ↓g_add, ↓g_sub, ↓z_ex, ↓z_ret, ↓z_if, ↓z_raise, ↓z_for, ↓z_while, ↓bt_nm, ↓bt_tp, ↓bts_n, ↓bts_c, ↓z_try, ↓tq_xc, ↓tq_nx, ↓tq_rt, ↓cq_nx, ↓cq_rt, ↓cq_xc, w_wipe0, w_wipe1, nth_0, nth_1, nth_2, nth_3, nth_4, startZ, endOf, List.map, List.length, List.replicate, List.cons_append, List.nil_append, List.append_nil, List.getElem?_cons_zero, List.getElem?_cons_succ, List.set_cons_zero, List.set_cons_succ, Nat.reduceAdd, Nat.reduceSub, Nat.reduceLT, Nat.zero_add, Nat.add_zero, Nat.sub_self, Int.reduceNeg, Int.reduceToNat, if_true, if_false, Bool.false_eq_true, Bool.not_true, Bool.not_false, Bool.and_true, Bool.true_and, Bool.and_false, Bool.false_and, and_true, true_and, Option.isSome_some, Bool.and_self, reduceIte, reduceCtorEq, decide_true, decide_false, decide_eq_true_eq, not_true_eq_false, not_false_eq_true, or_false, or_true, true_or, false_or]
    refine b_sset (ns := row.map fun n => ((ms.idxOf n : Nat) : Int)) (fun {P} p => by rw [it_lst get_new]; exact p) (by rw [List.length_map]; omega) ?_
    rw [sortI_set (by rw [List.pairwise_map]; exact G.spots.imp fun h => by omega)]
    simp only [↓w_cons, ↓w_nil, ↓w_ev, ↓w_fin, ↓w_some, ↓t_nx, ↓t_bk, ↓t_ct, ↓t_rt, ↓t_xc, ↓r_bnd, ↓r_ret, ↓r_ok, ↓r_ite, ↓w_ite, ↓r_guard, ↓r_alloc, ↓r_optM', ↓optP_some, ↓r_noExc, ↓r_exc, ↓e_var, ↓varP_some, ↓e_con, ↓e_bin, ↓e_cmp, ↓e_chain, ↓e_neg, ↓e_inv, ↓e_not, ↓e_and, ↓e_or, ↓v_and, ↓v_or, ↓e_ifx, ↓e_idx, ↓e_sl, ↓e_rev, ↓e_lst, ↓e_tup, ↓e_dict, ↓e_call, ↓e_bi, ↓e_me, ↓e_comp, ↓e_nil, ↓e_cons, ↓e_c0, ↓e_c1, ↓i_seq, ↓i_rng1, ↓i_rng2, ↓intP_int, ↓o_add, ↓o_sub, ↓o_mul, ↓o_fdiv, ↓o_mod, ↓o_pow, ↓o_addT, ↓c_eqI, ↓c_neI, ↓c_lt, ↓c_gt, ↓c_le, ↓c_ge, ↓n_int, ↓t_bl, ↓t_int, ↓x_tup, ↓b_lenT, ↓b_abs, ↓b_int, ↓b_tupT, ↓b_tupL, ↓b_list, ↓b_sorted, ↓b_lrg1, ↓b_trg1, ↓b_isi, ↓a_nil, ↓a_cons, ↓y_tup, ↓y_int, ↓y_bl, ↓y_non, ↓y_str, ↓it_tup, ↓sq_tup, ↓m_indexT, ↓k_tup, ↓ow_tup, ↓l_bl, ↓l_int, ↓l_non, ↓z_asg, ↓z_asgT, ↓z_par, ↓z_sub, ↓z_aug, ↓g_add, ↓g_sub, ↓z_ex, ↓z_ret, ↓z_if, ↓z_raise, ↓z_for, ↓z_while, ↓bt_nm, ↓bt_tp, ↓bts_n, ↓bts_c, ↓z_try, ↓tq_xc, ↓tq_nx, ↓tq_rt, ↓cq_nx, ↓cq_rt, ↓cq_xc, w_wipe0, w_wipe1, nth_0, nth_1, nth_2, nth_3, nth_4, startZ, endOf, List.map, List.length, List.replicate, List.cons_append, List.nil_append, List.append_nil, List.getElem?_cons_zero, List.getElem?_cons_succ, List.set_cons_zero, List.set_cons_succ, Nat.reduceAdd, Nat.reduceSub, Nat.reduceLT, Nat.zero_add, Nat.add_zero, Nat.sub_self, Int.reduceNeg, Int.reduceToNat, if_true, if_false, Bool.false_eq_true, Bool.not_true, Bool.not_false, Bool.and_true, Bool.true_and, Bool.and_false, Bool.false_and, and_true, true_and, Option.isSome_some, Bool.and_self, reduceIte, reduceCtorEq, decide_true, decide_false, decide_eq_true_eq, not_true_eq_false, not_false_eq_true, or_false, or_true, true_or, false_or, ↓c_neL (get_app get_new) get_new]
    refine ⟨⟨by decide, by decide, by omega, by rw [List.length_map]; omega⟩, ?_⟩
    rw [show rangeV 1 ((row.map Val.int).length : Int) = (List.range (row.length - 1)).map fun k : Nat => Val.int (1 + k) by
      unfold rangeV
      rw [List.length_map, show ((row.length : Int) - 1).toNat = row.length - 1 by omega]]
    refine walk_each (fun k : Nat => Val.int (1 + k)) (List.range (row.length - 1)) (fun _ => .bl false) st_nil (fun j hj => ?_) ?_
    · have hj := List.mem_range.mp hj
      have e1 : nth (row.map Val.int) ((1 + j : Int) - 1) = some (.int (row[j]'(by omega))) := by
        rw [nth_int (by omega) (by rw [List.length_map]; omega), show ((1 + j : Int) - 1).toNat = j by omega, List.getElem?_map, List.getElem?_eq_getElem (show j < row.length by omega)]; rfl
      have e2 : nth (row.map Val.int) (1 + j : Int) = some (.int (row[j + 1]'(by omega))) := by
        rw [nth_int (by omega) (by rw [List.length_map]; omega), show (1 + j : Int).toNat = j + 1 by omega, List.getElem?_map, List.getElem?_eq_getElem (show j + 1 < row.length by omega)]; rfl
      simp only [↓w_cons, ↓w_nil, ↓w_ev, ↓w_fin, ↓w_some, ↓t_nx, ↓t_bk, ↓t_ct, ↓t_rt, ↓t_xc, ↓r_bnd, ↓r_ret, ↓r_ok, ↓r_ite, ↓w_ite, ↓r_guard, ↓r_alloc, ↓r_optM', ↓optP_some, ↓r_noExc, ↓r_exc, ↓e_var, ↓varP_some, ↓e_con, ↓e_bin, ↓e_cmp, ↓e_chain, ↓e_neg, ↓e_inv, ↓e_not, ↓e_and, ↓e_or, ↓v_and, ↓v_or, ↓e_ifx, ↓e_idx, ↓e_sl, ↓e_rev, ↓e_lst, ↓e_tup, ↓e_dict, ↓e_call, ↓e_bi, ↓e_me, ↓e_comp, ↓e_nil, ↓e_cons, ↓e_c0, ↓e_c1, ↓i_seq, ↓i_rng1, ↓i_rng2, ↓intP_int, ↓o_add, ↓o_sub, ↓o_mul, ↓o_fdiv, ↓o_mod, ↓o_pow, ↓o_addT, ↓c_eqI, ↓c_neI, ↓c_lt, ↓c_gt, ↓c_le, ↓c_ge, ↓n_int, ↓t_bl, ↓t_int, ↓x_tup, ↓b_lenT, ↓b_abs, ↓b_int, ↓b_tupT, ↓b_tupL, ↓b_list, ↓b_sorted, ↓b_lrg1, ↓b_trg1, ↓b_isi, ↓a_nil, ↓a_cons, ↓y_tup, ↓y_int, ↓y_bl, ↓y_non, ↓y_str, ↓it_tup, ↓sq_tup, ↓m_indexT, ↓k_tup, ↓ow_tup, ↓l_bl, ↓l_int, ↓l_non, ↓z_asg, ↓z_asgT, ↓z_par, ↓z_sub, ↓z_aug, ↓g_add, ↓g_sub, ↓z_ex, ↓z_ret, ↓z_if, ↓z_raise, ↓z_for, ↓z_while, ↓bt_nm, ↓bt_tp, ↓bts_n, ↓bts_c, ↓z_try, ↓tq_xc, ↓tq_nx, ↓tq_rt, ↓cq_nx, ↓cq_rt, ↓cq_xc, w_wipe0, w_wipe1, nth_0, nth_1, nth_2, nth_3, nth_4, startZ, endOf, List.map, List.length, List.replicate, List.cons_append, List.nil_append, List.append_nil, List.getElem?_cons_zero, List.getElem?_cons_succ, List.set_cons_zero, List.set_cons_succ, Nat.reduceAdd, Nat.reduceSub, Nat.reduceLT, Nat.zero_add, Nat.add_zero, Nat.sub_self, Int.reduceNeg, Int.reduceToNat, if_true, if_false, Bool.false_eq_true, Bool.not_true, Bool.not_false, Bool.and_true, Bool.true_and, Bool.and_false, Bool.false_and, and_true, true_and, Option.isSome_some, Bool.and_self, reduceIte, reduceCtorEq, decide_true, decide_false, decide_eq_true_eq, not_true_eq_false, not_false_eq_true, or_false, or_true, true_or, false_or, e1, e2]
      have := List.pairwise_iff_getElem.mp G.falls j (j + 1) (by omega) (by omega) (by omega)
      rw [decide_eq_false (show ¬ row[j]'(by omega) ≤ row[j + 1]'(by omega) by omega)]
    refine ⟨by rw [List.length_map, List.length_range]; unfold SL; omega, ?_⟩
    rw [show (List.range (row.length - 1)).map (fun _ => Val.bl false) = ((List.range (row.length - 1)).map fun _ => false).map Val.bl by rw [List.map_map]; rfl]
    have an : ∀ l : List Nat, (l.map fun _ => false).any id = false := fun l => by induction l <;> simp_all
    simp only [↓w_cons, ↓w_nil, ↓w_ev, ↓w_fin, ↓w_some, ↓t_nx, ↓t_bk, ↓t_ct, ↓t_rt, ↓t_xc, ↓r_bnd, ↓r_ret, ↓r_ok, ↓r_ite, ↓w_ite, ↓r_guard, ↓r_alloc, ↓r_optM', ↓optP_some, ↓r_noExc, ↓r_exc, ↓e_var, ↓varP_some, ↓e_con, ↓e_bin, ↓e_cmp, ↓e_chain, ↓e_neg, ↓e_inv, ↓e_not, ↓e_and, ↓e_or, ↓v_and, ↓v_or, ↓e_ifx, ↓e_idx, ↓e_sl, ↓e_rev, ↓e_lst, ↓e_tup, ↓e_dict, ↓e_call, ↓e_bi, ↓e_me, ↓e_comp, ↓e_nil, ↓e_cons, ↓e_c0, ↓e_c1, ↓i_seq, ↓i_rng1, ↓i_rng2, ↓intP_int, ↓o_add, ↓o_sub, ↓o_mul, ↓o_fdiv, ↓o_mod, ↓o_pow, ↓o_addT, ↓c_eqI, ↓c_neI, ↓c_lt, ↓c_gt, ↓c_le, ↓c_ge, ↓n_int, ↓t_bl, ↓t_int, ↓x_tup, ↓b_lenT, ↓b_abs, ↓b_int, ↓b_tupT, ↓b_tupL, ↓b_list, ↓b_sorted, ↓b_lrg1, ↓b_trg1, ↓b_isi, ↓a_nil, ↓a_cons, ↓y_tup, ↓y_int, ↓y_bl, ↓y_non, ↓y_str, ↓it_tup, ↓sq_tup, ↓m_indexT, ↓k_tup, ↓ow_tup, ↓l_bl, ↓l_int, ↓l_non, ↓z_asg, ↓z_asgT, ↓z_par, ↓z_sub, ↓z_aug, ↓g_add, ↓g_sub, ↓z_ex, ↓z_ret, ↓z_if, ↓z_raise, ↓z_for, ↓z_while, ↓bt_nm, ↓bt_tp, ↓bts_n, ↓bts_c, ↓z_try, ↓tq_xc, ↓tq_nx, ↓tq_rt, ↓cq_nx, ↓cq_rt, ↓cq_xc, w_wipe0, w_wipe1, nth_0, nth_1, nth_2, nth_3, nth_4, startZ, endOf, List.map, List.length, List.replicate, List.cons_append, List.nil_append, List.append_nil, List.getElem?_cons_zero, List.getElem?_cons_succ, List.set_cons_zero, List.set_cons_succ, Nat.reduceAdd, Nat.reduceSub, Nat.reduceLT, Nat.zero_add, Nat.add_zero, Nat.sub_self, Int.reduceNeg, Int.reduceToNat, if_true, if_false, Bool.false_eq_true, Bool.not_true, Bool.not_false, Bool.and_true, Bool.true_and, Bool.and_false, Bool.false_and, and_true, true_and, Option.isSome_some, Bool.and_self, reduceIte, reduceCtorEq, decide_true, decide_false, decide_eq_true_eq, not_true_eq_false, not_false_eq_true, or_false, or_true, true_or, false_or, ↓b_any get_new, an]
    refine best_ok (F := fun y => (f y : Int) + 1) (m := hs.length) (by intro e; subst e; simp at l1) (by omega) G.sizes ⟨fun y hy => by have := G.hi y hy; omega, ?_⟩ ?_
    · obtain ⟨y, h1, h2⟩ := G.top
      exact ⟨y, h1, by omega⟩
    simp only [↓w_cons, ↓w_nil, ↓w_ev, ↓w_fin, ↓w_some, ↓t_nx, ↓t_bk, ↓t_ct, ↓t_rt, ↓t_xc, ↓r_bnd, ↓r_ret, ↓r_ok, ↓r_ite, ↓w_ite, ↓r_guard, ↓r_alloc, ↓r_optM', ↓optP_some, ↓r_noExc, ↓r_exc, ↓e_var, ↓varP_some, ↓e_con, ↓e_bin, ↓e_cmp, ↓e_chain, ↓e_neg, ↓e_inv, ↓e_not, ↓e_and, ↓e_or, ↓v_and, ↓v_or, ↓e_ifx, ↓e_idx, ↓e_sl, ↓e_rev, ↓e_lst, ↓e_tup, ↓e_dict, ↓e_call, ↓e_bi, ↓e_me, ↓e_comp, ↓e_nil, ↓e_cons, ↓e_c0, ↓e_c1, ↓i_seq, ↓i_rng1, ↓i_rng2, ↓intP_int, ↓o_add, ↓o_sub, ↓o_mul, ↓o_fdiv, ↓o_mod, ↓o_pow, ↓o_addT, ↓c_eqI, ↓c_neI, ↓c_lt, ↓c_gt, ↓c_le, ↓c_ge, ↓n_int, ↓t_bl, ↓t_int, ↓x_tup, ↓b_lenT, ↓b_abs, ↓b_int, ↓b_tupT, ↓b_tupL, ↓b_list, ↓b_sorted, ↓b_lrg1, ↓b_trg1, ↓b_isi, ↓a_nil, ↓a_cons, ↓y_tup, ↓y_int, ↓y_bl, ↓y_non, ↓y_str, ↓it_tup, ↓sq_tup, ↓m_indexT, ↓k_tup, ↓ow_tup, ↓l_bl, ↓l_int, ↓l_non, ↓z_asg, ↓z_asgT, ↓z_par, ↓z_sub, ↓z_aug, ↓g_add, ↓g_sub, ↓z_ex, ↓z_ret, ↓z_if, ↓z_raise, ↓z_for, ↓z_while, ↓bt_nm, ↓bt_tp, ↓bts_n, ↓bts_c, ↓z_try, ↓tq_xc, ↓tq_nx, ↓tq_rt, ↓cq_nx, ↓cq_rt, ↓cq_xc, w_wipe0, w_wipe1, nth_0, nth_1, nth_2, nth_3, nth_4, startZ, endOf, List.map, List.length, List.replicate, List.cons_append, List.nil_append, List.append_nil, List.getElem?_cons_zero, List.getElem?_cons_succ, List.set_cons_zero, List.set_cons_succ, Nat.reduceAdd, Nat.reduceSub, Nat.reduceLT, Nat.zero_add, Nat.add_zero, Nat.sub_self, Int.reduceNeg, Int.reduceToNat, if_true, if_false, Bool.false_eq_true, Bool.not_true, Bool.not_false, Bool.and_true, Bool.true_and, Bool.and_false, Bool.false_and, and_true, true_and, Option.isSome_some, Bool.and_self, reduceIte, reduceCtorEq, decide_true, decide_false, decide_eq_true_eq, not_true_eq_false, not_false_eq_true, or_false, or_true, true_or, false_or]
    rw [List.length_map, G.len, if_neg (by simp)]
    have H := ((H.app (x := [Ob.lst (List.map Val.int (List.map (fun n => (List.idxOf n ms : Int)) row))])).app (x := [Ob.lst (List.map Val.int (List.map (fun n => (List.idxOf n ms : Int)) row))])).app (x := [Ob.lst (List.map Val.bl (List.map (fun x => false) (List.range (row.length - 1))))])
    rw [← G.len]
    generalize r ++ [Ob.lst (List.map Val.int (List.map (fun n => (List.idxOf n ms : Int)) row))] ++ [Ob.lst (List.map Val.int (List.map (fun n => (List.idxOf n ms : Int)) row))] ++ [Ob.lst (List.map Val.bl (List.map (fun x => false) (List.range (row.length - 1))))] = r1 at *
    have hr1 := H.top
    refine wps_mono (Q := fun o h' => ∃ r2 a9 a10 a11, h' = r2 :: h ∧ HandAt (r2 :: h) h.length 2 h.length 1 ∧ get (r2 :: h) h.length r1.length = some (.lst (hs.flatten.map .int)) ∧ o = .nx [some (.loc 0 0), some (.loc h.length 2), some x, some (.tup (ms.map .int)), some (.tup [.tup (row.map .int), .tup (hs.map fun l => .tup (l.map .int))]), some (.tup (row.map .int)), some (.tup (hs.map fun l => .tup (l.map .int))), some (.loc h.length r.length), some (.loc h.length r1.length), a9, a10, a11, a12]) (for_inv (fun i σ h' => ∃ r2 a9 a10 a11, h' = r2 :: h ∧ HandAt (r2 :: h) h.length 2 h.length 1 ∧ get (r2 :: h) h.length r1.length = some (.lst ((hs.take i).flatten.map .int)) ∧ σ = [some (.loc 0 0), some (.loc h.length 2), some x, some (.tup (ms.map .int)), some (.tup [.tup (row.map .int), .tup (hs.map fun l => .tup (l.map .int))]), some (.tup (row.map .int)), some (.tup (hs.map fun l => .tup (l.map .int))), some (.loc h.length r.length), some (.loc h.length r1.length), a9, a10, a11, a12]) ?_ ?_ ?_ ?_) ?_
    · exact ⟨_, _, _, _, rfl, H.app, get_new, rfl⟩
    · intros; rfl
    · rintro i y σ h' hy ⟨r2, a9, a10, a11, eh, H2, g8, es⟩
      subst eh es
      rw [List.getElem?_map] at hy
      have hi : i < hs.length := by
        refine Nat.lt_of_not_le fun hle => ?_
        rw [List.getElem?_eq_none hle] at hy; cases hy
      have ei : hs[i]? = some (hs[i]'hi) := List.getElem?_eq_getElem _
      rw [ei] at hy
      obtain rfl := Option.some.inj hy
      have Gh := G.heaps _ (List.getElem_mem hi)
      have tk : (hs.take (i + 1)).flatten = (hs.take i).flatten ++ hs[i]'hi := by rw [List.take_add_one, ei, List.flatten_append]; simp
      have hlen : ((hs.take (i + 1)).flatten).length ≤ 20 := by
        have h1 := G.perm.length_eq
        have h2 : (hs.take (i + 1)).flatten.length + (hs.drop (i + 1)).flatten.length = hs.flatten.length := by
          rw [← List.length_append, ← List.flatten_append, List.take_append_drop]
        omega
      rw [tk, List.length_append] at hlen
      rw [tk]
      generalize hs[i]'hi = l at *
      simp only [↓w_cons, ↓w_nil, ↓w_ev, ↓w_fin, ↓w_some, ↓t_nx, ↓t_bk, ↓t_ct, ↓t_rt, ↓t_xc, ↓r_bnd, ↓r_ret, ↓r_ok, ↓r_ite, ↓w_ite, ↓r_guard, ↓r_alloc, ↓r_optM', ↓optP_some, ↓r_noExc, ↓r_exc, ↓e_var, ↓varP_some, ↓e_con, ↓e_bin, ↓e_cmp, ↓e_chain, ↓e_neg, ↓e_inv, ↓e_not, ↓e_and, ↓e_or, ↓v_and, ↓v_or, ↓e_ifx, ↓e_idx, ↓e_sl, ↓e_rev, ↓e_lst, ↓e_tup, ↓e_dict, ↓e_call, ↓e_bi, ↓e_me, ↓e_comp, ↓e_nil, ↓e_cons, ↓e_c0, ↓e_c1, ↓i_seq, ↓i_rng1, ↓i_rng2, ↓intP_int, ↓o_add, ↓o_sub, ↓o_mul, ↓o_fdiv, ↓o_mod, ↓o_pow, ↓o_addT, ↓c_eqI, ↓c_neI, ↓c_lt, ↓c_gt, ↓c_le, ↓c_ge, ↓n_int, ↓t_bl, ↓t_int, ↓x_tup, ↓b_lenT, ↓b_abs, ↓b_int, ↓b_tupT, ↓b_tupL, ↓b_list, ↓b_sorted, ↓b_lrg1, ↓b_trg1, ↓b_isi, ↓a_nil, ↓a_cons, ↓y_tup, ↓y_int, ↓y_bl, ↓y_non, ↓y_str, ↓it_tup, ↓sq_tup, ↓m_indexT, ↓k_tup, ↓ow_tup, ↓l_bl, ↓l_int, ↓l_non, ↓z_asg, ↓z_asgT, ↓z_par, ↓z_sub, ↓z_aug, ↓g_add, ↓g_sub, ↓z_ex, ↓z_ret, ↓z_if, ↓z_raise, ↓z_for, ↓z_while, ↓bt_nm, ↓bt_tp, ↓bts_n, ↓bts_c, ↓z_try, ↓tq_xc, ↓tq_nx, ↓tq_rt, ↓cq_nx, ↓cq_rt, ↓cq_xc, w_wipe0, w_wipe1, nth_0, nth_1, nth_2, nth_3, nth_4, startZ, endOf, List.map, List.length, List.replicate, List.cons_append, List.nil_append, List.append_nil, List.getElem?_cons_zero, List.getElem?_cons_succ, List.set_cons_zero, List.set_cons_succ, Nat.reduceAdd, Nat.reduceSub, Nat.reduceLT, Nat.zero_add, Nat.add_zero, Nat.sub_self, Int.reduceNeg, Int.reduceToNat, if_true, if_false, Bool.false_eq_true, Bool.not_true, Bool.not_false, Bool.and_true, Bool.true_and, Bool.and_false, Bool.false_and, and_true, true_and, Option.isSome_some, Bool.and_self, reduceIte, reduceCtorEq, decide_true, decide_false, decide_eq_true_eq, not_true_eq_false, not_false_eq_true, or_false, or_true, true_or, false_or]
      refine walk_each Val.int l (fun n => .int (ms.idxOf n : Nat)) st_nil (fun n hn => ?_) ?_
      · simp only [↓w_cons, ↓w_nil, ↓w_ev, ↓w_fin, ↓w_some, ↓t_nx, ↓t_bk, ↓t_ct, ↓t_rt, ↓t_xc, ↓r_bnd, ↓r_ret, ↓r_ok, ↓r_ite, ↓w_ite, ↓r_guard, ↓r_alloc, ↓r_optM', ↓optP_some, ↓r_noExc, ↓r_exc, ↓e_var, ↓varP_some, ↓e_con, ↓e_bin, ↓e_cmp, ↓e_chain, ↓e_neg, ↓e_inv, ↓e_not, ↓e_and, ↓e_or, ↓v_and, ↓v_or, ↓e_ifx, ↓e_idx, ↓e_sl, ↓e_rev, ↓e_lst, ↓e_tup, ↓e_dict, ↓e_call, ↓e_bi, ↓e_me, ↓e_comp, ↓e_nil, ↓e_cons, ↓e_c0, ↓e_c1, ↓i_seq, ↓i_rng1, ↓i_rng2, ↓intP_int, ↓o_add, ↓o_sub, ↓o_mul, ↓o_fdiv, ↓o_mod, ↓o_pow, ↓o_addT, ↓c_eqI, ↓c_neI, ↓c_lt, ↓c_gt, ↓c_le, ↓c_ge, ↓n_int, ↓t_bl, ↓t_int, ↓x_tup, ↓b_lenT, ↓b_abs, ↓b_int, ↓b_tupT, ↓b_tupL, ↓b_list, ↓b_sorted, ↓b_lrg1, ↓b_trg1, ↓b_isi, ↓a_nil, ↓a_cons, ↓y_tup, ↓y_int, ↓y_bl, ↓y_non, ↓y_str, ↓it_tup, ↓sq_tup, ↓m_indexT, ↓k_tup, ↓ow_tup, ↓l_bl, ↓l_int, ↓l_non, ↓z_asg, ↓z_asgT, ↓z_par, ↓z_sub, ↓z_aug, ↓g_add, ↓g_sub, ↓z_ex, ↓z_ret, ↓z_if, ↓z_raise, ↓z_for, ↓z_while, ↓bt_nm, ↓bt_tp, ↓bts_n, ↓bts_c, ↓z_try, ↓tq_xc, ↓tq_nx, ↓tq_rt, ↓cq_nx, ↓cq_rt, ↓cq_xc, w_wipe0, w_wipe1, nth_0, nth_1, nth_2, nth_3, nth_4, startZ, endOf, List.map, List.length, List.replicate, List.cons_append, List.nil_append, List.append_nil, List.getElem?_cons_zero, List.getElem?_cons_succ, List.set_cons_zero, List.set_cons_succ, Nat.reduceAdd, Nat.reduceSub, Nat.reduceLT, Nat.zero_add, Nat.add_zero, Nat.sub_self, Int.reduceNeg, Int.reduceToNat, if_true, if_false, Bool.false_eq_true, Bool.not_true, Bool.not_false, Bool.and_true, Bool.true_and, Bool.and_false, Bool.false_and, and_true, true_and, Option.isSome_some, Bool.and_self, reduceIte, reduceCtorEq, decide_true, decide_false, decide_eq_true_eq, not_true_eq_false, not_false_eq_true, or_false, or_true, true_or, false_or, first_in (Gh.2.2 n hn), supp]
      refine ⟨by rw [List.length_map]; unfold SL; omega, ?_⟩
      rw [show l.map (fun n => Val.int (ms.idxOf n : Nat)) = (l.map fun n => ((ms.idxOf n : Nat) : Int)).map Val.int by rw [List.map_map]; rfl]
      simp only [↓w_cons, ↓w_nil, ↓w_ev, ↓w_fin, ↓w_some, ↓t_nx, ↓t_bk, ↓t_ct, ↓t_rt, ↓t_xc, ↓r_bnd, ↓r_ret, ↓r_ok, ↓r_ite, ↓w_ite, ↓r_guard, ↓r_alloc, ↓r_optM', ↓optP_some, ↓r_noExc, ↓r_exc, ↓e_var, ↓varP_some, ↓e_con, ↓e_bin, ↓e_cmp, ↓e_chain, ↓e_neg, ↓e_inv, ↓e_not, ↓e_and, ↓e_or, ↓v_and, ↓v_or, ↓e_ifx, ↓e_idx, ↓e_sl, ↓e_rev, ↓e_lst, ↓e_tup, ↓e_dict, ↓e_call, ↓e_bi, ↓e_me, ↓e_comp, ↓e_nil, ↓e_cons, ↓e_c0, ↓e_c1, ↓i_seq, ↓i_rng1, ↓i_rng2, ↓intP_int, ↓o_add, ↓o_sub, ↓o_mul, ↓o_fdiv, ↓o_mod, ↓o_pow, ↓o_addT, ↓c_eqI, ↓c_neI, ↓c_lt, ↓c_gt, ↓c_le, ↓c_ge, ↓n_int, ↓t_bl, ↓t_int, ↓x_tup, ↓b_lenT, ↓b_abs, ↓b_int, ↓b_tupT, ↓b_tupL, ↓b_list, ↓b_sorted, ↓b_lrg1, ↓b_trg1, ↓b_isi, ↓a_nil, ↓a_cons, ↓y_tup, ↓y_int, ↓y_bl, ↓y_non, ↓y_str, ↓it_tup, ↓sq_tup, ↓m_indexT, ↓k_tup, ↓ow_tup, ↓l_bl, ↓l_int, ↓l_non, ↓z_asg, ↓z_asgT, ↓z_par, ↓z_sub, ↓z_aug, ↓g_add, ↓g_sub, ↓z_ex, ↓z_ret, ↓z_if, ↓z_raise, ↓z_for, ↓z_while, ↓bt_nm, ↓bt_tp, ↓bts_n, ↓bts_c, ↓z_try, ↓tq_xc, ↓tq_nx, ↓tq_rt, ↓cq_nx, ↓cq_rt, ↓cq_xc, w_wipe0, w_wipe1, nth_0, nth_1, nth_2, nth_3, nth_4, startZ, endOf, List.map, List.length, List.replicate, List.cons_append, List.nil_append, List.append_nil, List.getElem?_cons_zero, List.getElem?_cons_succ, List.set_cons_zero, List.set_cons_succ, Nat.reduceAdd, Nat.reduceSub, Nat.reduceLT, Nat.zero_add, Nat.add_zero, Nat.sub_self, Int.reduceNeg, Int.reduceToNat, if_true, if_false, Bool.false_eq_true, Bool.not_true, Bool.not_false, Bool.and_true, Bool.true_and, Bool.and_false, Bool.false_and, and_true, true_and, Option.isSome_some, Bool.and_self, reduceIte, reduceCtorEq, decide_true, decide_false, decide_eq_true_eq, not_true_eq_false, not_false_eq_true, or_false, or_true, true_or, false_or]
      refine b_sset (ns := l.map fun n => ((ms.idxOf n : Nat) : Int)) (fun {P} p => by rw [it_lst get_new]; exact p) (by rw [List.length_map]; omega) ?_
      rw [sortI_set (by rw [List.pairwise_map]; exact Gh.2.1.imp fun h => by omega)]
      simp only [↓w_cons, ↓w_nil, ↓w_ev, ↓w_fin, ↓w_some, ↓t_nx, ↓t_bk, ↓t_ct, ↓t_rt, ↓t_xc, ↓r_bnd, ↓r_ret, ↓r_ok, ↓r_ite, ↓w_ite, ↓r_guard, ↓r_alloc, ↓r_optM', ↓optP_some, ↓r_noExc, ↓r_exc, ↓e_var, ↓varP_some, ↓e_con, ↓e_bin, ↓e_cmp, ↓e_chain, ↓e_neg, ↓e_inv, ↓e_not, ↓e_and, ↓e_or, ↓v_and, ↓v_or, ↓e_ifx, ↓e_idx, ↓e_sl, ↓e_rev, ↓e_lst, ↓e_tup, ↓e_dict, ↓e_call, ↓e_bi, ↓e_me, ↓e_comp, ↓e_nil, ↓e_cons, ↓e_c0, ↓e_c1, ↓i_seq, ↓i_rng1, ↓i_rng2, ↓intP_int, ↓o_add, ↓o_sub, ↓o_mul, ↓o_fdiv, ↓o_mod, ↓o_pow, ↓o_addT, ↓c_eqI, ↓c_neI, ↓c_lt, ↓c_gt, ↓c_le, ↓c_ge, ↓n_int, ↓t_bl, ↓t_int, ↓x_tup, ↓b_lenT, ↓b_abs, ↓b_int, ↓b_tupT, ↓b_tupL, ↓b_list, ↓b_sorted, ↓b_lrg1, ↓b_trg1, ↓b_isi, ↓a_nil, ↓a_cons, ↓y_tup, ↓y_int, ↓y_bl, ↓y_non, ↓y_str, ↓it_tup, ↓sq_tup, ↓m_indexT, ↓k_tup, ↓ow_tup, ↓l_bl, ↓l_int, ↓l_non, ↓z_asg, ↓z_asgT, ↓z_par, ↓z_sub, ↓z_aug, ↓g_add, ↓g_sub, ↓z_ex, ↓z_ret, ↓z_if, ↓z_raise, ↓z_for, ↓z_while, ↓bt_nm, ↓bt_tp, ↓bts_n, ↓bts_c, ↓z_try, ↓tq_xc, ↓tq_nx, ↓tq_rt, ↓cq_nx, ↓cq_rt, ↓cq_xc, w_wipe0, w_wipe1, nth_0, nth_1, nth_2, nth_3, nth_4, startZ, endOf, List.map, List.length, List.replicate, List.cons_append, List.nil_append, List.append_nil, List.getElem?_cons_zero, List.getElem?_cons_succ, List.set_cons_zero, List.set_cons_succ, Nat.reduceAdd, Nat.reduceSub, Nat.reduceLT, Nat.zero_add, Nat.add_zero, Nat.sub_self, Int.reduceNeg, Int.reduceToNat, if_true, if_false, Bool.false_eq_true, Bool.not_true, Bool.not_false, Bool.and_true, Bool.true_and, Bool.and_false, Bool.false_and, and_true, true_and, Option.isSome_some, Bool.and_self, reduceIte, reduceCtorEq, decide_true, decide_false, decide_eq_true_eq, not_true_eq_false, not_false_eq_true, or_false, or_true, true_or, false_or, ↓c_neL (get_app get_new) get_new, sortOk_ints, sortV_map, sortI_self (Gh.1.imp fun h => by omega)]
      have g9 := get_app (x := [Ob.lst (l.map Val.int)]) (get_app (x := [Ob.lst (l.map Val.int)]) (get_app (x := [Ob.lst ((l.map fun n => ((ms.idxOf n : Nat) : Int)).map Val.int)]) (get_app (x := [Ob.lst ((l.map fun n => ((ms.idxOf n : Nat) : Int)).map Val.int)]) g8)))
      have H9 := (((H2.app (x := [Ob.lst ((l.map fun n => ((ms.idxOf n : Nat) : Int)).map Val.int)])).app (x := [Ob.lst ((l.map fun n => ((ms.idxOf n : Nat) : Int)).map Val.int)])).app (x := [Ob.lst (l.map Val.int)])).app (x := [Ob.lst (l.map Val.int)])
      generalize r2 ++ [Ob.lst ((l.map fun n => ((ms.idxOf n : Nat) : Int)).map Val.int)] ++ [Ob.lst ((l.map fun n => ((ms.idxOf n : Nat) : Int)).map Val.int)] ++ [Ob.lst (l.map Val.int)] ++ [Ob.lst (l.map Val.int)] = r3 at *
      simp only [↓w_cons, ↓w_nil, ↓w_ev, ↓w_fin, ↓w_some, ↓t_nx, ↓t_bk, ↓t_ct, ↓t_rt, ↓t_xc, ↓r_bnd, ↓r_ret, ↓r_ok, ↓r_ite, ↓w_ite, ↓r_guard, ↓r_alloc, ↓r_optM', ↓optP_some, ↓r_noExc, ↓r_exc, ↓e_var, ↓varP_some, ↓e_con, ↓e_bin, ↓e_cmp, ↓e_chain, ↓e_neg, ↓e_inv, ↓e_not, ↓e_and, ↓e_or, ↓v_and, ↓v_or, ↓e_ifx, ↓e_idx, ↓e_sl, ↓e_rev, ↓e_lst, ↓e_tup, ↓e_dict, ↓e_call, ↓e_bi, ↓e_me, ↓e_comp, ↓e_nil, ↓e_cons, ↓e_c0, ↓e_c1, ↓i_seq, ↓i_rng1, ↓i_rng2, ↓intP_int, ↓o_add, ↓o_sub, ↓o_mul, ↓o_fdiv, ↓o_mod, ↓o_pow, ↓o_addT, ↓c_eqI, ↓c_neI, ↓c_lt, ↓c_gt, ↓c_le, ↓c_ge, ↓n_int, ↓t_bl, ↓t_int, ↓x_tup, ↓b_lenT, ↓b_abs, ↓b_int, ↓b_tupT, ↓b_tupL, ↓b_list, ↓b_sorted, ↓b_lrg1, ↓b_trg1, ↓b_isi, ↓a_nil, ↓a_cons, ↓y_tup, ↓y_int, ↓y_bl, ↓y_non, ↓y_str, ↓it_tup, ↓sq_tup, ↓m_indexT, ↓k_tup, ↓ow_tup, ↓l_bl, ↓l_int, ↓l_non, ↓z_asg, ↓z_asgT, ↓z_par, ↓z_sub, ↓z_aug, ↓g_add, ↓g_sub, ↓z_ex, ↓z_ret, ↓z_if, ↓z_raise, ↓z_for, ↓z_while, ↓bt_nm, ↓bt_tp, ↓bts_n, ↓bts_c, ↓z_try, ↓tq_xc, ↓tq_nx, ↓tq_rt, ↓cq_nx, ↓cq_rt, ↓cq_xc, w_wipe0, w_wipe1, nth_0, nth_1, nth_2, nth_3, nth_4, startZ, endOf, List.map, List.length, List.replicate, List.cons_append, List.nil_append, List.append_nil, List.getElem?_cons_zero, List.getElem?_cons_succ, List.set_cons_zero, List.set_cons_succ, Nat.reduceAdd, Nat.reduceSub, Nat.reduceLT, Nat.zero_add, Nat.add_zero, Nat.sub_self, Int.reduceNeg, Int.reduceToNat, if_true, if_false, Bool.false_eq_true, Bool.not_true, Bool.not_false, Bool.and_true, Bool.true_and, Bool.and_false, Bool.false_and, and_true, true_and, Option.isSome_some, Bool.and_self, reduceIte, reduceCtorEq, decide_true, decide_false, decide_eq_true_eq, not_true_eq_false, not_false_eq_true, or_false, or_true, true_or, false_or, ↓k_lst g9, supp]
      rw [m_extend g9 ow_tup]
      refine ⟨by rw [List.length_map, List.length_map]; unfold SL; omega, ?_, r3.set r1.length _, _, _, _, put_top, ?_, ?_, rfl⟩
      · rw [← List.map_append]
        refine List.all_eq_true.mpr fun v m => ?_
        obtain ⟨j, _, e⟩ := List.mem_map.mp m
        subst e; rfl
      · rw [← put_top]
        exact H9.other (by omega) (by omega)
      · rw [← put_top, get_put_same g9, List.map_append]
    · rintro σ h' ⟨r2, a9, a10, a11, eh, H2, g8, es⟩
      rw [List.length_map, List.take_length] at g8
      exact ⟨r2, a9, a10, a11, eh, H2, g8, by rw [es]⟩
    rintro o h' ⟨r2, a9, a10, a11, eh, H2, g8, eo⟩
    subst eh eo
    rw [t_nx, w_cons]
    simp only [↓w_cons, ↓w_nil, ↓w_ev, ↓w_fin, ↓w_some, ↓t_nx, ↓t_bk, ↓t_ct, ↓t_rt, ↓t_xc, ↓r_bnd, ↓r_ret, ↓r_ok, ↓r_ite, ↓w_ite, ↓r_guard, ↓r_alloc, ↓r_optM', ↓optP_some, ↓r_noExc, ↓r_exc, ↓e_var, ↓varP_some, ↓e_con, ↓e_bin, ↓e_cmp, ↓e_chain, ↓e_neg, ↓e_inv, ↓e_not, ↓e_and, ↓e_or, ↓v_and, ↓v_or, ↓e_ifx, ↓e_idx, ↓e_sl, ↓e_rev, ↓e_lst, ↓e_tup, ↓e_dict, ↓e_call, ↓e_bi, ↓e_me, ↓e_comp, ↓e_nil, ↓e_cons, ↓e_c0, ↓e_c1, ↓i_seq, ↓i_rng1, ↓i_rng2, ↓intP_int, ↓o_add, ↓o_sub, ↓o_mul, ↓o_fdiv, ↓o_mod, ↓o_pow, ↓o_addT, ↓c_eqI, ↓c_neI, ↓c_lt, ↓c_gt, ↓c_le, ↓c_ge, ↓n_int, ↓t_bl, ↓t_int, ↓x_tup, ↓b_lenT, ↓b_abs, ↓b_int, ↓b_tupT, ↓b_tupL, ↓b_list, ↓b_sorted, ↓b_lrg1, ↓b_trg1, ↓b_isi, ↓a_nil, ↓a_cons, ↓y_tup, ↓y_int, ↓y_bl, ↓y_non, ↓y_str, ↓it_tup, ↓sq_tup, ↓m_indexT, ↓k_tup, ↓ow_tup, ↓l_bl, ↓l_int, ↓l_non, ↓z_asg, ↓z_asgT, ↓z_par, ↓z_sub, ↓z_aug, ↓g_add, ↓g_sub, ↓z_ex, ↓z_ret, ↓z_if, ↓z_raise, ↓z_for, ↓z_while, ↓bt_nm, ↓bt_tp, ↓bts_n, ↓bts_c, ↓z_try, ↓tq_xc, ↓tq_nx, ↓tq_rt, ↓cq_nx, ↓cq_rt, ↓cq_xc, w_wipe0, w_wipe1, nth_0, nth_1, nth_2, nth_3, nth_4, startZ, endOf, List.map, List.length, List.replicate, List.cons_append, List.nil_append, List.append_nil, List.getElem?_cons_zero, List.getElem?_cons_succ, List.set_cons_zero, List.set_cons_succ, Nat.reduceAdd, Nat.reduceSub, Nat.reduceLT, Nat.zero_add, Nat.add_zero, Nat.sub_self, Int.reduceNeg, Int.reduceToNat, if_true, if_false, Bool.false_eq_true, Bool.not_true, Bool.not_false, Bool.and_true, Bool.true_and, Bool.and_false, Bool.false_and, and_true, true_and, Option.isSome_some, Bool.and_self, reduceIte, reduceCtorEq, decide_true, decide_false, decide_eq_true_eq, not_true_eq_false, not_false_eq_true, or_false, or_true, true_or, false_or, ↓it_lst g8, sortOk_ints, sortV_map, sort_upTo (G.perm.trans pm), List.length_map, range_up, ↓c_neL (get_app get_new) get_new, ↓it_tup]
    rw [G.len]
    refine ⟨⟨by omega, by omega⟩, ?_⟩
    rw [if_neg (by simp)]
    refine ⟨by unfold SL; omega, by decide, ?_⟩
    have Hn := ((H2.app (x := [Ob.lst ((upTo ms.length).map Val.int)])).app (x := [Ob.lst ((upTo ms.length).map Val.int)]))
    generalize r2 ++ [Ob.lst ((upTo ms.length).map Val.int)] ++ [Ob.lst ((upTo ms.length).map Val.int)] = r4 at *
    have Hn2 := Hn.app (x := [Ob.lst (ms.map Val.int)])
    have ht := Hn2.top
    refine some_ok f5 f6 Hn2.app get_new (by omega) (show 0 < 8 ∧ 8 < 1073741824 by decide) (fun v hv => ?_) fun v o hv Ho => ?_
    · simp only [List.mem_cons, List.not_mem_nil, or_false] at hv
      rcases hv with rfl | rfl | rfl | rfl | rfl | rfl | rfl | rfl
      · rfl
      · rfl
      · exact decide_eq_true (Nat.lt_succ_self _)
      · rw [show ms.map Val.int ++ [Val.int 0] = (ms ++ [0]).map Val.int by simp]; exact ints_under
      · rfl
      · rfl
      · rw [show rangeV 0 25 = (upTo 25).map Val.int from range_up (n := 25)]; exact ints_under
      · rfl
    rw [put_top] at Ho ⊢
    refine lf_bad ?_ ?_
    · simp only [List.mem_cons, List.not_mem_nil, or_false] at hv
      rcases hv with rfl | rfl | rfl | rfl | rfl | rfl | rfl | rfl
      · exact .inr (.inr (.inl rfl))
      · exact .inl ⟨[], rfl, by decide, fun z => absurd z.1 (by decide)⟩
      · refine .inr (.inr (.inr (.inr ⟨_, _, ms.map Val.int, rfl, ?_⟩)))
        rw [← put_top, get_put_ne (by have := Hn.top; omega)]
        exact get_app get_new
      · refine .inl ⟨ms ++ [0], by simp, by simp; omega, fun z => ?_⟩
        have nd := z.2.2.symm.nodup (upTo_nodup _)
        have h0 : (0 : Int) ∈ ms := pm.symm.subset (mem_upTo.mpr (by omega))
        exact (List.nodup_append.mp nd).2.2 0 h0 0 (by simp) rfl
      · refine .inl ⟨[1], rfl, by decide, fun z => ?_⟩
        have := mem_upTo.mp (z.2.2.subset (List.mem_singleton.mpr rfl))
        simp at this
      · exact .inr (.inr (.inr (.inl ⟨_, rfl⟩)))
      · refine .inl ⟨upTo 25, congrArg Val.tup (range_up (n := 25)), by rw [upTo_len]; decide, fun z => ?_⟩
        have := z.2.1
        rw [upTo_len] at this
        omega
      · exact .inr (.inl ⟨[true, false], rfl, by decide, by decide⟩)
    rw [w_hand (by decide)]
    simp only [↓w_cons, ↓w_nil, ↓w_ev, ↓w_fin, ↓w_some, ↓t_nx, ↓t_bk, ↓t_ct, ↓t_rt, ↓t_xc, ↓r_bnd, ↓r_ret, ↓r_ok, ↓r_ite, ↓w_ite, ↓r_guard, ↓r_alloc, ↓r_optM', ↓optP_some, ↓r_noExc, ↓r_exc, ↓e_var, ↓varP_some, ↓e_con, ↓e_bin, ↓e_cmp, ↓e_chain, ↓e_neg, ↓e_inv, ↓e_not, ↓e_and, ↓e_or, ↓v_and, ↓v_or, ↓e_ifx, ↓e_idx, ↓e_sl, ↓e_rev, ↓e_lst, ↓e_tup, ↓e_dict, ↓e_call, ↓e_bi, ↓e_me, ↓e_comp, ↓e_nil, ↓e_cons, ↓e_c0, ↓e_c1, ↓i_seq, ↓i_rng1, ↓i_rng2, ↓intP_int, ↓o_add, ↓o_sub, ↓o_mul, ↓o_fdiv, ↓o_mod, ↓o_pow, ↓o_addT, ↓c_eqI, ↓c_neI, ↓c_lt, ↓c_gt, ↓c_le, ↓c_ge, ↓n_int, ↓t_bl, ↓t_int, ↓x_tup, ↓b_lenT, ↓b_abs, ↓b_int, ↓b_tupT, ↓b_tupL, ↓b_list, ↓b_sorted, ↓b_lrg1, ↓b_trg1, ↓b_isi, ↓a_nil, ↓a_cons, ↓y_tup, ↓y_int, ↓y_bl, ↓y_non, ↓y_str, ↓it_tup, ↓sq_tup, ↓m_indexT, ↓k_tup, ↓ow_tup, ↓l_bl, ↓l_int, ↓l_non, ↓z_asg, ↓z_asgT, ↓z_par, ↓z_sub, ↓z_aug, ↓g_add, ↓g_sub, ↓z_ex, ↓z_ret, ↓z_if, ↓z_raise, ↓z_for, ↓z_while, ↓bt_nm, ↓bt_tp, ↓bts_n, ↓bts_c, ↓z_try, ↓tq_xc, ↓tq_nx, ↓tq_rt, ↓cq_nx, ↓cq_rt, ↓cq_xc, w_wipe0, w_wipe1, nth_0, nth_1, nth_2, nth_3, nth_4, startZ, endOf, List.map, List.length, List.replicate, List.cons_append, List.nil_append, List.append_nil, List.getElem?_cons_zero, List.getElem?_cons_succ, List.set_cons_zero, List.set_cons_succ, Nat.reduceAdd, Nat.reduceSub, Nat.reduceLT, Nat.zero_add, Nat.add_zero, Nat.sub_self, Int.reduceNeg, Int.reduceToNat, if_true, if_false, Bool.false_eq_true, Bool.not_true, Bool.not_false, Bool.and_true, Bool.true_and, Bool.and_false, Bool.false_and, and_true, true_and, Option.isSome_some, Bool.and_self, reduceIte, reduceCtorEq, decide_true, decide_false, decide_eq_true_eq, not_true_eq_false, not_false_eq_true, or_false, or_true, true_or, false_or]
    exact ⟨_, _, _, _, _, _, _, _, _, _, _, _, rfl, Ho.app, rfl⟩
  · rintro σ h' ⟨r, a2, a3, a4, a5, a6, a7, a8, a9, a10, a11, a12, eh, H, es⟩
    subst eh es
    simp only [↓w_cons, ↓w_nil, ↓w_ev, ↓w_fin, ↓w_some, ↓t_nx, ↓t_bk, ↓t_ct, ↓t_rt, ↓t_xc, ↓r_bnd, ↓r_ret, ↓r_ok, ↓r_ite, ↓w_ite, ↓r_guard, ↓r_alloc, ↓r_optM', ↓optP_some, ↓r_noExc, ↓r_exc, ↓e_var, ↓varP_some, ↓e_con, ↓e_bin, ↓e_cmp, ↓e_chain, ↓e_neg, ↓e_inv, ↓e_not, ↓e_and, ↓e_or, ↓v_and, ↓v_or, ↓e_ifx, ↓e_idx, ↓e_sl, ↓e_rev, ↓e_lst, ↓e_tup, ↓e_dict, ↓e_call, ↓e_bi, ↓e_me, ↓e_comp, ↓e_nil, ↓e_cons, ↓e_c0, ↓e_c1, ↓i_seq, ↓i_rng1, ↓i_rng2, ↓intP_int, ↓o_add, ↓o_sub, ↓o_mul, ↓o_fdiv, ↓o_mod, ↓o_pow, ↓o_addT, ↓c_eqI, ↓c_neI, ↓c_lt, ↓c_gt, ↓c_le, ↓c_ge, ↓n_int, ↓t_bl, ↓t_int, ↓x_tup, ↓b_lenT, ↓b_abs, ↓b_int, ↓b_tupT, ↓b_tupL, ↓b_list, ↓b_sorted, ↓b_lrg1, ↓b_trg1, ↓b_isi, ↓a_nil, ↓a_cons, ↓y_tup, ↓y_int, ↓y_bl, ↓y_non, ↓y_str, ↓it_tup, ↓sq_tup, ↓m_indexT, ↓k_tup, ↓ow_tup, ↓l_bl, ↓l_int, ↓l_non, ↓z_asg, ↓z_asgT, ↓z_par, ↓z_sub, ↓z_aug, ↓g_add, ↓g_sub, ↓z_ex, ↓z_ret, ↓z_if, ↓z_raise, ↓z_for, ↓z_while, ↓bt_nm, ↓bt_tp, ↓bts_n, ↓bts_c, ↓z_try, ↓tq_xc, ↓tq_nx, ↓tq_rt, ↓cq_nx, ↓cq_rt, ↓cq_xc, w_wipe0, w_wipe1, nth_0, nth_1, nth_2, nth_3, nth_4, startZ, endOf, List.map, List.length, List.replicate, List.cons_append, List.nil_append, List.append_nil, List.getElem?_cons_zero, List.getElem?_cons_succ, List.set_cons_zero, List.set_cons_succ, Nat.reduceAdd, Nat.reduceSub, Nat.reduceLT, Nat.zero_add, Nat.add_zero, Nat.sub_self, Int.reduceNeg, Int.reduceToNat, if_true, if_false, Bool.false_eq_true, Bool.not_true, Bool.not_false, Bool.and_true, Bool.true_and, Bool.and_false, Bool.false_and, and_true, true_and, Option.isSome_some, Bool.and_self, reduceIte, reduceCtorEq, decide_true, decide_false, decide_eq_true_eq, not_true_eq_false, not_false_eq_true, or_false, or_true, true_or, false_or]
    exact q
end
end K19
namespace K19
open PySem Z
def depth : Nat := 12
theorem main (ns : List Int) (h : ns.length ≤ 63) : ∃ hs, callN (tbl.map (·.fd)) depth 9 [.loc 0 0] [[.ro (ns.map Val.int)]] = .ok (.bl true) hs := by
  have w := law_ok (k := 6) (h := [[.ro (ns.map Val.int)]]) (P := fun v _ => v = .bl true) (X := fun _ _ _ => False) h rfl rfl
  show ∃ hs, callN fds 12 9 [.loc 0 0] [[.ro (ns.map Val.int)]] = .ok (.bl true) hs
  cases e : callN fds 12 9 [.loc 0 0] [[.ro (ns.map Val.int)]] with
  | ok v hs =>
    rw [e] at w
    have : v = .bl true := w
    exact ⟨hs, by rw [this]⟩
  | exc c vs hs => rw [e] at w; exact w.elim
  | bad => rw [e] at w; exact w.elim
end K19
open PySem PySem.W PyProof.Rows
set_option maxHeartbeats 0 in
theorem PySem.Challenge.cw_arrowsgoon_k19_longest_falling_rows_holds : PySem.Challenge.rw_arrowsgoon_k19_longest_falling_rows.Holds := by
  w_on; o_law; k_head; (case hw => w_witness2)
  k_fill
  refine L2.walk_of (l := PySem.Challenge.rw_arrowsgoon_k19_longest_falling_rows) (n := 63) (k := K19.depth) (x := "script") (CX := fun w => L2.CX PySem.Challenge.rw_arrowsgoon_k19_longest_falling_rows.prog w) (sp := fun w => Z.spL (Z.callN (K19.tbl.map (·.fd)) K19.depth) K19.g.cls.length _ 9) rfl (by decide) rfl ⟨rfl, by decide, by decide⟩ (fun w h Y => PySem.W.kIn_of Y) ?F (fun _ _ a ns hl hO hS => fun cl => Z.law_sp hO hS (K19.main ns hl)) (fun _ _ _ _ _ ⟨_, _, _, _, _, _, _, _, _, _, _, _, q⟩ => q)
  case F =>
    intro w mg fa h KX G hmg
    refine' Z.law_all (Z.tx_mk (g := K19.g) (tbl := K19.tbl) (Cs := [?C0, ?C1]) KX G rfl K19.bs rfl ⟨Z.dfk (d := K19.dB_is_integer) ?a0 ?l0 ?c0 ?k0, Z.dfk (d := K19.dB_is_between) ?a1 ?l1 ?c1 ?k1, Z.dfk (d := K19.dB_is_order) ?a2 ?l2 ?c2 ?k2, Z.dfk (d := K19.dB_longest_falling) ?a3 ?l3 ?c3 ?k3, Z.dfk (d := K19.dBlaw_hand) ?a4 ?l4 ?c4 ?k4, Z.dfk (d := K19.dBlaw_draw) ?a5 ?l5 ?c5 ?k5, Z.dfk (d := K19.dBlaw_some) ?a6 ?l6 ?c6 ?k6, Z.dfk (d := K19.dBlaw_mixed) ?a7 ?l7 ?c7 ?k7, Z.dfk (d := K19.dBlaw_best) ?a8 ?l8 ?c8 ?k8, Z.dfk (d := K19.dB_law) ?a9 ?l9 ?c9 ?k9, trivial⟩ ⟨Z.freek ?z0, Z.freek ?z1, Z.freek ?z2, Z.freek ?z3, Z.freek ?z4, Z.freek ?z5, Z.freek ?z6, Z.freek ?z7, Z.freek ?z8, Z.freek ?z9, Z.freek ?z10, Z.freek ?z11, Z.freek ?z12, Z.freek ?z13, trivial⟩ ⟨Z.conk ?n0 ?r0, trivial⟩ ⟨⟨?ca0, ?ce0, ?ck0, ?cb0, ?ct0, ?ci0⟩, ⟨?ca1, ?ce1, ?ck1, ?cb1, ?ct1, ?ci1⟩, trivial⟩ ⟨⟨?m0_0, ?m0_1, trivial⟩, ⟨?m1_0, ?m1_1, trivial⟩, trivial⟩) K19.oks rfl hmg rfl K19.b_B_law
    (case a0 => k_is)
    (case l0 => k_is)
    (case c0 => k_is)
    (case k0 => k_is)
    (case a1 => k_is)
    (case l1 => k_is)
    (case c1 => k_is)
    (case k1 => k_is)
    (case a2 => k_is)
    (case l2 => k_is)
    (case c2 => k_is)
    (case k2 => k_is)
    (case a3 => k_is)
    (case l3 => k_is)
    (case c3 => k_is)
    (case k3 => k_is)
    (case a4 => k_is)
    (case l4 => k_is)
    (case c4 => k_is)
    (case k4 => k_is)
    (case a5 => k_is)
    (case l5 => k_is)
    (case c5 => k_is)
    (case k5 => k_is)
    (case a6 => k_is)
    (case l6 => k_is)
    (case c6 => k_is)
    (case k6 => k_is)
    (case a7 => k_is)
    (case l7 => k_is)
    (case c7 => k_is)
    (case k7 => k_is)
    (case a8 => k_is)
    (case l8 => k_is)
    (case c8 => k_is)
    (case k8 => k_is)
    (case a9 => k_is)
    (case l9 => k_is)
    (case c9 => k_is)
    (case k9 => k_is)
    (case z0 => k_is)
    (case z1 => k_is)
    (case z2 => k_is)
    (case z3 => k_is)
    (case z4 => k_is)
    (case z5 => k_is)
    (case z6 => k_is)
    (case z7 => k_is)
    (case z8 => k_is)
    (case z9 => k_is)
    (case z10 => k_is)
    (case z11 => k_is)
    (case z12 => k_is)
    (case z13 => k_is)
    (case n0 => k_is)
    (case r0 => first | exact rfl | exact ⟨_, rfl⟩)
    (case ca0 => k_is)
    (case ce0 => k_exc)
    (case ck0 => k_is)
    (case cb0 => k_is)
    (case ct0 => k_is)
    (case ci0 => k_is)
    (case ca1 => k_is)
    (case ce1 => k_exc)
    (case ck1 => k_is)
    (case cb1 => k_is)
    (case ct1 => k_is)
    (case ci1 => k_is)
    (case m0_0 => first | rfl | k_is)
    (case m0_1 => first | rfl | k_is)
    (case m1_0 => first | rfl | k_is)
    (case m1_1 => first | rfl | k_is)
