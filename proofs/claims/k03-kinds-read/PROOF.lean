import PyProof.Rows.All
import Wide.All
import OpenK.AllK
import Wide.FinOn
import HandS.ForMost
import HandS.TupAny
import HandS.TupMul
import HandS.Deep
import HandS.IsInst
import HandS.TryOnly
import HandS.Zip
import HandS.Small
import HandS.Flow
import HandS.Iter
import HandS.Text
import HandS.SortInts
import HandS.More
import HandS.SetFor
import HandS.Strs
import KE.KDictZip
import HandS.Conv
import KE.GoesMore
import KE.GoesEnum
import HandS.ExcInit
import HandS.ExcField
import HandS.ExcIs
import HandS.Defaults
import HandS.Style
import KE.KExcIs
import HandS.WordsExc
import PySem.Challenge.RW_chainwright_k03_kinds_read
set_option Elab.async false
set_option linter.all false
set_option maxRecDepth 100000
/-! CL, part a: a small language, its values, its store, its run -/
namespace CL
open PySem L2

/-- a value: tuples are plain data, lists, dicts and instances stand in the store -/
inductive Val where
  | non | bl (b : Bool) | int (i : Int) | str (x : Str) | tup (xs : List Val) | ref (i : Nat)
  deriving Inhabited
mutual
def veq : Val → Val → Bool
  | .non, .non => true
  | .bl a, .bl b => a == b
  | .int a, .int b => decide (a = b)
  | .str a, .str b => decide (a = b)
  | .tup a, .tup b => veqs a b
  | .ref i, .ref j => decide (i = j)
  | _, _ => false
def veqs : List Val → List Val → Bool
  | [], [] => true
  | x :: r, y :: t => veq x y && veqs r t
  | _, _ => false
end
mutual
theorem veq_iff : ∀ a b : Val, veq a b = true ↔ a = b
  | .non, b => by cases b <;> simp [veq]
  | .bl a, b => by cases b <;> simp [veq]
  | .int a, b => by cases b <;> simp [veq]
  | .str a, b => by cases b <;> simp [veq]
  | .ref a, b => by cases b <;> simp [veq]
  | .tup a, b => by
    cases b with
    | tup b => rw [veq, veqs_iff a b]; simp
    | _ => simp [veq]
theorem veqs_iff : ∀ a b : List Val, veqs a b = true ↔ a = b
  | [], b => by cases b <;> simp [veqs]
  | x :: r, b => by
    cases b with
    | nil => simp [veqs]
    | cons y t => rw [veqs, Bool.and_eq_true, veq_iff x y, veqs_iff r t]; simp
end
instance : DecidableEq Val := fun a b => decidable_of_iff (veq a b = true) (veq_iff a b)
inductive Ob where
  | lst (xs : List Val) | dK (kvs : List (Key × Val)) | dT (kvs : List (List Key × Val)) | ins (c : Nat) (fs : List (Str × Val)) | exc (c : Nat) (fs : List (Str × Val))
  deriving DecidableEq
structure Store where
  n : Nat
  m : Nat → Option Ob
  ro : Nat → Bool
abbrev Env := List (Option Val)
/-- how a run ends: not told; an error (class, fields); a value -/
inductive Res (α : Type) where
  | fail | ex (c : Nat) (fs : List (Str × Val)) (st : Store) | ok (a : α) (st : Store)
def Res.bind {α β : Type} : Res α → (α → Store → Res β) → Res β
  | .fail, _ => .fail
  | .ex c fs st, _ => .ex c fs st
  | .ok a st, k => k a st
@[simp] theorem bind_ok {α β : Type} (a : α) (st : Store) (k : α → Store → Res β) : (Res.ok a st).bind k = k a st := rfl
@[simp] theorem bind_fail {α β : Type} (k : α → Store → Res β) : (Res.fail : Res α).bind k = .fail := rfl
@[simp] theorem bind_ex {α β : Type} (c : Nat) (fs : List (Str × Val)) (st : Store) (k : α → Store → Res β) : (Res.ex c fs st : Res α).bind k = .ex c fs st := rfl
/-- an error is not told here -/
def noex {α : Type} : Res α → Res α
  | .ex _ _ _ => .fail
  | r => r
theorem noex_eq_ok {α : Type} {r : Res α} {a : α} {s : Store} : noex r = .ok a s ↔ r = .ok a s := by cases r <;> simp [noex]
theorem noex_ne {α : Type} {r : Res α} {c : Nat} {fs : List (Str × Val)} {s : Store} : noex r ≠ .ex c fs s := by cases r <;> simp [noex]
@[simp] theorem noex_ok {α : Type} (a : α) (s : Store) : noex (Res.ok a s) = .ok a s := rfl
theorem bind_eq_ex {α β : Type} {r : Res α} {k : α → Store → Res β} {c : Nat} {fs : List (Str × Val)} {s : Store} : r.bind k = .ex c fs s ↔ r = .ex c fs s ∨ ∃ a t, r = .ok a t ∧ k a t = .ex c fs s := by
  cases r with
  | fail => constructor <;> intro h <;> simp at h
  | ex c' fs' st =>
    constructor
    · intro h; cases h; exact .inl rfl
    · rintro (h | ⟨a, t, e, h⟩)
      · cases h; rfl
      · cases e
  | ok a st =>
    constructor
    · intro h; exact .inr ⟨a, st, rfl, h⟩
    · rintro (h | ⟨a', t, e, h⟩)
      · cases h
      · cases e; exact h
theorem bind_eq_ok {α β : Type} {r : Res α} {k : α → Store → Res β} {b : β} {s : Store} : r.bind k = .ok b s ↔ ∃ a t, r = .ok a t ∧ k a t = .ok b s := by
  cases r with
  | fail => constructor <;> intro h <;> simp at h
  | ex c fs st => constructor <;> intro h <;> simp at h
  | ok a st =>
    constructor
    · intro h; exact ⟨a, st, rfl, h⟩
    · rintro ⟨a', t, e, h⟩; cases e; exact h
theorem bind_assoc {α β γ : Type} (r : Res α) (k : α → Store → Res β) (j : β → Store → Res γ) : (r.bind k).bind j = r.bind fun a s => (k a s).bind j := by
  cases r <;> rfl

def Store.set (st : Store) (i : Nat) (o : Ob) : Store := { st with m := fun j => if j = i then some o else st.m j }
def Store.new (st : Store) (o : Ob) : Store := { n := st.n + 1, m := fun j => if j = st.n then some o else st.m j, ro := fun j => if j = st.n then false else st.ro j }
def Store.newR (st : Store) (o : Ob) : Store := { n := st.n + 1, m := fun j => if j = st.n then some o else st.m j, ro := fun j => if j = st.n then true else st.ro j }
/-- a new thing -/
def mk (o : Ob) (st : Store) : Res Val := .ok (.ref st.n) (st.new o)
/-- a thing written -/
def wr (i : Nat) (o : Ob) (st : Store) : Res Val := if st.ro i then .fail else .ok .non (st.set i o)
def Store.lst (st : Store) (i : Nat) : Option (List Val) := match st.m i with
  | some (.lst xs) => some xs
  | _ => none
def fits (n : Nat) : Bool := decide (n ≤ sizeLine)
def mkL (xs : List Val) (st : Store) : Res Val := if fits xs.length then mk (.lst xs) st else .fail
def mkT (xs : List Val) (st : Store) : Res Val := if fits xs.length then .ok (.tup xs) st else .fail

/-! ### data, ==, in -/
def allO {α : Type} : List (Option α) → Option (List α)
  | [] => some []
  | some x :: r => match allO r with
    | some xs => some (x :: xs)
    | none => none
  | none :: _ => none
/-- what a value is as data, lists as they stand now; k bounds the depth -/
def dat (st : Store) : Nat → Val → Option PyData
  | 0, _ => none
  | k + 1, v => match v with
    | .non => some .none
    | .bl b => some (.bool b)
    | .int i => some (.int i)
    | .str x => some (.str x)
    | .tup xs => (allO (xs.map (dat st k))).map .tuple
    | .ref i => match st.m i with
      | some (.lst xs) => (allO (xs.map (dat st k))).map .list
      | _ => none
/-- the depth that is looked at -/
def deep : Nat := 70
def scalar : Val → Bool
  | .non | .bl _ | .int _ | .str _ => true
  | _ => false
/-- == of two plain values; None: not told here -/
def eq0 : Val → Val → Option Bool
  | .non, .non => some true
  | .bl a, .bl b => some (a == b)
  | .bl a, .int b => some ((if a then 1 else 0) == b)
  | .int a, .bl b => some (a == (if b then 1 else 0))
  | .int a, .int b => some (decide (a = b))
  | .str a, .str b => some (decide (a = b))
  | .non, .bl _ | .non, .int _ | .non, .str _ => some false
  | .bl _, .non | .bl _, .str _ => some false
  | .int _, .non | .int _, .str _ => some false
  | .str _, .non | .str _, .bl _ | .str _, .int _ => some false
  | _, _ => none
def eqV (st : Store) (x y : Val) : Option Bool := match eq0 x y with
  | some b => some b
  | none => match dat st deep x, dat st deep y with
    | some d, some e => if SeqAt.shaped d && SeqAt.shaped e then some (PyData.eqv d e) else none
    | _, _ => none
def okB (o : Option Bool) (st : Store) : Res Val := match o with
  | some b => .ok (.bl b) st
  | none => .fail
def notO : Option Bool → Option Bool
  | some b => some (!b)
  | none => none
/-- a dict's key -/
def key1 : Val → Option Key
  | .int i => some (.inl i)
  | .str x => some (.inr x)
  | _ => none
/-- kt: what the module's own tuples hold: no keys -/
def keyT (kt : List (List Val)) : Val → Option (List Key)
  | .tup xs => if xs ∈ kt then none else allO (xs.map key1)
  | _ => none
def look {κ : Type} [DecidableEq κ] (kvs : List (κ × Val)) (k : κ) : Option Val := (kvs.find? fun kv => decide (kv.1 = k)).map (·.2)
def put {κ : Type} [DecidableEq κ] (kvs : List (κ × Val)) (k : κ) (v : Val) : List (κ × Val) :=
  if kvs.any (fun kv => decide (kv.1 = k)) then kvs.map fun kv => if kv.1 = k then (kv.1, v) else kv else kvs ++ [(k, v)]
/-- d[k]: none: not told; some none: not there -/
def dget (kt : List (List Val)) (o : Option Ob) (k : Val) : Option (Option Val) := match o with
  | some (.dK kvs) => match key1 k with
    | some k => some (look kvs k)
    | none => none
  | some (.dT kvs) => match keyT kt k with
    | some k => some (look kvs k)
    | none => none
  | _ => none
/-- all == x -/
def anyEq (st : Store) (x : Val) : List Val → Option Bool
  | [] => some false
  | y :: r => match eqV st y x with
    | some true => some true
    | some false => anyEq st x r
    | none => none
/-- in, of flat things -/
def eqF : Val → Val → Bool
  | .non, .non => true
  | .bl a, .bl b => a == b
  | .bl a, .int b => (if a then 1 else 0) == b
  | .int a, .bl b => a == (if b then 1 else 0)
  | .int a, .int b => a == b
  | .str a, .str b => a == b
  | _, _ => false
def inFlat (x : Val) (ys : List Val) : Option Bool := if scalar x && ys.all scalar then some (ys.any fun y => eqF y x) else none
def inV (kt : List (List Val)) (st : Store) (x y : Val) : Option Bool := match y with
  | .tup ys => inFlat x ys
  | .str z => match x with
    | .str w => some (!(Builtin.Str.occurrences z w 0 z.length 1).isEmpty)
    | _ => none
  | .ref i => match st.m i with
    | some (.lst ys) => match inFlat x ys with
      | some b => some b
      | none => match dat st deep x, dat st deep (.ref i) with
        | some d, some (.list ds) => if SeqAt.shaped d && SeqAt.shaped (.list ds) then some (ds.any fun z => PyData.eqv z d) else none
        | _, _ => none
    | some (.dK kvs) => (dget kt (some (.dK kvs)) x).map Option.isSome
    | some (.dT kvs) => (dget kt (some (.dT kvs)) x).map Option.isSome
    | _ => none
  | _ => none
def tru (st : Store) : Val → Option Bool
  | .non => some false
  | .bl b => some b
  | .int i => some (i != 0)
  | .str x => if fits x.length then some (x.length != 0) else none
  | .tup xs => some (!xs.isEmpty)
  | .ref i => match st.m i with
    | some (.lst xs) => some (!xs.isEmpty)
    | some (.dK kvs) => if st.ro i then none else some (!kvs.isEmpty)
    | _ => none

/-! ### operators -/
inductive Bop where
  | add | sub | mul | fdiv | mod | pow
  deriving DecidableEq
inductive Cop where
  | eq | ne | lt | le | gt | ge | has | hasnt
  deriving DecidableEq
def mulOk (i j : Int) : Bool := (decide (-(2 ^ 64) < i) && decide (i < 2 ^ 64)) || (decide (-(2 ^ 64) < j) && decide (j < 2 ^ 64))
def rep (xs : List Val) (k : Int) : List Val := (List.replicate k.toNat xs).flatten
def repOk (xs : List Val) (k : Int) : Bool := decide (-(2 ^ 63) ≤ k) && decide (k < 2 ^ 63) && fits (xs.length * k.toNat)
def bop (o : Bop) (x y : Val) (st : Store) : Res Val := match o, x, y with
  | .add, .int i, .int j => .ok (.int (i + j)) st
  | .add, .str a, .str b => if fits (a.length + b.length) then .ok (.str (a ++ b)) st else .fail
  | .add, .tup a, .tup b => if fits (a.length + b.length) then .ok (.tup (a ++ b)) st else .fail
  | .add, .ref a, .ref b => match st.m a, st.m b with
    | some (.lst xs), some (.lst ys) => if st.ro a || st.ro b then .fail else if fits (xs.length + ys.length) then mk (.lst (xs ++ ys)) st else .fail
    | _, _ => .fail
  | .sub, .int i, .int j => .ok (.int (i - j)) st
  | .mul, .int i, .int j => if mulOk i j then .ok (.int (i * j)) st else .fail
  | .mul, .ref a, .int k => match st.m a with
    | some (.lst xs) => if !st.ro a && repOk xs k then mk (.lst (rep xs k)) st else .fail
    | _ => .fail
  | .mul, .tup xs, .int k => if k = 1 then .ok (.tup xs) st else if k = 0 ∧ xs ≠ [] then .ok (.tup []) st else if xs ≠ [] ∧ 2 ≤ k ∧ k ≤ 1000 ∧ xs.length ≤ 1000 then .ok (.tup (rep xs k)) st else .fail
  | .fdiv, .int i, .int j => if j ≠ 0 ∧ j.natAbs.log2 < 9000 then .ok (.int (i.fdiv j)) st else .fail
  | .mod, .int i, .int j => if j ≠ 0 then .ok (.int (i.fmod j)) st else .fail
  | .pow, .int i, .int j => if 0 ≤ j ∧ j ≤ 1000000 ∧ i.natAbs < 2 ^ 64 then .ok (.int (i ^ j.toNat)) st else .fail
  | _, _, _ => .fail
/-- two lists of unlike lengths -/
def lenNe (st : Store) : Val → Val → Bool
  | .ref a, .ref b => match st.m a, st.m b with
    | some (.lst xs), some (.lst ys) => decide (xs.length ≠ ys.length)
    | _, _ => false
  | _, _ => false
def cop (kt : List (List Val)) (o : Cop) (x y : Val) (st : Store) : Res Val := match o with
  | .eq => match eqV st x y with
    | some b => .ok (.bl b) st
    | none => if lenNe st x y then .ok (.bl false) st else .fail
  | .ne => match eqV st x y with
    | some b => .ok (.bl (!b)) st
    | none => if lenNe st x y then .ok (.bl true) st else .fail
  | .has => okB (inV kt st x y) st
  | .hasnt => okB (notO (inV kt st x y)) st
  | .lt => match x, y with
    | .int i, .int j => .ok (.bl (decide (i < j))) st
    | .bl i, .bl j => .ok (.bl (!i && j)) st
    | _, _ => .fail
  | .le => match x, y with
    | .int i, .int j => .ok (.bl (decide (i ≤ j))) st
    | _, _ => .fail
  | .gt => match x, y with
    | .int i, .int j => .ok (.bl (decide (j < i))) st
    | _, _ => .fail
  | .ge => match x, y with
    | .int i, .int j => .ok (.bl (decide (j ≤ i))) st
    | _, _ => .fail
/-- a[i] -/
def subV (kt : List (List Val)) (x y : Val) (st : Store) : Res Val := match x with
  | .tup xs => match y with
    | .int i => match atI xs i with
      | some v => .ok v st
      | none => .fail
    | _ => .fail
  | .str z => match y with
    | .int i => if fits z.length then match atI z.cps.toList i with
      | some c => .ok (.str ⟨#[c]⟩) st
      | none => .fail else .fail
    | _ => .fail
  | .ref a => match st.m a with
    | some (.lst xs) => match y with
      | .int i => match atI xs i with
        | some v => .ok v st
        | none => .fail
      | _ => .fail
    | o => match dget kt o y with
      | some (some v) => .ok v st
      | _ => .fail
  | _ => .fail
def cutL {α : Type} (xs : List α) (lo hi : Option Int) : List α := (xs.drop (HT.sIx xs.length 0 lo)).take (HT.sIx xs.length xs.length hi - HT.sIx xs.length 0 lo)
def part : Option Val → Option (Option Int)
  | none => some none
  | some (.int i) => some (some i)
  | _ => none
/-- a[lo:hi] -/
def cutV (x : Val) (lo hi : Option Val) (st : Store) : Res Val := match part lo, part hi with
  | some l, some h => match x with
    | .tup xs => .ok (.tup (cutL xs l h)) st
    | .str z => if fits z.length then .ok (.str (cutS z l h)) st else .fail
    | .ref a => match st.m a with
      | some (.lst xs) => mk (.lst (cutL xs l h)) st
      | _ => .fail
    | _ => .fail
  | _, _ => .fail
/-- the items that a slice with a step picks -/
def pickL {α : Type} (xs : List α) (lo hi : Option Int) (k : Int) : List α :=
  (sliceRange (sliceBounds lo hi (some k) xs.length).1 (sliceBounds lo hi (some k) xs.length).2.1 (sliceBounds lo hi (some k) xs.length).2.2).filterMap (xs[·]?)
/-- a[lo:hi:k] of a list -/
def cut3V (k : Int) (x : Val) (lo hi : Option Val) (st : Store) : Res Val := match part lo, part hi with
  | some l, some h => match x with
    | .ref a => match st.m a with
      | some (.lst xs) => if k ≠ 0 ∧ fits (pickL xs l h k).length then mk (.lst (pickL xs l h k)) st else .fail
      | _ => .fail
    | _ => .fail
  | _, _ => .fail
/-- o[i] = v -/
def putV (kt : List (List Val)) (x y v : Val) (st : Store) : Res Val := match x with
  | .ref a => match st.m a with
    | some (.lst xs) => match y with
      | .int i => match ixN xs.length i with
        | some j => wr a (.lst (xs.set j v)) st
        | none => .fail
      | _ => .fail
    | some (.dK kvs) => match key1 y with
      | some k => if kvs.length < sizeLine then wr a (.dK (put kvs k v)) st else .fail
      | none => match keyT kt y with
        | some k => if kvs.isEmpty then wr a (.dT [(k, v)]) st else .fail
        | none => .fail
    | some (.dT kvs) => match keyT kt y with
      | some k => if kvs.length < sizeLine then wr a (.dT (put kvs k v)) st else .fail
      | none => .fail
    | _ => .fail
  | _ => .fail
def getF (fl : Nat → Str → Bool) (x : Val) (f : Str) (st : Store) : Res Val := match x with
  | .ref a => match st.m a with
    | some (.ins c fs) => if fl c f then match fs.lookup f with
      | some v => .ok v st
      | none => .fail else .fail
    | _ => .fail
  | _ => .fail
def setF (f : Str) (v : Val) : List (Str × Val) → List (Str × Val)
  | [] => [(f, v)]
  | (g, w) :: r => if g = f then (f, v) :: r else (g, w) :: setF f v r
def putF (fl : Nat → Str → Bool) (x : Val) (f : Str) (v : Val) (st : Store) : Res Val := match x with
  | .ref a => match st.m a with
    | some (.ins c fs) => if fl c f ∧ fs.length < 1000 then wr a (.ins c (setF f v fs)) st else .fail
    | _ => .fail
  | _ => .fail

/-! ### built-in functions and methods -/
inductive Bf where
  | len | abs | list | tuple | int | any | all | min2 | max2 | str | sorted | dict | set | divmod
  deriving DecidableEq
inductive Bm where
  | append | pop | count | index | extend
  deriving DecidableEq
def bools : List Val → Option (List Bool)
  | [] => some []
  | .bl b :: r => match bools r with
    | some bs => some (b :: bs)
    | none => none
  | _ => none
def intsO : List Val → Option (List Int)
  | [] => some []
  | .int i :: r => match intsO r with
    | some is => some (i :: is)
    | none => none
  | _ => none
def pairsO : List Val → Option (List (Key × Val))
  | [] => some []
  | .tup [k, v] :: r => match key1 k, pairsO r with
    | some k, some r => some ((k, v) :: r)
    | _, _ => none
  | _ => none
/-- the pairs of a zip, as a dict's -/
def zipK : List Val → List Val → Option (List (Key × Val))
  | x :: r, y :: s => match key1 x, zipK r s with
    | some k, some t => some ((k, y) :: t)
    | _, _ => none
  | _, _ => some []
def keysI : List (Key × Val) → Option (List Int)
  | [] => some []
  | (.inl k, _) :: r => match keysI r with
    | some ks => some (k :: ks)
    | none => none
  | _ => none
def merge (kvs more : List (Key × Val)) : List (Key × Val) := more.foldl (fun acc kv => put acc kv.1 kv.2) kvs
def bfn (b : Bf) (vs : List Val) (st : Store) : Res Val := match b, vs with
  | .len, [.str z] => if fits z.length then .ok (.int z.length) st else .fail
  | .len, [.tup xs] => .ok (.int xs.length) st
  | .len, [.ref a] => match st.m a with
    | some (.lst xs) => .ok (.int xs.length) st
    | some (.dK kvs) => if st.ro a then .fail else .ok (.int kvs.length) st
    | _ => .fail
  | .abs, [.int i] => .ok (.int (if i < 0 then -i else i)) st
  | .list, [.tup xs] => mk (.lst xs) st
  | .list, [.ref a] => match st.m a with
    | some (.lst xs) => mk (.lst xs) st
    | _ => .fail
  | .tuple, [.tup xs] => .ok (.tup xs) st
  | .tuple, [.ref a] => match st.m a with
    | some (.lst xs) => .ok (.tup xs) st
    | _ => .fail
  | .int, [.int i] => .ok (.int i) st
  | .int, [.bl k] => .ok (.int (if k then 1 else 0)) st
  | .any, [.ref a] => match st.m a with
    | some (.lst xs) => match bools xs with
      | some bs => .ok (.bl (bs.any id)) st
      | none => .fail
    | _ => .fail
  | .all, [.ref a] => match st.m a with
    | some (.lst xs) => match bools xs with
      | some bs => .ok (.bl (bs.all id)) st
      | none => .fail
    | _ => .fail
  | .min2, [.int i, .int j] => .ok (.int (if j < i then j else i)) st
  | .max2, [.int i, .int j] => .ok (.int (if j > i then j else i)) st
  | .str, [.int i] => if i.natAbs.log2 < 1920 then .ok (.str (toString i)) st else .fail
  | .sorted, [.ref a] => match st.m a with
    | some (.lst xs) => match intsO xs with
      | some is => mk (.lst ((is.mergeSort (fun i j => decide (i ≤ j))).map .int)) st
      | none => .fail
    | some (.dK kvs) => match keysI kvs with
      | some ks => if ks.length < 64 then mk (.lst ((ks.mergeSort (fun i j => decide (i ≤ j))).map .int)) st else .fail
      | none => .fail
    | _ => .fail
  | .dict, [.ref a] => match st.m a with
    | some (.lst xs) => match pairsO xs with
      | some kvs => mk (.dK (merge [] kvs)) st
      | none => .fail
    | some (.dK kvs) => mk (.dK kvs) st
    | _ => .fail
  | .divmod, [.int i, .int j] => if 0 < j ∧ j < 1073741824 then .ok (.tup [.int (i / j), .int (i % j)]) st else .fail
  | _, _ => .fail
/-- texts -/
def strsO : List Val → Option (List Str)
  | [] => some []
  | .str x :: r => match strsO r with
    | some xs => some (x :: xs)
    | none => none
  | _ => none
/-- methods of texts -/
inductive Sm where
  | join | split | starts
  deriving DecidableEq
def smJoin (z : Str) (y : Val) (st : Store) : Res Val := match y with
  | .ref p => match st.m p with
    | some (.lst ys) => match strsO ys with
      | some ws => if (ws.map (·.length)).sum + ws.length * z.length ≤ 16777216 then .ok (.str (Txt.join z ws)) st else .fail
      | none => .fail
    | _ => .fail
  | _ => .fail
def smSplit (z : Str) (y : Val) (st : Store) : Res Val := match y with
  | .str w => if (w.length == 0) = false ∧ z.length + 2 ≤ sizeLine then mk (.lst ((Txt.split z w).map .str)) st else .fail
  | _ => .fail
def smStarts (z : Str) (y : Val) (st : Store) : Res Val := match y with
  | .str w => .ok (.bl (Txt.startswith z w)) st
  | _ => .fail
def smt (m : Sm) (z : Str) (y : Val) (st : Store) : Res Val := match m with
  | .join => smJoin z y st
  | .split => smSplit z y st
  | .starts => smStarts z y st
def bmt (b : Bm) (x : Val) (vs : List Val) (st : Store) : Res Val := match x with
  | .ref a => match b, vs, st.m a with
    | .append, [v], some (.lst xs) => if xs.length < sizeLine then wr a (.lst (xs ++ [v])) st else .fail
    | .extend, [.ref c], some (.lst xs) => match st.m c with
      | some (.lst zs) => if st.ro c = false ∧ xs.length + zs.length ≤ sizeLine then wr a (.lst (xs ++ zs)) st else .fail
      | _ => .fail
    | .pop, [], some (.lst xs) => match xs.getLast? with
      | some v => (wr a (.lst xs.dropLast) st).bind fun _ st => .ok v st
      | none => .fail
    | .count, [v], some (.lst _) => match dat st deep v, dat st deep (.ref a) with
      | some d, some (.list ds) => if SeqAt.shaped d && SeqAt.shaped (.list ds) then .ok (.int (ds.countP fun z => PyData.eqv z d : Nat)) st else .fail
      | _, _ => .fail
    | .index, [v], some (.lst _) => match dat st deep v, dat st deep (.ref a) with
      | some d, some (.list ds) => if SeqAt.shaped d && SeqAt.shaped (.list ds) then match ds.findIdx? fun z => PyData.eqv z d with
        | some j => .ok (.int (j : Nat)) st
        | none => .fail else .fail
      | _, _ => .fail
    | _, _, _ => .fail
  | _ => .fail
/-- kinds for isinstance -/
inductive Ty where
  | int | bool | str | list | tuple | dict | cls (c : Nat)
  deriving DecidableEq
def isT (st : Store) (v : Val) (t : Ty) : Option Bool := match v with
  | .non => some false
  | .bl _ => some (t = .int || t = .bool)
  | .int _ => some (t = .int)
  | .str _ => some (t = .str)
  | .tup _ => some (t = .tuple)
  | .ref i => match st.m i with
    | some (.lst _) => some (t = .list)
    | some (.dK _) => some (t = .dict)
    | some (.dT _) => if st.ro i then none else some (t = .dict)
    | _ => none

/-! ### the text -/
/-- a comprehension's or for's target -/
inductive Tg where
  | one (i : Nat) | many (is : List Nat)
mutual
inductive E where
  | v (i : Nat) | int (i : Int) | str (x : Str) | bl (b : Bool) | non
  | gl (g : Nat)
  | tup (es : Es) | lst (es : Es) | dic (ps : Ps)
  | neg (a : E)
  | bin (o : Bop) (a b : E)
  | cmp (o : Cop) (a b : E)
  | cm2 (o p : Cop) (a b c : E)
  | isN (a : E) | noN (a : E)
  | and (a b : E) | or (a b : E) | not (a : E)
  | ite (c : B) (a b : E)
  | sub (a i : E)
  | cut (a : E) (lo hi : Eo)
  | cut3 (a : E) (lo hi : Eo) (k : Int)
  | fld (a : E) (f : Str)
  | call (f : Nat) (es : Es)
  | make (c : Nat) (es : Es)
  | met (a : E) (m : Str) (es : Es)
  | bm (b : Bm) (a : E) (es : Es)
  | sm (m : Sm) (a e : E)
  | bf (b : Bf) (es : Es)
  | isi (a : E) (t : Ty)
  | isX (a : E) (ks : List (Option Nat)) (m : Bool)
  | xfld (a : E) (f : Str)
  | lc (t : Tg) (w : I) (c : B) (e : E)
  | lzip (a b : E)
  | lrg1 (a : E) | lrg2 (a b : E)
  | dcall (f : Nat) | sset (a : E) | get2 (a k f : E) | dzip (a b : E)
  | bad
inductive Es where
  | nil | cons (e : E) (es : Es)
inductive Eo where
  | no | so (e : E)
inductive Ps where
  | nil | cons (k v : E) (ps : Ps)
/-- a test -/
inductive B where
  | yes | of (e : E) | and (a b : B) | or (a b : B) | not (a : B)
inductive I where
  | of (e : E) | rg1 (a : E) | rg2 (a b : E) | rg3 (a b k : E) | enu (e : E) | zip (a b : E)
end
/-- a target of an assignment -/
inductive T where
  | one (i : Nat) | sub (o i : E) | fld (o : E) (f : Str)
mutual
/-- an expression that may raise -/
inductive XE where
  | pu (e : E) | fn (f : Nat) (xs : XEs) | met (a : E) (m : Str) (xs : XEs)
  | tup (xs : XEs) | cmp (o : Cop) (x y : XE) | app (a : E) (x : XE)
inductive XEs where
  | nil | cons (x : XE) (xs : XEs)
end
mutual
inductive S where
  | asg (t : T) (e : E)
  | asT (ts : List T) (e : E)
  | par (is : List Nat) (es : Es)
  | aug (i : Nat) (o : Bop) (e : E)
  | aus (a i : E) (o : Bop) (e : E)
  | auf (a : E) (f : Str) (o : Bop) (e : E)
  | ex (e : E)
  | ret (e : E) | rtN
  | cond (c : B) (a b : Ss)
  | whl (c : B) (b : Ss)
  | for (t : Tg) (w : I) (b : Ss)
  | pass | brk | cnt | bad
  | exX (x : XE) | asX (i : Nat) (x : XE) | retX (x : XE) | rse (k : Nat) (e : Option E) | tryK (dst : Option Nat) (x : XE) (k n w : Nat)
  | condX (x : XE) (a b : Ss)
inductive Ss where
  | nil | cons (s : S) (ss : Ss)
end
structure FDef where
  np : Nat
  nl : Nat
  body : Ss
structure Prog where
  fn : Nat → Option FDef
  /-- a class's method -/
  mt : Nat → Str → Option Nat
  /-- its __init__ -/
  ini : Nat → Option Nat
  gl : Nat → Option Val
  /-- a class's fields -/
  fl : Nat → Str → Bool
  /-- what the module's own tuples hold -/
  kt : List (List Val)
  /-- own error classes, one under the other -/
  xs : Nat → Nat → Bool
  /-- their one field -/
  xf : Str

/-! ### the run -/
structure Ctx where
  G : Prog
  call : Nat → List Val → Store → Res Val
  init : Nat → List Val → Store → Res Val
  fuel : Nat
  /-- so many calls more -/
  dp : Nat
inductive Fl where
  | nx (s : Env) | rt (v : Val) | bk (s : Env) | ct (s : Env)
/-- what is watched through a walk: lists that must stay as they were -/
abbrev Watch := List (Nat × List Val)
def Store.sees (st : Store) : Watch → Bool
  | [] => true
  | (i, xs) :: r => decide (st.m i = some (.lst xs)) && st.sees r
def lcLoop (D : Nat) (w : Watch) (f : Val → Store → Res (Option Val)) : List Val → Store → Res Val
  | [], st => if st.sees w then .ok (.ref D) st else .fail
  | x :: r, st => if st.sees w then (f x st).bind fun o st => match o with
      | none => lcLoop D w f r st
      | some v => (bmt .append (.ref D) [v] st).bind fun _ st => lcLoop D w f r st
    else .fail
def forLoop (w : Watch) (f : Val → Env → Store → Res Fl) : List Val → Env → Store → Res Fl
  | [], s, st => if st.sees w then .ok (.nx s) st else .fail
  | x :: r, s, st => if st.sees w then (f x s st).bind fun fl st => match fl with
      | .nx s => forLoop w f r s st
      | .ct s => forLoop w f r s st
      | .bk s => .ok (.nx s) st
      | .rt v => .ok (.rt v) st
    else .fail
def whlLoop (t : Env → Store → Res Bool) (b : Env → Store → Res Fl) : Nat → Env → Store → Res Fl
  | 0, _, _ => .fail
  | n + 1, s, st => (t s st).bind fun c st => if c then (b s st).bind fun fl st => match fl with
      | .nx s => whlLoop t b n s st
      | .ct s => whlLoop t b n s st
      | .bk s => .ok (.nx s) st
      | .rt v => .ok (.rt v) st
    else .ok (.nx s) st
def setAll : List Nat → List Val → Env → Option Env
  | [], [], s => some s
  | i :: is, v :: vs, s => setAll is vs (s.set i (some v))
  | _, _, _ => none
/-- the items of a tuple or list -/
def itemsOf (v : Val) (st : Store) : Option (List Val) := match v with
  | .tup xs => some xs
  | .ref i => st.lst i
  | _ => none
def setTg (t : Tg) (v : Val) (s : Env) : Option Env := match t with
  | .one i => some (s.set i (some v))
  | .many is => match v with
    | .tup xs => setAll is xs s
    | _ => none
/-- a loop's turn: the target, then the rest -/
def onTg (t : Tg) (k : Env → Store → Res Fl) (x : Val) (s : Env) (st : Store) : Res Fl := match setTg t x s with
  | some s => k s st
  | none => .fail
/-- a comprehension's turn: the target, the test, the element -/
def onLc (t : Tg) (b : Env → Store → Res Bool) (e : Env → Store → Res Val) (s : Env) (x : Val) (st : Store) : Res (Option Val) := match setTg t x s with
  | none => .fail
  | some s' => (b s' st).bind fun k st => if k then (e s' st).bind fun v st => .ok (some v) st else .ok none st
/-- the next statement, if there is one to come -/
def thenF (k : Env → Store → Res Fl) (fl : Fl) (st : Store) : Res Fl := match fl with
  | .nx s => k s st
  | fl => .ok fl st
def endF (fl : Fl) (st : Store) : Res Val := match fl with
  | .nx _ => .ok .non st
  | .rt v => .ok v st
  | _ => .fail
def rangeL (lo : Int) : Nat → List Val
  | 0 => []
  | n + 1 => .int lo :: rangeL (lo + 1) n
/-- range with a step -/
def rangeC (lo c : Int) : Nat → List Val
  | 0 => []
  | n + 1 => .int lo :: rangeC (lo + c) c n
def rgC (i j k : Int) (n : Nat) : Bool := decide (k ≠ 0) && decide (k.natAbs < 1073741824) && Builtin.Range.small i j k && decide (Builtin.Range.rangeSize i j k = (n : Int))
def enumL (k : Int) : List Val → List Val
  | [] => []
  | x :: r => .tup [.int k, x] :: enumL (k + 1) r
def zipL : List Val → List Val → List Val
  | x :: r, y :: s => .tup [x, y] :: zipL r s
  | _, _ => []
def small62 (i : Int) : Bool := decide (-(2 ^ 62) ≤ i) && decide (i < 2 ^ 62)
def small24 (i j : Int) : Bool := small62 i && small62 j && decide ((j - i).toNat ≤ 16777216)
def okO (o : Option Bool) (st : Store) : Res Bool := match o with
  | some b => .ok b st
  | none => .fail
def keyed : List (Val × Val) → Option (List (Key × Val))
  | [] => some []
  | (k, v) :: r => match key1 k, keyed r with
    | some k, some r => some ((k, v) :: r)
    | _, _ => none
/-- what a walk over a value goes through -/
def walkOf (v : Val) (st : Store) : Res (List Val × Watch) := match v with
  | .tup xs => .ok (xs, []) st
  | .str z => .ok (z.cps.toList.map fun c => .str ⟨#[c]⟩, []) st
  | .ref i => match st.m i with
    | some (.lst xs) => .ok (xs, [(i, xs)]) st
    | _ => .fail
  | _ => .fail
/-- what is watched of a value that is walked -/
def wOf (v : Val) (xs : List Val) : Watch := match v with
  | .ref i => [(i, xs)]
  | _ => []
/-- a def that gives a tuple as it is written -/
def litX : S → Bool
  | .par _ _ => true
  | .asT _ _ => true
  | _ => false
def litB : Ss → Bool
  | .cons x (.cons (.ret (.tup _)) .nil) => litX x
  | _ => false
def litF (G : Prog) (f : Nat) : Bool := match G.fn f with
  | some fd => litB fd.body && decide (fd.np = 0)
  | none => false
/-- dict of such a tuple -/
def dictT (v : Val) (st : Store) : Res Val := match v with
  | .tup xs => match pairsO xs with
    | some kvs => mk (.dK (merge [] kvs)) st
    | none => .fail
  | _ => .fail
def uniqI : List Int → List Int
  | [] => []
  | x :: r => if x ∈ r then uniqI r else x :: uniqI r
/-- sorted(set(..)) of a tuple of ints -/
def ssetV (v : Val) (st : Store) : Res Val := match v with
  | .tup xs => match intsO xs with
    | some is => if is.length < 60 then mk (.lst (((uniqI is).mergeSort (fun i j => decide (i ≤ j))).map .int)) st else .fail
    | none => .fail
  | _ => .fail
/-- isinstance of an error of an own class: none: a ValueError -/
def isXo (xs : Nat → Nat → Bool) : List (Option Nat) → Bool
  | [] => true
  | none :: r => isXo xs r
  | some k :: r => xs k k && isXo xs r
def isX1 (xs : Nat → Nat → Bool) (k' : Nat) : Option Nat → Bool
  | none => true
  | some k => xs k' k
def isXV (xs : Nat → Nat → Bool) (st : Store) (v : Val) (ks : List (Option Nat)) : Option Bool := match v with
  | .non => if isXo xs ks then some false else none
  | .ref i => match st.m i with
    | some (.exc k' _) => if xs k' k' && isXo xs ks then some (ks.any (isX1 xs k')) else none
    | _ => none
  | _ => none
mutual
def ev (c : Ctx) : E → Env → Store → Res Val
  | .v i, s, st => match s[i]? with
    | some (some v) => .ok v st
    | _ => .fail
  | .int i, _, st => .ok (.int i) st
  | .str x, _, st => .ok (.str x) st
  | .bl b, _, st => .ok (.bl b) st
  | .non, _, st => .ok .non st
  | .gl g, _, st => match c.G.gl g with
    | some v => .ok v st
    | none => .fail
  | .tup es, s, st => (evs c es s st).bind mkT
  | .lst es, s, st => (evs c es s st).bind mkL
  | .dic ps, s, st => (evp c ps s (st.new (.dK []))).bind fun ps st' => match keyed ps with
    | some kvs => if st'.m st.n = some (.dK []) ∧ kvs.length ≤ 15 then (wr st.n (.dK (merge [] kvs)) st').bind fun _ st2 => .ok (.ref st.n) st2 else .fail
    | none => .fail
  | .neg a, s, st => (ev c a s st).bind fun x st => match x with
    | .int i => .ok (.int (-i)) st
    | _ => .fail
  | .bin o a b, s, st => (ev c a s st).bind fun x st => (ev c b s st).bind fun y st => bop o x y st
  | .cmp o a b, s, st => (ev c a s st).bind fun x st => (ev c b s st).bind fun y st => cop c.G.kt o x y st
  | .cm2 o p a b d, s, st => (ev c a s st).bind fun x st => (ev c b s st).bind fun y st => (cop c.G.kt o x y st).bind fun z st => match z with
    | .bl true => (ev c d s st).bind fun u st => cop c.G.kt p y u st
    | .bl false => .ok (.bl false) st
    | _ => .fail
  | .isN a, s, st => (ev c a s st).bind fun x st => .ok (.bl (match x with | .non => true | _ => false)) st
  | .noN a, s, st => (ev c a s st).bind fun x st => .ok (.bl (match x with | .non => false | _ => true)) st
  | .and a b, s, st => (ev c a s st).bind fun x st => match x with
    | .bl true => ev c b s st
    | .bl false => .ok (.bl false) st
    | .int i => if i = 0 then .ok (.int i) st else ev c b s st
    | _ => .fail
  | .or a b, s, st => (ev c a s st).bind fun x st => match x with
    | .bl true => .ok (.bl true) st
    | .bl false => ev c b s st
    | .int i => if i = 0 then ev c b s st else .ok (.int i) st
    | _ => .fail
  | .not a, s, st => (ev c a s st).bind fun x st => match x with
    | .bl b => .ok (.bl (!b)) st
    | _ => .fail
  | .ite t a b, s, st => (ts c t s st).bind fun k st => if k then ev c a s st else ev c b s st
  | .sub a i, s, st => (ev c a s st).bind fun x st => (ev c i s st).bind fun y st => subV c.G.kt x y st
  | .cut a lo hi, s, st => (ev c a s st).bind fun x st => (evo c lo s st).bind fun l st => (evo c hi s st).bind fun h st => cutV x l h st
  | .cut3 a lo hi k, s, st => (ev c a s st).bind fun x st => (evo c lo s st).bind fun l st => (evo c hi s st).bind fun h st => cut3V k x l h st
  | .fld a f, s, st => (ev c a s st).bind fun x st => getF c.G.fl x f st
  | .call f es, s, st => (evs c es s st).bind fun vs st => c.call f vs st
  | .make k es, s, st => (evs c es s st).bind fun vs st => match c.G.ini k with
    | some f => (c.init f (.ref st.n :: vs) (st.new (.ins k []))).bind fun v st' => match v with
      | .non => .ok (.ref st.n) st'
      | _ => .fail
    | none => .fail
  | .met a m es, s, st => (ev c a s st).bind fun x st => match x with
    | .ref i => match st.m i with
      | some (.ins k fs) => if fs.lookup m = none then match c.G.mt k m with
        | some f => (evs c es s st).bind fun vs st => c.call f (.ref i :: vs) st
        | none => .fail else .fail
      | _ => .fail
    | _ => .fail
  | .bm b a es, s, st => (ev c a s st).bind fun x st => match x with
    | .ref i => match st.m i with
      | some (.lst _) => (evs c es s st).bind fun vs st => bmt b x vs st
      | _ => .fail
    | _ => .fail
  | .bf b es, s, st => (evs c es s st).bind fun vs st => bfn b vs st
  | .sm m a e, s, st => (ev c a s st).bind fun x st => match x with
    | .str z => (ev c e s st).bind fun y st => smt m z y st
    | _ => .fail
  | .isi a t, s, st => (ev c a s st).bind fun x st => okB (isT st x t) st
  | .xfld a f, s, st => (ev c a s st).bind fun x st => match x with
    | .ref i => match st.m i with
      | some (.exc k fs) => if decide (f = c.G.xf) && c.G.xs k k then match fs.lookup f with
        | some v => .ok v st
        | none => .fail else .fail
      | _ => .fail
    | _ => .fail
  | .isX a ks _, s, st => (ev c a s st).bind fun x st => okB (isXV c.G.xs st x ks) st
  | .lc t w k e, s, st => (evw c w s st).bind fun p st => lcLoop st.n p.2 (onLc t (fun s st => ts c k s st) (fun s st => ev c e s st) s) p.1 (st.new (.lst []))
  | .lzip a b, s, st => (ev c a s st).bind fun x st => (ev c b s st).bind fun y st => match itemsOf x st, itemsOf y st with
    | some xs, some ys => mk (.lst (zipL xs ys)) st
    | _, _ => .fail
  | .lrg1 a, s, st => (ev c a s st).bind fun x st => match x with
    | .int j => if small24 0 j then mk (.lst (rangeL 0 j.toNat)) st else .fail
    | _ => .fail
  | .lrg2 a b, s, st => (ev c a s st).bind fun x st => (ev c b s st).bind fun y st => match x, y with
    | .int i, .int j => if small24 i j then mk (.lst (rangeL i (j - i).toNat)) st else .fail
    | _, _ => .fail
  | .dcall f, _, st => if litF c.G f then (c.call f [] st).bind dictT else .fail
  | .sset a, s, st => (ev c a s st).bind ssetV
  | .get2 a k f, s, st => (ev c a s st).bind fun x st => match x with
    | .ref i => match st.m i with
      | some (.dK _) => (ev c k s st).bind fun y st => (ev c f s st).bind fun z st => match dget c.G.kt (st.m i) y with
        | some o => .ok (o.getD z) st
        | none => .fail
      | _ => .fail
    | _ => .fail
  | .dzip a b, s, st => (ev c a s st).bind fun x st => (ev c b s st).bind fun y st => match x, y with
    | .ref i, .ref j => match st.m i, st.m j with
      | some (.lst xs), some (.lst ys) => match zipK xs ys with
        | some kvs => mk (.dK (merge [] kvs)) st
        | none => .fail
      | _, _ => .fail
    | _, _ => .fail
  | .bad, _, _ => .fail
def evs (c : Ctx) : Es → Env → Store → Res (List Val)
  | .nil, _, st => .ok [] st
  | .cons e es, s, st => (ev c e s st).bind fun v st => (evs c es s st).bind fun vs st => .ok (v :: vs) st
def evo (c : Ctx) : Eo → Env → Store → Res (Option Val)
  | .no, _, st => .ok none st
  | .so e, s, st => (ev c e s st).bind fun v st => .ok (some v) st
/-- a dict display, pair by pair -/
def evp (c : Ctx) : Ps → Env → Store → Res (List (Val × Val))
  | .nil, _, st => .ok [] st
  | .cons k v ps, s, st => (ev c k s st).bind fun x st => (ev c v s st).bind fun y st => (evp c ps s st).bind fun r st => .ok ((x, y) :: r) st
/-- a test -/
def ts (c : Ctx) : B → Env → Store → Res Bool
  | .yes, _, st => .ok true st
  | .and a b, s, st => (ts c a s st).bind fun k st => if k then ts c b s st else .ok false st
  | .or a b, s, st => (ts c a s st).bind fun k st => if k then .ok true st else ts c b s st
  | .not a, s, st => (ts c a s st).bind fun k st => .ok (!k) st
  | .of e, s, st => (ev c e s st).bind fun v st => okO (tru st v) st
def evw (c : Ctx) : I → Env → Store → Res (List Val × Watch)
  | .of e, s, st => (ev c e s st).bind fun v st => walkOf v st
  | .rg1 a, s, st => (ev c a s st).bind fun x st => match x with
    | .int j => if small62 j then .ok (rangeL 0 j.toNat, []) st else .fail
    | _ => .fail
  | .rg2 a b, s, st => (ev c a s st).bind fun x st => (ev c b s st).bind fun y st => match x, y with
    | .int i, .int j => if small62 i && small62 j then .ok (rangeL i (j - i).toNat, []) st else .fail
    | _, _ => .fail
  | .rg3 a b k, s, st => (ev c a s st).bind fun x st => (ev c b s st).bind fun y st => (ev c k s st).bind fun z st => match x, y, z with
    | .int i, .int j, .int k => if rgC i j k (Builtin.Range.rangeSize i j k).toNat then .ok (rangeC i k (Builtin.Range.rangeSize i j k).toNat, []) st else .fail
    | _, _, _ => .fail
  | .enu e, s, st => (ev c e s st).bind fun v st => match v with
    | .tup xs => .ok (enumL 0 xs, []) st
    | .ref i => match st.m i with
      | some (.lst xs) => .ok (enumL 0 xs, [(i, xs)]) st
      | _ => .fail
    | _ => .fail
  | .zip a b, s, st => (ev c a s st).bind fun x st => (ev c b s st).bind fun y st => match itemsOf x st, itemsOf y st with
    | some xs, some ys => .ok (zipL xs ys, wOf x xs ++ wOf y ys) st
    | _, _ => .fail
end

/-- one target gets a value -/
def asg1 (c : Ctx) (t : T) (v : Val) (s : Env) (st : Store) : Res Env := match t with
  | .one i => .ok (s.set i (some v)) st
  | .sub o i => (ev c o s st).bind fun x st => (ev c i s st).bind fun y st => (putV c.G.kt x y v st).bind fun _ st => .ok s st
  | .fld o f => (ev c o s st).bind fun x st => (putF c.G.fl x f v st).bind fun _ st => .ok s st
def asgs (c : Ctx) : List T → List Val → Env → Store → Res Env
  | [], [], s, st => .ok s st
  | t :: ts, v :: vs, s, st => (asg1 c t v s st).bind fun s st => asgs c ts vs s st
  | _, _, _, _ => .fail
def clsOf (x : Val) (st : Store) : Option Nat := match x with
  | .ref a => match st.m a with
    | some (.ins c _) => some c
    | _ => none
  | _ => none
/-- a dict's item, got and put -/
def getD (kt : List (List Val)) (x y : Val) (st : Store) : Res Val := match x with
  | .ref a => match dget kt (st.m a) y with
    | some (some v) => .ok v st
    | _ => .fail
  | _ => .fail
def putD (kt : List (List Val)) (x y v : Val) (st : Store) : Res Val := match x with
  | .ref a => match st.m a with
    | some (.dK kvs) => match key1 y with
      | some k => if kvs.length < sizeLine then wr a (.dK (put kvs k v)) st else .fail
      | none => .fail
    | some (.dT kvs) => match keyT kt y with
      | some k => if kvs.length < sizeLine then wr a (.dT (put kvs k v)) st else .fail
      | none => .fail
    | _ => .fail
  | _ => .fail
/-- x op= y -/
def iop (o : Bop) (x y : Val) (st : Store) : Res Val := match o, x, y with
  | .add, .int i, .int j => .ok (.int (i + j)) st
  | .sub, .int i, .int j => .ok (.int (i - j)) st
  | _, _, _ => .fail
mutual
/-- an expression that may raise -/
def evX (c : Ctx) : XE → Env → Store → Res Val
  | .pu e, s, st => noex (ev c e s st)
  | .fn f xs, s, st => if (c.G.fn f).isSome then (evXs c xs s st).bind fun vs st => c.call f vs st else .fail
  | .met a m xs, s, st => (noex (ev c a s st)).bind fun x st => match x with
    | .ref i => match st.m i with
      | some (.ins k fs) => if fs.lookup m = none then match c.G.mt k m with
        | some f => (evXs c xs s st).bind fun vs st => c.call f (.ref i :: vs) st
        | none => .fail else .fail
      | _ => .fail
    | _ => .fail
  | .tup xs, s, st => (evXs c xs s st).bind mkT
  | .cmp o x y, s, st => (evX c x s st).bind fun u st => (evX c y s st).bind fun v st => noex (cop c.G.kt o u v st)
  | .app a x, s, st => (noex (ev c a s st)).bind fun o st => match o with
    | .ref i => match st.m i with
      | some (.lst _) => (evX c x s st).bind fun v st => noex (bmt .append (.ref i) [v] st)
      | _ => .fail
    | _ => .fail
def evXs (c : Ctx) : XEs → Env → Store → Res (List Val)
  | .nil, _, st => .ok [] st
  | .cons x xs, s, st => (evX c x s st).bind fun v st => (evXs c xs s st).bind fun vs st => .ok (v :: vs) st
end
mutual
def exec (c : Ctx) : S → Env → Store → Res Fl
  | .asg t e, s, st => noex ((ev c e s st).bind fun v st => (asg1 c t v s st).bind fun s st => .ok (.nx s) st)
  | .asT ts e, s, st => noex ((ev c e s st).bind fun v st => match itemsOf v st with
    | some xs => (asgs c ts xs s st).bind fun s st => .ok (.nx s) st
    | none => .fail)
  | .par is es, s, st => noex ((evs c es s st).bind fun vs st => match setAll is vs s with
    | some s => .ok (.nx s) st
    | none => .fail)
  | .aug i o e, s, st => match s[i]? with
    | some (some x) => noex ((ev c e s st).bind fun y st => (iop o x y st).bind fun z st => .ok (.nx (s.set i (some z))) st)
    | _ => .fail
  | .aus a i o e, s, st => noex ((ev c a s st).bind fun x st => (ev c i s st).bind fun y st => (getD c.G.kt x y st).bind fun old st => (ev c e s st).bind fun v st =>
      (iop o old v st).bind fun z st => (putD c.G.kt x y z st).bind fun _ st => .ok (.nx s) st)
  | .auf a f o e, s, st => noex ((ev c a s st).bind fun x st1 => (getF c.G.fl x f st1).bind fun old st => (ev c e s st).bind fun v st =>
      (iop o old v st).bind fun z st => if clsOf x st = clsOf x st1 then (putF c.G.fl x f z st).bind fun _ st => .ok (.nx s) st else .fail)
  | .ex e, s, st => noex ((ev c e s st).bind fun _ st => .ok (.nx s) st)
  | .ret e, s, st => noex ((ev c e s st).bind fun v st => .ok (.rt v) st)
  | .rtN, _, st => .ok (.rt .non) st
  | .cond t a b, s, st => (noex (ts c t s st)).bind fun k st => if k then execs c a s st else execs c b s st
  | .whl t b, s, st => whlLoop (fun s st => noex (ts c t s st)) (fun s st => execs c b s st) c.fuel s st
  | .for t w b, s, st => (noex (evw c w s st)).bind fun p st => forLoop p.2 (onTg t fun s st => execs c b s st) p.1 s st
  | .pass, s, st => .ok (.nx s) st
  | .brk, s, st => .ok (.bk s) st
  | .cnt, s, st => .ok (.ct s) st
  | .bad, _, _ => .fail
  | .exX x, s, st => (evX c x s st).bind fun _ st => .ok (.nx s) st
  | .asX i x, s, st => (evX c x s st).bind fun v st => .ok (.nx (s.set i (some v))) st
  | .retX x, s, st => (evX c x s st).bind fun v st => .ok (.rt v) st
  | .rse k e, s, st => if c.G.xs k k && decide (2 ≤ c.dp) then match e with
    | none => .ex k [(c.G.xf, .int 0)] st
    | some e => (noex (ev c e s st)).bind fun v st => match v with
      | .int i => .ex k [(c.G.xf, .int i)] st
      | _ => .fail
    else .fail
  | .tryK dst x k n w, s, st => if c.G.xs k k then match evX c x s st with
    | .ok v st => .ok (.nx (match dst with
      | some i => s.set i (some v)
      | none => s)) st
    | .ex k' fs st => if c.G.xs k' k && c.G.xs k' k' then .ok (.nx ((s.set w (some (.ref st.n))).set n none)) (st.newR (.exc k' fs)) else .fail
    | .fail => .fail else .fail
  | .condX x a b, s, st => (evX c x s st).bind fun v st => match v with
    | .bl k => if k then execs c a s st else execs c b s st
    | _ => .fail
def execs (c : Ctx) : Ss → Env → Store → Res Fl
  | .nil, s, st => .ok (.nx s) st
  | .cons x r, s, st => (exec c x s st).bind (thenF fun s st => execs c r s st)
end
/-- a def's run -/
def runF (c : Ctx) (d : FDef) (vs : List Val) (st : Store) : Res Val :=
  if vs.length = d.np then (execs c d.body (vs.map some ++ List.replicate (d.nl - d.np) none) st).bind endF
  else .fail
/-- the calls, at most d and d - 1 calls deep -/
def calls (G : Prog) (fuel : Nat) : Nat → (Nat → List Val → Store → Res Val) × (Nat → List Val → Store → Res Val)
  | 0 => (fun _ _ _ => .fail, fun _ _ _ => .fail)
  | d + 1 => (fun f vs st => match G.fn f with
    | some fd => runF ⟨G, (calls G fuel d).1, (calls G fuel d).2, fuel, d⟩ fd vs st
    | none => .fail, (calls G fuel d).1)
/-- a call, at most d calls deep -/
def callN (G : Prog) (fuel d : Nat) : Nat → List Val → Store → Res Val := (calls G fuel d).1
/-- what a def of d more calls runs with -/
def cxN (G : Prog) (fuel d : Nat) : Ctx := ⟨G, (calls G fuel d).1, (calls G fuel d).2, fuel, d⟩
theorem callN_succ (G : Prog) (fuel d f : Nat) (vs : List Val) (st : Store) : callN G fuel (d + 1) f vs st = match G.fn f with
    | some fd => runF (cxN G fuel d) fd vs st
    | none => .fail := rfl
end CL

/-! CL, part b: what a value and a store stand for -/
namespace CL
open PySem L2

/-- a tuple's place: tracked, or the module's own -/
def SqW (K : PySem.W.Frag) (kt : List (List Val)) (H : Hp) (a : Addr) (xs : List Val) (ys : List V) : Prop :=
  H a = some (.tup ys) ∨ (xs ∈ kt ∧ ∃ (o : Obj) (its : Array Value) (n : Nat), K.lookup a = some o ∧ o.cls = .type "tuple" ∧ o.data = .seq its n ∧ its.size ≤ sizeLine ∧ Vals ys its.toList)
section
variable (K : PySem.W.Frag) (kt : List (List Val)) (io : Nat → Addr) (n : Nat) (H : Hp)
mutual
inductive RV : Val → V → Prop
  | non : RV .non .non
  | bl (b : Bool) : RV (.bl b) (.bl b)
  | int (i : Int) : RV (.int i) (.int i)
  | str (x : Str) : RV (.str x) (.str x)
  | tup {xs : List Val} {a : Addr} {ys : List V} : SqW K kt H a xs ys → RVs xs ys → RV (.tup xs) (.ref a)
  | ref {i : Nat} : i < n → RV (.ref i) (.ref (io i))
inductive RVs : List Val → List V → Prop
  | nil : RVs [] []
  | cons {x : Val} {y : V} {xs : List Val} {ys : List V} : RV x y → RVs xs ys → RVs (x :: xs) (y :: ys)
end
/-- dicts' pairs, instances' fields -/
inductive RKs {κ : Type} : List (κ × Val) → List (κ × V) → Prop
  | nil : RKs [] []
  | cons {k : κ} {x : Val} {y : V} {xs : List (κ × Val)} {ys : List (κ × V)} : RV K kt io n H x y → RKs xs ys → RKs ((k, x) :: xs) ((k, y) :: ys)
/-- a list that is read alone -/
def SqR (K : PySem.W.Frag) (H : Hp) (a : Addr) (xs : List V) : Prop :=
  (∃ o, H a = some (.frz o (.lst xs))) ∨
    ∃ (o : Obj) (its : Array Value) (n : Nat), K.lookup a = some o ∧ o.cls = .type "list" ∧ o.dict = none ∧ o.data = .seq its n ∧ its.size ≤ sizeLine ∧ Vals xs its.toList
inductive RO (ca : Nat → Addr) : Bool → Addr → Ob → Prop
  | lst {a : Addr} {xs : List Val} {ys : List V} : H a = some (.lst ys) → RVs K kt io n H xs ys → RO ca false a (.lst xs)
  | lstR {a : Addr} {xs : List Val} {ys : List V} : SqR K H a ys → RVs K kt io n H xs ys → RO ca true a (.lst xs)
  | dK {a : Addr} {kvs : List (Key × Val)} {kws : List (Key × V)} : H a = some (.dK kws) → RKs K kt io n H kvs kws → RO ca false a (.dK kvs)
  | dKR {a : Addr} {o : Obj} {kvs : List (Key × Val)} {kws : List (Key × V)} : H a = some (.frz o (.dK kws)) → RKs K kt io n H kvs kws → RO ca true a (.dK kvs)
  | dT {a : Addr} {kvs : List (List Key × Val)} {kws : List (List Key × V)} : H a = some (.dT kws) → RKs K kt io n H kvs kws → RO ca false a (.dT kvs)
  | dTR {a : Addr} {o : Obj} {kvs : List (List Key × Val)} {kws : List (List Key × V)} : H a = some (.frz o (.dT kws)) → RKs K kt io n H kvs kws → RO ca true a (.dT kvs)
  | ins {a dx : Addr} {c : Nat} {fs : List (Str × Val)} {gs : List (Str × V)} : H a = some (.ins (ca c) dx gs) → RKs K kt io n H fs gs → RO ca false a (.ins c fs)
  | exc {a dx : Addr} {c : Nat} {fs : List (Str × Val)} {gs : List (Str × V)} {o od : Obj} {u : HO} : H a = some (.frz o u) → o.cls = .ref (ca c) → o.dict = some dx → (∃ vs, o.data = .fields vs) → H dx = some (.frz od (.xd gs)) → RKs K kt io n H fs gs → RO ca true a (.exc c fs)
end
structure Rl (K : PySem.W.Frag) (kt : List (List Val)) (ca io : Nat → Addr) (st : Store) (H : Hp) : Prop where
  ob : ∀ i, i < st.n → ∃ o, st.m i = some o ∧ RO K kt io st.n H ca (st.ro i) (io i) o
  no : ∀ i, st.n ≤ i → st.m i = none
  inj : ∀ i j, i < st.n → j < st.n → st.ro i = false → st.ro j = false → io i = io j → i = j
/-- what stays -/
structure Ext (H H' : Hp) : Prop where
  tup : ∀ a xs, H a = some (.tup xs) → H' a = some (.tup xs)
  frz : ∀ a o u, H a = some (.frz o u) → H' a = some (.frz o u)
theorem Ext.refl (H : Hp) : Ext H H := ⟨fun _ _ h => h, fun _ _ _ h => h⟩
theorem Ext.trans {H H1 H2 : Hp} (a : Ext H H1) (b : Ext H1 H2) : Ext H H2 := ⟨fun c xs h => b.tup c xs (a.tup c xs h), fun c o u h => b.frz c o u (a.frz c o u h)⟩
theorem Ext.new {H : Hp} {p : Addr} (o : HO) (h : H p = none) : Ext H (upd H p o) :=
  ⟨fun a xs e => by rw [upd_ne (ne_of_none e h)]; exact e, fun a q u e => by rw [upd_ne (ne_of_none e h)]; exact e⟩
/-- a thing that may be written -/
def MutO : HO → Prop
  | .lst _ => True
  | .dK _ => True
  | .dT _ => True
  | .ins _ _ _ => True
  | _ => False
theorem Ext.wr {H : Hp} {p : Addr} {o : HO} (u : HO) (h : H p = some o) (m : MutO o) : Ext H (upd H p u) :=
  ⟨fun a xs e => by rw [upd_ne (ne_of e h (fun z => by subst z; exact m))]; exact e, fun a q v e => by rw [upd_ne (ne_of e h (fun z => by subst z; exact m))]; exact e⟩
theorem Ext.sqT {K : PySem.W.Frag} {H H' : Hp} {a : Addr} {xs : List V} (e : Ext H H') (h : SqT K H a xs) : SqT K H' a xs := by
  rcases h with (h | ⟨o, h⟩) | h
  · exact .inl (.inl (e.tup _ _ h))
  · exact .inl (.inr ⟨o, e.frz _ _ _ h⟩)
  · exact .inr h
theorem Ext.sqW {K : PySem.W.Frag} {kt : List (List Val)} {H H' : Hp} {a : Addr} {xs : List Val} {ys : List V} (e : Ext H H') (h : SqW K kt H a xs ys) : SqW K kt H' a xs ys := by
  rcases h with h | h
  · exact .inl (e.tup _ _ h)
  · exact .inr h
theorem SqW.sqT {K : PySem.W.Frag} {kt : List (List Val)} {H : Hp} {a : Addr} {xs : List Val} {ys : List V} (h : SqW K kt H a xs ys) : SqT K H a ys := by
  rcases h with h | ⟨_, h⟩
  · exact .inl (.inl h)
  · exact .inr h
theorem Ext.sqR {K : PySem.W.Frag} {H H' : Hp} {a : Addr} {xs : List V} (e : Ext H H') (h : SqR K H a xs) : SqR K H' a xs := by
  rcases h with ⟨o, h⟩ | h
  · exact .inl ⟨o, e.frz _ _ _ h⟩
  · exact .inr h
theorem SqR.sqL {K : PySem.W.Frag} {H : Hp} {a : Addr} {xs : List V} (h : SqR K H a xs) : SqL K H a xs := by
  rcases h with ⟨o, h⟩ | h
  · exact .inl (.inr ⟨o, h⟩)
  · exact .inr h
/-- a later state -/
structure Up (io : Nat → Addr) (n : Nat) (H : Hp) (io' : Nat → Addr) (n' : Nat) (H' : Hp) : Prop where
  le : n ≤ n'
  io : ∀ i, i < n → io' i = io i
  ext : Ext H H'
theorem Up.refl (io : Nat → Addr) (n : Nat) (H : Hp) : Up io n H io n H := ⟨Nat.le_refl _, fun _ _ => rfl, .refl H⟩
theorem Up.trans {io io1 io2 : Nat → Addr} {n n1 n2 : Nat} {H H1 H2 : Hp} (a : Up io n H io1 n1 H1) (b : Up io1 n1 H1 io2 n2 H2) : Up io n H io2 n2 H2 :=
  ⟨Nat.le_trans a.le b.le, fun i h => (b.io i (Nat.lt_of_lt_of_le h a.le)).trans (a.io i h), a.ext.trans b.ext⟩
section
variable {K : PySem.W.Frag} {kt : List (List Val)} {io io' : Nat → Addr} {n n' : Nat} {H H' : Hp}
mutual
theorem RV.up (u : Up io n H io' n' H') : ∀ {v : Val} {w : V}, RV K kt io n H v w → RV K kt io' n' H' v w
  | _, _, .non => .non
  | _, _, .bl b => .bl b
  | _, _, .int i => .int i
  | _, _, .str x => .str x
  | _, _, .tup h r => .tup (u.ext.sqW h) (RVs.up u r)
  | _, _, .ref h => by rw [← u.io _ h]; exact .ref (Nat.lt_of_lt_of_le h u.le)
theorem RVs.up (u : Up io n H io' n' H') : ∀ {vs : List Val} {ws : List V}, RVs K kt io n H vs ws → RVs K kt io' n' H' vs ws
  | _, _, .nil => .nil
  | _, _, .cons h r => .cons (RV.up u h) (RVs.up u r)
end
theorem RKs.up {κ : Type} (u : Up io n H io' n' H') : ∀ {vs : List (κ × Val)} {ws : List (κ × V)}, RKs K kt io n H vs ws → RKs K kt io' n' H' vs ws
  | _, _, .nil => .nil
  | _, _, .cons h r => .cons (h.up u) (RKs.up u r)
theorem RVs.length : ∀ {vs : List Val} {ws : List V}, RVs K kt io n H vs ws → vs.length = ws.length
  | _, _, .nil => rfl
  | _, _, .cons _ r => by rw [List.length_cons, List.length_cons, RVs.length r]
theorem RKs.length {κ : Type} : ∀ {vs : List (κ × Val)} {ws : List (κ × V)}, RKs K kt io n H vs ws → vs.length = ws.length
  | _, _, .nil => rfl
  | _, _, .cons _ r => by rw [List.length_cons, List.length_cons, RKs.length r]
theorem RVs.append : ∀ {vs vs' : List Val} {ws ws' : List V}, RVs K kt io n H vs ws → RVs K kt io n H vs' ws' → RVs K kt io n H (vs ++ vs') (ws ++ ws')
  | _, _, _, _, .nil, q => q
  | _, _, _, _, .cons h r, q => .cons h (RVs.append r q)
theorem RVs.get : ∀ {vs : List Val} {ws : List V} {i : Nat} {v : Val}, RVs K kt io n H vs ws → vs[i]? = some v → ∃ w, ws[i]? = some w ∧ RV K kt io n H v w
  | _, _, _, _, .nil, e => by simp at e
  | _, _, 0, _, .cons h r, e => by simp at e; subst e; exact ⟨_, rfl, h⟩
  | _, _, i + 1, v, .cons h r, e => by
    obtain ⟨w, e1, e2⟩ := RVs.get (i := i) (v := v) r (by simpa using e)
    exact ⟨w, by simpa using e1, e2⟩
theorem RVs.set {v : Val} {w : V} (q : RV K kt io n H v w) : ∀ {vs : List Val} {ws : List V} (i : Nat), RVs K kt io n H vs ws → RVs K kt io n H (vs.set i v) (ws.set i w)
  | _, _, _, .nil => .nil
  | _, _, 0, .cons _ r => .cons q r
  | _, _, i + 1, .cons h r => .cons h (RVs.set q i r)
theorem RVs.drop : ∀ {vs : List Val} {ws : List V} (k : Nat), RVs K kt io n H vs ws → RVs K kt io n H (vs.drop k) (ws.drop k)
  | _, _, 0, r => r
  | _, _, _ + 1, .nil => .nil
  | _, _, k + 1, .cons _ r => RVs.drop k r
theorem RVs.take : ∀ {vs : List Val} {ws : List V} (k : Nat), RVs K kt io n H vs ws → RVs K kt io n H (vs.take k) (ws.take k)
  | _, _, 0, _ => .nil
  | _, _, _ + 1, .nil => .nil
  | _, _, k + 1, .cons h r => .cons h (RVs.take k r)
theorem RVs.dropLast : ∀ {vs : List Val} {ws : List V}, RVs K kt io n H vs ws → RVs K kt io n H vs.dropLast ws.dropLast := fun {vs ws} r => by
  rw [List.dropLast_eq_take, List.dropLast_eq_take, r.length]
  exact r.take _
theorem RVs.rep {vs : List Val} {ws : List V} (h : RVs K kt io n H vs ws) : ∀ k : Nat, RVs K kt io n H (List.replicate k vs).flatten (List.replicate k ws).flatten
  | 0 => .nil
  | k + 1 => by
    rw [List.replicate_succ, List.replicate_succ, List.flatten_cons, List.flatten_cons]
    exact h.append (RVs.rep h k)
theorem RVs.one {v : Val} {ws : List V} (h : RVs K kt io n H [v] ws) : ∃ w, ws = [w] ∧ RV K kt io n H v w := by
  cases h with
  | cons a b => cases b; exact ⟨_, rfl, a⟩
theorem RVs.two {v u : Val} {ws : List V} (h : RVs K kt io n H [v, u] ws) : ∃ w x, ws = [w, x] ∧ RV K kt io n H v w ∧ RV K kt io n H u x := by
  cases h with
  | cons a b => obtain ⟨x, rfl, q⟩ := b.one; exact ⟨_, x, rfl, a, q⟩
theorem RVs.empty {vs : List Val} {ws : List V} (h : RVs K kt io n H vs ws) : vs.isEmpty = ws.isEmpty := by cases h <;> rfl
theorem RKs.empty {κ : Type} {vs : List (κ × Val)} {ws : List (κ × V)} (h : RKs K kt io n H vs ws) : vs.isEmpty = ws.isEmpty := by cases h <;> rfl
theorem RKs.look {κ : Type} [DecidableEq κ] (k : κ) : ∀ {vs : List (κ × Val)} {ws : List (κ × V)}, RKs K kt io n H vs ws →
    (look vs k = none ∧ valV ws k = none) ∨ ∃ v w, look vs k = some v ∧ valV ws k = some w ∧ RV K kt io n H v w
  | _, _, .nil => .inl ⟨rfl, rfl⟩
  | _, _, @RKs.cons _ _ _ _ _ _ j x y xs ys h r => by
    by_cases e : j = k
    · refine .inr ⟨x, y, ?_, ?_, h⟩
      · simp [CL.look, List.find?_cons, e]
      · exact valV_pos e
    · have ih := RKs.look k r
      have e1 : CL.look ((j, x) :: xs) k = CL.look xs k := by simp [CL.look, List.find?_cons, e]
      have e2 : valV ((j, y) :: ys) k = valV ys k := valV_neg (p := (j, y)) e
      rw [e1, e2]; exact ih
theorem RKs.any {κ : Type} [DecidableEq κ] (k : κ) : ∀ {vs : List (κ × Val)} {ws : List (κ × V)}, RKs K kt io n H vs ws → (vs.any fun kv => decide (kv.1 = k)) = ws.any fun kv => decide (kv.1 = k)
  | _, _, .nil => rfl
  | _, _, .cons h r => by rw [List.any_cons, List.any_cons, RKs.any k r]
theorem RKs.repl {κ : Type} [DecidableEq κ] (k : κ) {v : Val} {w : V} (q : RV K kt io n H v w) : ∀ {vs : List (κ × Val)} {ws : List (κ × V)}, RKs K kt io n H vs ws →
    RKs K kt io n H (vs.map fun kv => if kv.1 = k then (kv.1, v) else kv) (ws.map fun kv => if kv.1 = k then (kv.1, w) else kv)
  | _, _, .nil => .nil
  | _, _, @RKs.cons _ _ _ _ _ _ j x y xs ys h r => by
    rw [List.map_cons, List.map_cons]
    by_cases e : j = k
    · rw [if_pos e, if_pos e]; exact .cons q (RKs.repl k q r)
    · rw [if_neg e, if_neg e]; exact .cons h (RKs.repl k q r)
theorem RKs.snoc {κ : Type} (k : κ) {v : Val} {w : V} (q : RV K kt io n H v w) : ∀ {vs : List (κ × Val)} {ws : List (κ × V)}, RKs K kt io n H vs ws → RKs K kt io n H (vs ++ [(k, v)]) (ws ++ [(k, w)])
  | _, _, .nil => .cons q .nil
  | _, _, .cons h r => .cons h (RKs.snoc k q r)
theorem RKs.put {κ : Type} [DecidableEq κ] (k : κ) {v : Val} {w : V} (q : RV K kt io n H v w) {vs : List (κ × Val)} {ws : List (κ × V)} (r : RKs K kt io n H vs ws) : RKs K kt io n H (put vs k v) (putK ws k w) := by
  unfold CL.put putK
  rw [r.any k]
  split
  · exact r.repl k q
  · exact r.snoc k q
theorem RKs.merge {ms : List (Key × Val)} {ns : List (Key × V)} (h : RKs K kt io n H ms ns) : ∀ {vs : List (Key × Val)} {ws : List (Key × V)}, RKs K kt io n H vs ws → RKs K kt io n H (merge vs ms) (mergeK ws ns) := by
  induction h with
  | nil => intro vs ws r; exact r
  | cons h t ih => intro vs ws r; exact ih (r.put _ h)
theorem RKs.lookup (f : Str) : ∀ {vs : List (Str × Val)} {ws : List (Str × V)}, RKs K kt io n H vs ws →
    (vs.lookup f = none ∧ ws.lookup f = none) ∨ ∃ v w, vs.lookup f = some v ∧ ws.lookup f = some w ∧ RV K kt io n H v w
  | _, _, .nil => .inl ⟨rfl, rfl⟩
  | _, _, @RKs.cons _ _ _ _ _ _ j x y xs ys h r => by
    have ih := RKs.lookup f r
    rw [List.lookup_cons, List.lookup_cons]
    cases f == j with
    | true => exact .inr ⟨x, y, rfl, rfl, h⟩
    | false => exact ih
theorem RKs.setF (f : Str) {v : Val} {w : V} (q : RV K kt io n H v w) : ∀ {vs : List (Str × Val)} {ws : List (Str × V)}, RKs K kt io n H vs ws → RKs K kt io n H (setF f v vs) (L2.putF f w ws)
  | _, _, .nil => .cons q .nil
  | _, _, @RKs.cons _ _ _ _ _ _ j x y xs ys h r => by
    unfold CL.setF L2.putF
    by_cases e : j = f
    · rw [if_pos e, if_pos e, e]; exact .cons q r
    · rw [if_neg e, if_neg e]; exact .cons h (RKs.setF f q r)
theorem RO.up {ca : Nat → Addr} {a : Addr} {b : Bool} {o : Ob} (u : Up io n H io' n' H') (e : b = false → H' a = H a) (h : RO K kt io n H ca b a o) : RO K kt io' n' H' ca b a o := by
  cases h with
  | lst h r => exact .lst ((e rfl).trans h) (r.up u)
  | lstR h r => exact .lstR (u.ext.sqR h) (r.up u)
  | dK h r => exact .dK ((e rfl).trans h) (r.up u)
  | dKR h r => exact .dKR (u.ext.frz _ _ _ h) (r.up u)
  | dT h r => exact .dT ((e rfl).trans h) (r.up u)
  | dTR h r => exact .dTR (u.ext.frz _ _ _ h) (r.up u)
  | ins h r => exact .ins ((e rfl).trans h) (r.up u)
  | exc h h1 h2 h3 h4 r => exact .exc (u.ext.frz _ _ _ h) h1 h2 h3 (u.ext.frz _ _ _ h4) (r.up u)
theorem RO.mutO {ca : Nat → Addr} {a : Addr} {o : Ob} (h : RO K kt io n H ca false a o) : ∃ x, H a = some x ∧ MutO x := by
  cases h with
  | lst h r => exact ⟨_, h, trivial⟩
  | dK h r => exact ⟨_, h, trivial⟩
  | dT h r => exact ⟨_, h, trivial⟩
  | ins h r => exact ⟨_, h, trivial⟩
end

section
variable {K : PySem.W.Frag} {kt : List (List Val)} {ca io : Nat → Addr} {st : Store} {H : Hp}
theorem Rl.at (R : Rl K kt ca io st H) {i : Nat} {o : Ob} (e : st.m i = some o) : i < st.n ∧ RO K kt io st.n H ca (st.ro i) (io i) o := by
  by_cases h : i < st.n
  · obtain ⟨o', e', r⟩ := R.ob i h
    rw [e] at e'; cases e'
    exact ⟨h, r⟩
  · rw [R.no i (Nat.le_of_not_lt h)] at e; cases e
/-- the map behind a new thing -/
def ioNew (io : Nat → Addr) (n : Nat) (p : Addr) : Nat → Addr := fun i => if i = n then p else io i
theorem ioNew_at (io : Nat → Addr) (n : Nat) (p : Addr) : ioNew io n p n = p := if_pos rfl
theorem ioNew_ne {io : Nat → Addr} {n i : Nat} {p : Addr} (h : i ≠ n) : ioNew io n p i = io i := if_neg h
theorem Up.new {p : Addr} (o : HO) (h : H p = none) : Up io st.n H (ioNew io st.n p) (st.n + 1) (upd H p o) :=
  ⟨Nat.le_succ _, fun i hi => ioNew_ne (Nat.ne_of_lt hi), .new o h⟩
theorem Rl.new (R : Rl K kt ca io st H) {p : Addr} {o : Ob} {u : HO} (h : H p = none) (r : RO K kt (ioNew io st.n p) (st.n + 1) (upd H p u) ca false p o) :
    Rl K kt ca (ioNew io st.n p) (st.new o) (upd H p u) := by
  have up := Up.new (io := io) (st := st) u h
  have old : ∀ i, i < st.n → ∃ q, st.m i = some q ∧ RO K kt (ioNew io st.n p) (st.n + 1) (upd H p u) ca (st.ro i) (io i) q := fun i hi => by
    obtain ⟨q, e, rq⟩ := R.ob i hi
    refine ⟨q, e, rq.up up fun hr => ?_⟩
    rw [hr] at rq
    obtain ⟨x, ex, _⟩ := rq.mutO
    exact upd_ne (ne_of_none ex h)
  refine ⟨fun i hi => ?_, fun i hi => ?_, fun i j hi hj ri rj e => ?_⟩
  · by_cases e : i = st.n
    · subst e
      refine ⟨o, if_pos rfl, ?_⟩
      show RO K kt (ioNew io st.n p) (st.n + 1) (upd H p u) ca (if st.n = st.n then false else st.ro st.n) (ioNew io st.n p st.n) o
      rw [if_pos rfl, ioNew_at]; exact r
    · have hi' : i < st.n + 1 := hi
      obtain ⟨q, eq, rq⟩ := old i (by omega)
      refine ⟨q, (if_neg e).trans eq, ?_⟩
      show RO K kt (ioNew io st.n p) (st.n + 1) (upd H p u) ca (if i = st.n then false else st.ro i) (ioNew io st.n p i) q
      rw [if_neg e, ioNew_ne e]; exact rq
  · have hi' : st.n + 1 ≤ i := hi
    exact (if_neg (by omega)).trans (R.no i (by omega))
  · have hi' : i < st.n + 1 := hi
    have hj' : j < st.n + 1 := hj
    have apart : ∀ k, k < st.n → (st.new o).ro k = false → io k ≠ p := fun k hk rk => by
      have rk' : st.ro k = false := by
        have : (if k = st.n then false else st.ro k) = false := rk
        rw [if_neg (Nat.ne_of_lt hk)] at this; exact this
      obtain ⟨q, _, rq⟩ := R.ob k hk
      rw [rk'] at rq
      obtain ⟨x, ex, _⟩ := rq.mutO
      exact ne_of_none ex h
    by_cases ei : i = st.n
    · by_cases ej : j = st.n
      · rw [ei, ej]
      · rw [ei, ioNew_at, ioNew_ne ej] at e
        exact absurd e.symm (apart j (by omega) rj)
    · by_cases ej : j = st.n
      · rw [ej, ioNew_at, ioNew_ne ei] at e
        exact absurd e (apart i (by omega) ri)
      · rw [ioNew_ne ei, ioNew_ne ej] at e
        have r1 : (if i = st.n then false else st.ro i) = false := ri
        have r2 : (if j = st.n then false else st.ro j) = false := rj
        rw [if_neg ei] at r1; rw [if_neg ej] at r2
        exact R.inj i j (by omega) (by omega) r1 r2 e
/-- a new thing that is never written -/
theorem Rl.newR (R : Rl K kt ca io st H) {p : Addr} {o : Ob} {H' : Hp} (x : Ext H H') (keep : ∀ i, i < st.n → st.ro i = false → H' (io i) = H (io i)) (r : RO K kt (ioNew io st.n p) (st.n + 1) H' ca true p o) :
    Up io st.n H (ioNew io st.n p) (st.n + 1) H' ∧ Rl K kt ca (ioNew io st.n p) (st.newR o) H' := by
  have up : Up io st.n H (ioNew io st.n p) (st.n + 1) H' := ⟨Nat.le_succ _, fun i hi => ioNew_ne (Nat.ne_of_lt hi), x⟩
  refine ⟨up, fun i hi => ?_, fun i hi => ?_, fun i j hi hj ri rj e => ?_⟩
  · by_cases e : i = st.n
    · subst e
      refine ⟨o, if_pos rfl, ?_⟩
      show RO K kt (ioNew io st.n p) (st.n + 1) H' ca (if st.n = st.n then true else st.ro st.n) (ioNew io st.n p st.n) o
      rw [if_pos rfl, ioNew_at]; exact r
    · have hi' : i < st.n + 1 := hi
      obtain ⟨q, eq, rq⟩ := R.ob i (by omega)
      refine ⟨q, (if_neg e).trans eq, ?_⟩
      show RO K kt (ioNew io st.n p) (st.n + 1) H' ca (if i = st.n then true else st.ro i) (ioNew io st.n p i) q
      rw [if_neg e, ioNew_ne e]
      exact rq.up up (keep i (by omega))
  · have hi' : st.n + 1 ≤ i := hi
    exact (if_neg (by omega)).trans (R.no i (by omega))
  · have hi' : i < st.n + 1 := hi
    have hj' : j < st.n + 1 := hj
    have ei : i ≠ st.n := fun z => by
      have : (if i = st.n then true else st.ro i) = false := ri
      rw [if_pos z] at this; cases this
    have ej : j ≠ st.n := fun z => by
      have : (if j = st.n then true else st.ro j) = false := rj
      rw [if_pos z] at this; cases this
    rw [ioNew_ne ei, ioNew_ne ej] at e
    have r1 : (if i = st.n then true else st.ro i) = false := ri
    have r2 : (if j = st.n then true else st.ro j) = false := rj
    rw [if_neg ei] at r1; rw [if_neg ej] at r2
    exact R.inj i j (by omega) (by omega) r1 r2 e
theorem Up.wr {i : Nat} {x : HO} (u : HO) (h : H (io i) = some x) (m : MutO x) : Up io st.n H io st.n (upd H (io i) u) := ⟨Nat.le_refl _, fun _ _ => rfl, .wr u h m⟩
theorem Rl.wr (R : Rl K kt ca io st H) {i : Nat} {o : Ob} {u : HO} (hi : i < st.n) (hr : st.ro i = false) (r : RO K kt io st.n (upd H (io i) u) ca false (io i) o) :
    Rl K kt ca io (st.set i o) (upd H (io i) u) := by
  obtain ⟨q, _, rq⟩ := R.ob i hi
  rw [hr] at rq
  obtain ⟨x, ex, mx⟩ := rq.mutO
  have up := Up.wr (io := io) (st := st) u ex mx
  refine ⟨fun j hj => ?_, fun j hj => ?_, R.inj⟩
  · by_cases e : j = i
    · subst e
      refine ⟨o, if_pos rfl, ?_⟩
      show RO K kt io st.n (upd H (io j) u) ca (st.ro j) (io j) o
      rw [hr]; exact r
    · obtain ⟨p, ep, rp⟩ := R.ob j hj
      refine ⟨p, (if_neg e).trans ep, rp.up up fun hj' => upd_ne fun z => e (R.inj j i hj hi hj' hr z)⟩
  · have hj' : st.n ≤ j := hj
    exact (if_neg (by omega)).trans (R.no j hj')
end
end CL

/-! CL, part 0: a tuple once -/
namespace CL
open PySem PySem.Spec PyProof.Rows L2
set_option maxHeartbeats 4000000 in
theorem tuple_mul1 (l : Addr) (items : Array Value) (n : Nat) (dd : Option Addr) (sl : Array (Option Value)) (u : Tok) (c1 : (items.isEmpty || (1 : Int) == 1) = true) :
    Meets (Builtin.«tuple.__mul__» ⟨[.ref l, .int 1 u], []⟩) (fun _ R s => s.heap.get? l = some { cls := .type "tuple", dict := dd, data := .seq items n, slots := sl } ∧ R (.ok (.ret (Value.ref l))) s) :=
  .of_wp fun prog w A R s h => by
    obtain ⟨hp, g, d, tk, os⟩ := s
    obtain ⟨hl, h⟩ := h
    have f1 := AutoSeq1.idx_int
    wp_walk using wpAny_loadPart' hl
    repeat (first
      | (refine wpAny_ite_false (decide_eq_false (by decide)) ?_; wp_walk using wpAny_loadPart' hl)
      | (refine wpAny_ite_true (decide_eq_true c1) ?_; wp_walk using wpAny_loadPart' hl))
    exact ⟨_, rfl, h⟩
def rOneT (K : PySem.W.Frag) : R2 := fun x y H Q => ∃ l xs, x = .ref l ∧ y = .int 1 ∧ SqT K H l xs ∧ Q (.ref l) H
theorem op_oneT {X : Cx} : OpR X (binaryOp .Mult) (rOneT X.K) := by
  intro pins s σ H x y v u Q I rx ry h
  obtain ⟨l, xs, rfl, rfl, hT, q⟩ := h
  cases rx
  obtain ⟨t, rfl⟩ := ry
  obtain ⟨its, r, ⟨⟨cls, dd, data, sl⟩, ho, hc, n, hd⟩, hs⟩ := I.tuple hT
  simp only at hc hd
  subst hc hd
  refine wpAny_binaryOp_repeat_ref (T := "tuple") (U := "int") (by decide) ⟨_, ho, rfl⟩ (fun s' => typeIs_int s' 1 t) noFill_tuple_mul F.fills_int_mul F.slot_int_rmul repeat_tuple F.slot_int_index.lookup
    (call_meets F.slot_int_rmul (typeIs_int s 1 t) F.entry_int_rmul (F.args_int_rmul_2 _ _) (int_rmul_tuple 1 t l its.toArray n dd sl)
      ⟨ho, rfl, ⟨_, ho, rfl⟩, call_meets F.slot_tuple_mul ⟨_, ho, rfl⟩ F.entry_tuple_mul (F.args_tuple_mul_2 _ _) (tuple_mul1 l its.toArray n dd sl t (by simp)) ⟨ho, ?_⟩⟩)
  exact ⟨.ref l, H, I, rfl, q⟩
set_option maxHeartbeats 4000000 in
theorem tuple_mul0 (l : Addr) (items : Array Value) (n : Nat) (dd : Option Addr) (sl : Array (Option Value)) (u : Tok) (c1 : (items.isEmpty || (0 : Int) == 1) = false) :
    Meets (Builtin.«tuple.__mul__» ⟨[.ref l, .int 0 u], []⟩) (fun _ R s => s.heap.get? l = some { cls := .type "tuple", dict := dd, data := .seq items n, slots := sl } ∧ R (.ok (.ret (Value.ref s.heap.objs.size))) { s with heap := s.heap.push { cls := Value.type "tuple", data := Data.seq #[] }, toks := s.toks }) :=
  .of_wp fun prog w A R s h => by
    obtain ⟨hp, g, d, tk, os⟩ := s
    obtain ⟨hl, h⟩ := h
    have f1 := AutoSeq1.idx_int
    have c2 : (decide ((0 : Int) ≤ 0) || items.isEmpty) = true := rfl
    wp_walk using wpAny_loadPart' hl
    repeat (first
      | (refine wpAny_ite_false (decide_eq_false (by decide)) ?_; wp_walk using wpAny_loadPart' hl)
      | (refine wpAny_ite_false (decide_eq_false (by rw [c1]; exact Bool.false_ne_true)) ?_; wp_walk using wpAny_loadPart' hl)
      | (refine wpAny_ite_true (decide_eq_true c2) ?_; wp_walk using wpAny_loadPart' hl))
    exact ⟨_, rfl, h⟩
def rNoneT (K : PySem.W.Frag) : R2 := fun x y H Q => ∃ l xs, x = .ref l ∧ y = .int 0 ∧ SqT K H l xs ∧ xs ≠ [] ∧ ∀ p, H p = none → Q (.ref p) (upd H p (.tup []))
theorem op_noneT {X : Cx} : OpR X (binaryOp .Mult) (rNoneT X.K) := by
  intro pins s σ H x y v u Q I rx ry h
  obtain ⟨l, xs, rfl, rfl, hT, hne, q⟩ := h
  cases rx
  obtain ⟨t, rfl⟩ := ry
  obtain ⟨its, r, ⟨⟨cls, dd, data, sl⟩, ho, hc, n, hd⟩, hs⟩ := I.tuple hT
  simp only at hc hd
  subst hc hd
  have hi : its.toArray.isEmpty = false := by
    cases its with
    | nil => cases r; exact absurd rfl hne
    | cons a b => rfl
  refine wpAny_binaryOp_repeat_ref (T := "tuple") (U := "int") (by decide) ⟨_, ho, rfl⟩ (fun s' => typeIs_int s' 0 t) noFill_tuple_mul F.fills_int_mul F.slot_int_rmul repeat_tuple F.slot_int_index.lookup
    (call_meets F.slot_int_rmul (typeIs_int s 0 t) F.entry_int_rmul (F.args_int_rmul_2 _ _) (int_rmul_tuple 0 t l its.toArray n dd sl)
      ⟨ho, rfl, ⟨_, ho, rfl⟩, call_meets F.slot_tuple_mul ⟨_, ho, rfl⟩ F.entry_tuple_mul (F.args_tuple_mul_2 _ _) (tuple_mul0 l its.toArray n dd sl t (by rw [hi]; rfl)) ⟨ho, ?_⟩⟩)
  refine ⟨.ref s.heap.objs.size, _, I.laid (t' := s.toks) (o := .tup []) (fun b ob q => Heap.get?_push_of_some _ q) (Nat.le_refl _) ?_, rfl, q _ (I.hok.fresh (Nat.le_refl _))⟩
  exact ⟨Nat.zero_le _, [], .nil, IsTup.new _ _⟩
end CL

/-! CL, part c: operators, subscripts, built-ins: what the store's run says holds of the model -/
namespace CL
open PySem L2

/-- what is wanted behind a run that gave v and left st' -/
def Post (K : PySem.W.Frag) (kt : List (List Val)) (ca io : Nat → Addr) (st : Store) (H : Hp) (v : Val) (st' : Store) (Q : VK) : Prop :=
  ∀ (io' : Nat → Addr) (H' : Hp) (w : V), Up io st.n H io' st'.n H' → Rl K kt ca io' st' H' → RV K kt io' st'.n H' v w → Q w H'
section
variable {K : PySem.W.Frag} {kt : List (List Val)} {ca io : Nat → Addr} {st st' : Store} {H : Hp} {v : Val} {w : V} {Q : VK}
theorem Post.here (p : Post K kt ca io st H v st Q) (R : Rl K kt ca io st H) (r : RV K kt io st.n H v w) : Q w H := p io H w (.refl _ _ _) R r
/-- a new list, dict -/
theorem Post.made {o : Ob} {u : HO} (p : Post K kt ca io st H (.ref st.n) (st.new o) Q) (R : Rl K kt ca io st H)
    (r : ∀ a, H a = none → RO K kt (ioNew io st.n a) (st.n + 1) (upd H a u) ca false a o) (a : Addr) (ha : H a = none) : Q (.ref a) (upd H a u) := by
  refine p (ioNew io st.n a) _ _ (Up.new u ha) (R.new ha (r a ha)) ?_
  have h : RV K kt (ioNew io st.n a) (st.n + 1) (upd H a u) (.ref st.n) (.ref (ioNew io st.n a st.n)) := .ref (Nat.lt_succ_self _)
  rw [ioNew_at] at h; exact h
theorem Post.list {xs : List Val} {ys : List V} (p : Post K kt ca io st H (.ref st.n) (st.new (.lst xs)) Q) (R : Rl K kt ca io st H) (r : RVs K kt io st.n H xs ys) (a : Addr) (ha : H a = none) :
    Q (.ref a) (upd H a (.lst ys)) := p.made R (fun a ha => .lst upd_same (r.up (Up.new _ ha))) a ha
/-- a new tuple -/
theorem Post.tup {xs : List Val} {ys : List V} (p : Post K kt ca io st H (.tup xs) st Q) (R : Rl K kt ca io st H) (r : RVs K kt io st.n H xs ys) (a : Addr) (ha : H a = none) :
    Q (.ref a) (upd H a (.tup ys)) := by
  have up : Up io st.n H io st.n (upd H a (.tup ys)) := ⟨Nat.le_refl _, fun _ _ => rfl, .new _ ha⟩
  refine p io _ _ up ⟨fun i hi => ?_, R.no, R.inj⟩ (.tup (.inl upd_same) (r.up up))
  obtain ⟨q, e, rq⟩ := R.ob i hi
  refine ⟨q, e, rq.up up fun hr => ?_⟩
  rw [hr] at rq
  obtain ⟨x, ex, _⟩ := rq.mutO
  exact upd_ne (ne_of_none ex ha)
/-- a thing written -/
theorem Post.wrote {i : Nat} {o : Ob} {u : HO} (p : Post K kt ca io st H v (st.set i o) Q) (R : Rl K kt ca io st H) (hi : i < st.n) (hr : st.ro i = false)
    (r : Up io st.n H io st.n (upd H (io i) u) → RO K kt io st.n (upd H (io i) u) ca false (io i) o ∧ RV K kt io st.n (upd H (io i) u) v w) : Q w (upd H (io i) u) := by
  obtain ⟨q, _, rq⟩ := R.ob i hi
  rw [hr] at rq
  obtain ⟨x, ex, mx⟩ := rq.mutO
  have up := Up.wr (io := io) (st := st) u ex mx
  obtain ⟨r1, r2⟩ := r up
  exact p io _ _ up (R.wr hi hr r1) r2
end

/-! ### the model's own readings, by what they are -/
section
variable {X : Cx}
def tSem (X : Cx) (e : Expr) : TE := fun σ H Q => ∀ (pins : List (Addr × Obj)) (s : Shared), Inv X pins σ H s → wpAny (model X.prog X.w) X.A (eval e X.env) (EP X pins σ Q) X.xe s
theorem pe_sem {e : Expr} : PE X e (tSem X e) := ⟨fun pins s σ H Q I h => h pins s I⟩
def bSem (X : Cx) (e : Expr) : TT := fun σ H Q => ∀ (pins : List (Addr × Obj)) (s : Shared), Inv X pins σ H s → wpAny (model X.prog X.w) X.A (isTrue e X.env (eval e X.env)) (TP X pins σ Q) X.xe s
theorem pt_sem {e : Expr} : PT X e (bSem X e) := ⟨fun pins s σ H Q I h => h pins s I⟩
def oSem (X : Cx) (f : Value → Value → Sem Value) : R2 := fun x y H Q => ∀ (pins : List (Addr × Obj)) (s : Shared) (σ : St) (v u : Value), Inv X pins σ H s → RelV x v → RelV y u → wpAny (model X.prog X.w) X.A (f v u) (EP X pins σ Q) X.xe s
theorem op_sem {f : Value → Value → Sem Value} : OpR X f (oSem X f) := fun pins s σ H x y v u Q I rx ry h => h pins s σ v u I rx ry
theorem oSem.of {f : Value → Value → Sem Value} {r : R2} (ho : OpR X f r) {x y : V} {H : Hp} {Q : VK} (h : r x y H Q) : oSem X f x y H Q := fun pins s σ v u I rx ry => ho pins s σ H x y v u Q I rx ry h
def cSem (X : Cx) (f : Value) : List V → Hp → VK → Prop := fun xs H Q => ∀ (pins : List (Addr × Obj)) (s : Shared) (σ : St) (us : List Value), Inv X pins σ H s → Vals xs us → wpAny (model X.prog X.w) X.A (call f us) (EP X pins σ Q) X.xe s
theorem call_sem {f : Value} : CallR X f (cSem X f) := fun pins s σ H xs us Q I r h => h pins s σ us I r
theorem cSem.of {f : Value} {r : List V → Hp → VK → Prop} (ho : CallR X f r) {xs : List V} {H : Hp} {Q : VK} (h : r xs H Q) : cSem X f xs H Q := fun pins s σ us I rv => ho pins s σ H xs us Q I rv h
def mSem (X : Cx) (id : String) : V → List V → Hp → VK → Prop := fun x xs H Q => ∀ (pins : List (Addr × Obj)) (s : Shared) (σ : St) (v : Value) (us : List Value), Inv X pins σ H s → RelV x v → Vals xs us → wpAny (model X.prog X.w) X.A (call (.builtin id) (v :: us)) (EP X pins σ Q) X.xe s
theorem mt_sem {id : String} : MtR X id (mSem X id) := fun pins s σ H x xs v us Q I r rs h => h pins s σ v us I r rs
theorem mSem.of {id : String} {r : V → List V → Hp → VK → Prop} (ho : MtR X id r) {x : V} {xs : List V} {H : Hp} {Q : VK} (h : r x xs H Q) : mSem X id x xs H Q := fun pins s σ v us I rx rs => ho pins s σ H x xs v us Q I rx rs h
def gSem (X : Cx) : TSet := fun o i v H Q => ∀ (pins : List (Addr × Obj)) (s : Shared) (σ : St) (ov iv u : Value), Inv X pins σ H s → RelV o ov → RelV i iv → RelV v u → wpAny (model X.prog X.w) X.A (setItem ov iv u) (fun _ s' => ∃ H', Inv X pins σ H' s' ∧ Q H') X.xe s
theorem set_sem : PSet X (gSem X) := fun pins s σ H o i v ov iv u Q I ro ri rv h => h pins s σ ov iv u I ro ri rv
theorem gSem.of {t : TSet} (ho : PSet X t) {o i v : V} {H : Hp} {Q : Hp → Prop} (h : t o i v H Q) : gSem X o i v H Q := fun pins s σ ov iv u I r1 r2 r3 => ho pins s σ H o i v ov iv u Q I r1 r2 r3 h
end

/-! ### a list's place -/
section
variable {K : PySem.W.Frag} {kt : List (List Val)} {ca io : Nat → Addr} {st st' : Store} {H : Hp}
theorem Rl.list (R : Rl K kt ca io st H) {i : Nat} {xs : List Val} (e : st.m i = some (.lst xs)) : ∃ ys, SqL K H (io i) ys ∧ RVs K kt io st.n H xs ys ∧ (st.ro i = false → H (io i) = some (.lst ys)) := by
  obtain ⟨hi, r⟩ := R.at e
  generalize st.ro i = b at r ⊢
  cases r with
  | lst h q => exact ⟨_, .of h, q, fun _ => h⟩
  | lstR h q => exact ⟨_, h.sqL, q, fun z => by cases z⟩
theorem Rl.dictK (R : Rl K kt ca io st H) {i : Nat} {kvs : List (Key × Val)} (e : st.m i = some (.dK kvs)) : ∃ kws, Rd H (io i) (.dK kws) ∧ RKs K kt io st.n H kvs kws ∧ (st.ro i = false → H (io i) = some (.dK kws)) := by
  obtain ⟨hi, r⟩ := R.at e
  generalize st.ro i = b at r ⊢
  cases r with
  | dK h q => exact ⟨_, .inl h, q, fun _ => h⟩
  | dKR h q => exact ⟨_, .inr ⟨_, h⟩, q, fun z => by cases z⟩
theorem Rl.dictT (R : Rl K kt ca io st H) {i : Nat} {kvs : List (List Key × Val)} (e : st.m i = some (.dT kvs)) : ∃ kws, Rd H (io i) (.dT kws) ∧ RKs K kt io st.n H kvs kws ∧ (st.ro i = false → H (io i) = some (.dT kws)) := by
  obtain ⟨hi, r⟩ := R.at e
  generalize st.ro i = b at r ⊢
  cases r with
  | dT h q => exact ⟨_, .inl h, q, fun _ => h⟩
  | dTR h q => exact ⟨_, .inr ⟨_, h⟩, q, fun z => by cases z⟩
theorem Rl.inst (R : Rl K kt ca io st H) {i c : Nat} {fs : List (Str × Val)} (e : st.m i = some (.ins c fs)) : i < st.n ∧ st.ro i = false ∧ ∃ dx gs, H (io i) = some (.ins (ca c) dx gs) ∧ RKs K kt io st.n H fs gs := by
  obtain ⟨hi, r⟩ := R.at e
  refine ⟨hi, ?_⟩
  generalize st.ro i = b at r ⊢
  cases r with
  | ins h q => exact ⟨rfl, _, _, h, q⟩
theorem RV.iref {i : Nat} {n : Nat} {w : V} (h : RV K kt io n H (.ref i) w) : w = .ref (io i) ∧ i < n := by cases h with | ref h => exact ⟨rfl, h⟩
theorem RV.iint {i : Int} {n : Nat} {w : V} (h : RV K kt io n H (.int i) w) : w = .int i := by cases h; rfl
theorem RV.istr {x : Str} {n : Nat} {w : V} (h : RV K kt io n H (.str x) w) : w = .str x := by cases h; rfl
theorem RV.ibl {b : Bool} {n : Nat} {w : V} (h : RV K kt io n H (.bl b) w) : w = .bl b := by cases h; rfl
theorem RV.inon {n : Nat} {w : V} (h : RV K kt io n H .non w) : w = .non := by cases h; rfl
theorem RV.itup {xs : List Val} {n : Nat} {w : V} (h : RV K kt io n H (.tup xs) w) : ∃ a ys, w = .ref a ∧ SqW K kt H a xs ys ∧ RVs K kt io n H xs ys := by cases h with | tup h r => exact ⟨_, _, rfl, h, r⟩
theorem RVs.atI {xs : List Val} {ys : List V} {n : Nat} (r : RVs K kt io n H xs ys) {i : Int} {v : Val} (h : atI xs i = some v) : ∃ w, atI ys i = some w ∧ RV K kt io n H v w := by
  unfold L2.atI at h ⊢
  rw [← r.length]
  cases q : ixN xs.length i with
  | none => rw [q] at h; cases h
  | some j =>
    rw [q] at h
    exact r.get (show xs[j]? = some v from h)
theorem RVs.cut {xs : List Val} {ys : List V} {n : Nat} (r : RVs K kt io n H xs ys) (lo hi : Option Int) : RVs K kt io n H (cutL xs lo hi) (L2.cutV ys lo hi) := by
  unfold cutL L2.cutV
  rw [r.length]
  exact (r.drop _).take _
end
theorem fits_le {n : Nat} (h : fits n = true) : n ≤ sizeLine := of_decide_eq_true h

/-! ### + - * // % ** -/
section
variable {X : Cx} {kt : List (List Val)} {ca io : Nat → Addr} {st st' : Store} {H : Hp}
def CDivL (_ j : Int) : Prop := j ≠ 0 ∧ j.natAbs.log2 < 9000
theorem op_fdivL : OpR X (binaryOp .FloorDiv) (rI CDivL fun i j => .int (i.fdiv j)) := opI fun _ _ _ _ _ _ _ hc q => PyProof.Rows.floordiv_int hc.1 q (.inl (PyProof.noPylong_of_log2 hc.2))
def opOf : Bop → Operator
  | .add => .Add | .sub => .Sub | .mul => .Mult | .fdiv => .FloorDiv | .mod => .Mod | .pow => .Pow
theorem bop_ok {o : Bop} {a b v : Val} {x y : V} {Q : VK} (R : Rl X.K kt ca io st H) (ra : RV X.K kt io st.n H a x) (rb : RV X.K kt io st.n H b y) (e : bop o a b st = .ok v st') (p : Post X.K kt ca io st H v st' Q) :
    oSem X (binaryOp (opOf o)) x y H Q := by
  unfold bop at e
  split at e
  · cases e
    obtain rfl := ra.iint
    obtain rfl := rb.iint
    exact oSem.of op_add ⟨_, _, rfl, rfl, p.here R (.int _)⟩
  · split at e
    · rename_i hf
      cases e
      obtain rfl := ra.istr
      obtain rfl := rb.istr
      exact oSem.of op_add_str ⟨_, _, rfl, rfl, fits_le hf, p.here R (.str _)⟩
    · cases e
  · split at e
    · rename_i hf
      cases e
      obtain ⟨a1, ys, rfl, s1, r1⟩ := ra.itup
      obtain ⟨a2, zs, rfl, s2, r2⟩ := rb.itup
      refine oSem.of op_catA ⟨_, _, ys, zs, rfl, rfl, s1.sqT, s2.sqT, by rw [← r1.length, ← r2.length]; exact fits_le hf, fun h => ?_, fun _ h => ?_, fun _ _ q hq => p.tup R (r1.append r2) q hq⟩
      · subst h
        cases r1
        exact p.here R (.tup s2 r2)
      · subst h
        cases r2
        rw [List.append_nil] at p
        exact p.here R (.tup s1 r1)
    · cases e
  · split at e
    · rename_i xs ys e1 e2
      split at e
      · cases e
      · rename_i hro
        split at e
        · rename_i hf
          cases e
          obtain ⟨rfl, _⟩ := ra.iref
          obtain ⟨rfl, _⟩ := rb.iref
          obtain ⟨us, s1, r1, h1⟩ := R.list e1
          obtain ⟨ws, s2, r2, h2⟩ := R.list e2
          simp only [Bool.or_eq_true, not_or, Bool.not_eq_true] at hro
          exact oSem.of op_cat ⟨_, _, us, ws, rfl, rfl, h1 hro.1, h2 hro.2, by rw [← r1.length, ← r2.length]; exact fits_le hf, fun q hq => p.list R (r1.append r2) q hq⟩
        · cases e
    · cases e
  · cases e
    obtain rfl := ra.iint
    obtain rfl := rb.iint
    exact oSem.of op_sub ⟨_, _, rfl, rfl, p.here R (.int _)⟩
  · split at e
    · rename_i hm
      cases e
      obtain rfl := ra.iint
      obtain rfl := rb.iint
      refine oSem.of op_mul ⟨_, _, rfl, rfl, ?_, p.here R (.int _)⟩
      unfold mulOk at hm
      simp only [Bool.or_eq_true, Bool.and_eq_true, decide_eq_true_eq] at hm
      exact hm
    · cases e
  · split at e
    · rename_i xs e1
      split at e
      · rename_i hm
        cases e
        obtain ⟨rfl, _⟩ := ra.iref
        obtain rfl := rb.iint
        obtain ⟨us, s1, r1, h1⟩ := R.list e1
        unfold repOk at hm
        simp only [Bool.and_eq_true, decide_eq_true_eq, Bool.not_eq_true'] at hm
        obtain ⟨hro, ⟨h2, h3⟩, h4⟩ := hm
        exact oSem.of op_rep ⟨_, _, us, rfl, rfl, h1 hro, h2, h3, by rw [← r1.length]; exact fits_le h4, fun q hq => p.list R (r1.rep _) q hq⟩
      · cases e
    · cases e
  · split at e
    · rename_i hm
      cases e
      subst hm
      obtain ⟨a1, ys, rfl, s1, r1⟩ := ra.itup
      obtain rfl := rb.iint
      exact oSem.of op_oneT ⟨_, ys, rfl, rfl, s1.sqT, p.here R ra⟩
    split at e
    · rename_i hm
      cases e
      obtain ⟨rfl, hne⟩ := hm
      obtain ⟨a1, ys, rfl, s1, r1⟩ := ra.itup
      obtain rfl := rb.iint
      refine oSem.of op_noneT ⟨_, ys, rfl, rfl, s1.sqT, fun z => ?_, fun q hq => p.tup R .nil q hq⟩
      subst z
      cases r1
      exact hne rfl
    split at e
    · rename_i hm
      cases e
      obtain ⟨a1, ys, rfl, s1, r1⟩ := ra.itup
      obtain rfl := rb.iint
      obtain ⟨h1, h2, h3, h4⟩ := hm
      refine oSem.of op_repT ⟨_, _, ys, rfl, rfl, s1.sqT, fun z => ?_, h2, h3, by rw [← r1.length]; exact h4, fun q hq => p.tup R (r1.rep _) q hq⟩
      subst z
      cases r1
      exact h1 rfl
    · cases e
  · split at e
    · rename_i hm
      cases e
      obtain rfl := ra.iint
      obtain rfl := rb.iint
      exact oSem.of op_fdivL ⟨_, _, rfl, rfl, hm, p.here R (.int _)⟩
    · cases e
  · split at e
    · rename_i hm
      cases e
      obtain rfl := ra.iint
      obtain rfl := rb.iint
      exact oSem.of op_modN ⟨_, _, rfl, rfl, hm, p.here R (.int _)⟩
    · cases e
  · split at e
    · rename_i hm
      cases e
      obtain rfl := ra.iint
      obtain rfl := rb.iint
      exact oSem.of op_pow ⟨_, _, rfl, rfl, hm, p.here R (.int _)⟩
    · cases e
  · cases e

/-! ### == != -/
theorem allO_cons {α : Type} {x : Option α} {r : List (Option α)} {ys : List α} (h : allO (x :: r) = some ys) : ∃ y zs, x = some y ∧ allO r = some zs ∧ ys = y :: zs := by
  cases x with
  | none => cases h
  | some y =>
    unfold allO at h
    split at h
    · rename_i zs e; cases h; exact ⟨y, zs, rfl, e, rfl⟩
    · cases h
theorem dats_dp {K : PySem.W.Frag} {k : Nat} (ih : ∀ v d w, dat st k v = some d → RV K kt io st.n H v w → Dp K H w d) :
    ∀ (xs : List Val) (ds : List PyData) (ws : List V), allO (xs.map (dat st k)) = some ds → RVs K kt io st.n H xs ws → DpAll K H ws ds
  | [], ds, ws, h, r => by cases r; cases h; exact .nil
  | x :: xs, ds, ws, h, r => by
    cases r with
    | cons a b =>
      obtain ⟨y, zs, e1, e2, rfl⟩ := allO_cons h
      exact .cons (ih _ _ _ e1 a) (dats_dp ih xs zs _ e2 b)
theorem dat_dp {K : PySem.W.Frag} (R : Rl K kt ca io st H) : ∀ (k : Nat) (v : Val) (d : PyData) (w : V), dat st k v = some d → RV K kt io st.n H v w → Dp K H w d
  | 0, _, _, _, h, _ => by cases h
  | k + 1, v, d, w, h, r => by
    have ih := dat_dp R k
    cases r with
    | non => cases h; exact .non
    | bl b => cases h; exact .bl b
    | int i => cases h; exact .int i
    | str x => cases h; exact .str x
    | @tup xs _ _ s q =>
      unfold dat at h
      simp only at h
      cases e : allO (List.map (dat st k) xs) with
      | none => rw [e] at h; cases h
      | some ds =>
        rw [e] at h; cases h
        exact .tup s.sqT (dats_dp ih _ _ _ e q)
    | @ref i hi =>
      unfold dat at h
      simp only at h
      split at h
      · rename_i xs em
        obtain ⟨ys, sl, q, _⟩ := R.list em
        cases e : allO (List.map (dat st k) xs) with
        | none => rw [e] at h; cases h
        | some ds =>
          rw [e] at h; cases h
          exact .lst sl (dats_dp ih _ _ _ e q)
      · cases h
theorem eq_ok {a b : Val} {x y : V} {k : Bool} {Q : VK} (hu : X.A.units + 64 < cLine) (R : Rl X.K kt ca io st H) (ra : RV X.K kt io st.n H a x) (rb : RV X.K kt io st.n H b y) (e : eqV st a b = some k) (q : Q (.bl k) H) : oSem X (compareOp .Eq) x y H Q := by
  unfold eqV at e
  split at e
  · rename_i b0 e0
    cases e
    cases ra <;> cases rb <;> simp only [eq0, Option.some.injEq, reduceCtorEq] at e0 <;> subst e0
    · exact oSem.of op_eq ⟨rfl, q⟩
    · exact oSem.of op_eq ⟨rfl, q⟩
    · exact oSem.of op_eq ⟨rfl, q⟩
    · exact oSem.of op_eq ⟨rfl, q⟩
    · exact oSem.of op_eq ⟨rfl, q⟩
    · exact oSem.of op_eq ⟨rfl, by rw [dec_bl]; exact q⟩
    · exact oSem.of (op_eqD hu) ⟨_, _, .bl _, .int _, rfl, rfl, q⟩
    · exact oSem.of op_eq ⟨rfl, q⟩
    · exact oSem.of op_eq ⟨rfl, q⟩
    · exact oSem.of (op_eqD hu) ⟨_, _, .int _, .bl _, rfl, rfl, q⟩
    · exact oSem.of op_eq ⟨rfl, by rw [dec_int, Bool.beq_eq_decide_eq]; exact q⟩
    · exact oSem.of op_eq ⟨rfl, q⟩
    · exact oSem.of op_eq ⟨rfl, q⟩
    · exact oSem.of op_eq ⟨rfl, q⟩
    · exact oSem.of op_eq ⟨rfl, q⟩
    · exact oSem.of op_eq ⟨rfl, by rw [dec_str, Bool.beq_eq_decide_eq]; exact q⟩
  · split at e
    · rename_i d1 d2 e1 e2
      split at e
      · rename_i hs
        cases e
        rw [Bool.and_eq_true] at hs
        exact oSem.of (op_eqD hu) ⟨_, _, dat_dp R _ _ _ _ e1 ra, dat_dp R _ _ _ _ e2 rb, hs.1, hs.2, q⟩
      · cases e
    · cases e
theorem ne_ok {a b : Val} {x y : V} {k : Bool} {Q : VK} (hu : X.A.units + 64 < cLine) (R : Rl X.K kt ca io st H) (ra : RV X.K kt io st.n H a x) (rb : RV X.K kt io st.n H b y) (e : eqV st a b = some k) (q : Q (.bl (!k)) H) : oSem X (compareOp .NotEq) x y H Q := by
  unfold eqV at e
  split at e
  · rename_i b0 e0
    cases e
    cases ra <;> cases rb <;> simp only [eq0, Option.some.injEq, reduceCtorEq] at e0 <;> subst e0
    · exact oSem.of op_ne ⟨rfl, q⟩
    · exact oSem.of op_ne ⟨rfl, q⟩
    · exact oSem.of op_ne ⟨rfl, q⟩
    · exact oSem.of op_ne ⟨rfl, q⟩
    · exact oSem.of op_ne ⟨rfl, q⟩
    · exact oSem.of op_ne ⟨rfl, by rw [dec_bl]; exact q⟩
    · exact oSem.of (op_neD hu) ⟨_, _, .bl _, .int _, rfl, rfl, q⟩
    · exact oSem.of op_ne ⟨rfl, q⟩
    · exact oSem.of op_ne ⟨rfl, q⟩
    · exact oSem.of (op_neD hu) ⟨_, _, .int _, .bl _, rfl, rfl, q⟩
    · exact oSem.of op_ne ⟨rfl, by rw [dec_int, Bool.beq_eq_decide_eq]; exact q⟩
    · exact oSem.of op_ne ⟨rfl, q⟩
    · exact oSem.of op_ne ⟨rfl, q⟩
    · exact oSem.of op_ne ⟨rfl, q⟩
    · exact oSem.of op_ne ⟨rfl, q⟩
    · exact oSem.of op_ne ⟨rfl, by rw [dec_str, Bool.beq_eq_decide_eq]; exact q⟩
  · split at e
    · rename_i d1 d2 e1 e2
      split at e
      · rename_i hs
        cases e
        rw [Bool.and_eq_true] at hs
        exact oSem.of (op_neD hu) ⟨_, _, dat_dp R _ _ _ _ e1 ra, dat_dp R _ _ _ _ e2 rb, hs.1, hs.2, q⟩
      · cases e
    · cases e

/-! ### in, < -/
theorem scalar_flat {K : PySem.W.Frag} {n : Nat} {a : Val} {x : V} (r : RV K kt io n H a x) (h : scalar a = true) : flatV x = true := by
  cases r <;> first | rfl | cases h
theorem scalars_flat {K : PySem.W.Frag} {n : Nat} : ∀ {xs : List Val} {ys : List V}, RVs K kt io n H xs ys → xs.all scalar = true → ys.all flatV = true
  | _, _, .nil, _ => rfl
  | _, _, .cons a b, h => by
    rw [List.all_cons, Bool.and_eq_true] at h ⊢
    exact ⟨scalar_flat a h.1, scalars_flat b h.2⟩
theorem eqF_eqV {K : PySem.W.Frag} {n : Nat} {a b : Val} {x y : V} (ra : RV K kt io n H a x) (rb : RV K kt io n H b y) (h : scalar a = true) (h' : scalar b = true) : L2.eqV x y = eqF a b := by
  cases ra <;> first | (cases h; done) | (cases rb <;> first | (cases h'; done) | rfl)
theorem any_eqF {K : PySem.W.Frag} {n : Nat} {a : Val} {x : V} (ra : RV K kt io n H a x) (h : scalar a = true) : ∀ {xs : List Val} {ys : List V}, RVs K kt io n H xs ys → xs.all scalar = true → (ys.any fun y => L2.eqV y x) = xs.any fun y => eqF y a
  | _, _, .nil, _ => rfl
  | _, _, .cons r t, q => by
    rw [List.all_cons, Bool.and_eq_true] at q
    rw [List.any_cons, List.any_cons, eqF_eqV r ra q.1 h, any_eqF ra h t q.2]
theorem in_flat {K : PySem.W.Frag} {n : Nat} {a : Val} {x : V} {xs : List Val} {ys : List V} {k : Bool} (ra : RV K kt io n H a x) (r : RVs K kt io n H xs ys) (e : inFlat a xs = some k) :
    flatV x = true ∧ ys.all flatV = true ∧ L2.inV x ys = k := by
  unfold inFlat at e
  split at e
  · rename_i h
    cases e
    rw [Bool.and_eq_true] at h
    exact ⟨scalar_flat ra h.1, scalars_flat r h.2, any_eqF ra h.1 r h.2⟩
  · cases e
theorem key1_kV {K : PySem.W.Frag} {n : Nat} {a : Val} {x : V} {k : Key} (ra : RV K kt io n H a x) (e : key1 a = some k) : x = kV k := by
  cases ra <;> cases e <;> rfl
theorem keys_kV {K : PySem.W.Frag} {n : Nat} : ∀ {xs : List Val} {ys : List V} {ks : List Key}, RVs K kt io n H xs ys → allO (xs.map key1) = some ks → ys = ks.map kV
  | _, _, _, .nil, e => by cases e; rfl
  | _, _, _, .cons r t, e => by
    obtain ⟨k, ks, e1, e2, rfl⟩ := allO_cons e
    rw [List.map_cons, ← key1_kV r e1, ← keys_kV t e2]
/-- what a store's and a heap's dict say of a key -/
def RVo (K : PySem.W.Frag) (kt : List (List Val)) (io : Nat → Addr) (n : Nat) (H : Hp) : Option Val → Option V → Prop
  | none, none => True
  | some v, some w => RV K kt io n H v w
  | _, _ => False
theorem look_o {κ : Type} [DecidableEq κ] {K : PySem.W.Frag} {n : Nat} {vs : List (κ × Val)} {ws : List (κ × V)} (q : RKs K kt io n H vs ws) (k : κ) : RVo K kt io n H (look vs k) (valV ws k) := by
  rcases q.look k with ⟨e1, e2⟩ | ⟨v, w, e1, e2, r⟩
  · rw [e1, e2]; exact trivial
  · rw [e1, e2]; exact r
theorem keyT_ok {K : PySem.W.Frag} {n : Nat} {a : Val} {x : V} {ks : List Key} (ra : RV K kt io n H a x) (e : keyT kt a = some ks) : ∃ b, x = .ref b ∧ H b = some (.tup (ks.map kV)) := by
  unfold keyT at e
  split at e
  · split at e
    · cases e
    · rename_i hn
      obtain ⟨b, ys, rfl, s, rs⟩ := ra.itup
      have := keys_kV rs e
      subst this
      rcases s with s | ⟨s, _⟩
      · exact ⟨b, rfl, s⟩
      · exact absurd s hn
  · cases e
theorem dget_ok {K : PySem.W.Frag} {o : Option Ob} {i : Nat} {k : Val} {x : V} {r : Option Val} (R : Rl K kt ca io st H) (ei : st.m i = o) (rk : RV K kt io st.n H k x) (e : dget kt o k = some r) :
    ∃ rw, DGet H (io i) x rw ∧ RVo K kt io st.n H r rw := by
  unfold dget at e
  split at e
  · split at e
    · rename_i kvs k' e1
      cases e
      obtain ⟨kws, h, q, _⟩ := R.dictK ei
      exact ⟨_, .inl ⟨kws, k', h, key1_kV rk e1, rfl⟩, look_o q k'⟩
    · cases e
  · split at e
    · rename_i kvs ks e1
      cases e
      obtain ⟨kws, h, q, _⟩ := R.dictT ei
      obtain ⟨b, rfl, hb⟩ := keyT_ok rk e1
      exact ⟨_, .inr ⟨kws, ks, b, h, rfl, hb, rfl⟩, look_o q ks⟩
    · cases e
  · cases e
theorem RVo.isSome {K : PySem.W.Frag} {n : Nat} {r : Option Val} {w : Option V} (h : RVo K kt io n H r w) : w.isSome = r.isSome := by
  cases r <;> cases w <;> first | rfl | cases h
theorem din_ok {k : Val} {x : V} {i : Nat} {o : Option Ob} {r : Option Val} {neg : Bool} {Q : VK} (hu : X.A.units + 1 < cLine) (R : Rl X.K kt ca io st H) (ei : st.m i = o) (rk : RV X.K kt io st.n H k x) (e : dget kt o k = some r) (q : Q (.bl (if neg then !r.isSome else r.isSome)) H) :
    oSem X (compareOp (if neg then .NotIn else .In)) x (.ref (io i)) H Q := by
  obtain ⟨rw', g, rr⟩ := dget_ok R ei rk e
  intro pins s σ v u I rx ry
  cases ry
  cases neg with
  | false => exact d_in hu I g rx fun s' I' => ⟨.bl rw'.isSome, H, I', rfl, by rw [rr.isSome]; exact q⟩
  | true => exact d_notIn hu I g rx fun s' I' => ⟨.bl (!rw'.isSome), H, I', rfl, by rw [rr.isSome]; exact q⟩
theorem in_ok {a b : Val} {x y : V} {k : Bool} {Q : VK} (hu : X.A.units + 65 < cLine) (R : Rl X.K kt ca io st H) (ra : RV X.K kt io st.n H a x) (rb : RV X.K kt io st.n H b y) (e : inV kt st a b = some k) :
    (Q (.bl k) H → oSem X (compareOp .In) x y H Q) ∧ (Q (.bl (!k)) H → oSem X (compareOp .NotIn) x y H Q) := by
  unfold inV at e
  split at e
  · obtain ⟨b1, ys, rfl, s, rs⟩ := rb.itup
    obtain ⟨f1, f2, rfl⟩ := in_flat ra rs e
    exact ⟨fun q => oSem.of op_in_seq ⟨_, ys, rfl, .inr s.sqT, f1, f2, q⟩, fun q => oSem.of op_notIn_seq ⟨_, ys, rfl, .inr s.sqT, f1, f2, q⟩⟩
  · split at e
    · cases e
      obtain rfl := ra.istr
      obtain rfl := rb.istr
      exact ⟨fun q => oSem.of op_in_str ⟨_, _, rfl, rfl, q⟩, fun q => oSem.of op_notin_str ⟨_, _, rfl, rfl, q⟩⟩
    · cases e
  · obtain ⟨rfl, hi⟩ := rb.iref
    split at e
    · rename_i ys em
      obtain ⟨ws, sl, rs, _⟩ := R.list em
      split at e
      · rename_i bb eb
        cases e
        obtain ⟨f1, f2, rfl⟩ := in_flat ra rs eb
        exact ⟨fun q => oSem.of op_in_seq ⟨_, ws, rfl, .inl sl, f1, f2, q⟩, fun q => oSem.of op_notIn_seq ⟨_, ws, rfl, .inl sl, f1, f2, q⟩⟩
      · split at e
        · rename_i d ds e1 e2
          split at e
          · rename_i hs
            cases e
            rw [Bool.and_eq_true] at hs
            exact ⟨fun q => oSem.of (op_inD hu) ⟨_, _, dat_dp R _ _ _ _ e1 ra, dat_dp R _ _ _ _ e2 rb, hs.1, hs.2, q⟩, fun q => oSem.of (op_notInD hu) ⟨_, _, dat_dp R _ _ _ _ e1 ra, dat_dp R _ _ _ _ e2 rb, hs.1, hs.2, q⟩⟩
          · cases e
        · cases e
    · rename_i kvs em
      cases e1 : dget kt (some (.dK kvs)) a with
      | none => rw [e1] at e; cases e
      | some r =>
        rw [e1] at e; cases e
        exact ⟨fun q => din_ok (neg := false) (by omega) R em ra e1 q, fun q => din_ok (neg := true) (by omega) R em ra e1 q⟩
    · rename_i kvs em
      cases e1 : dget kt (some (.dT kvs)) a with
      | none => rw [e1] at e; cases e
      | some r =>
        rw [e1] at e; cases e
        exact ⟨fun q => din_ok (neg := false) (by omega) R em ra e1 q, fun q => din_ok (neg := true) (by omega) R em ra e1 q⟩
    · cases e
  · cases e
def copOf : Cop → CmpOp
  | .eq => .Eq | .ne => .NotEq | .lt => .Lt | .le => .LtE | .gt => .Gt | .ge => .GtE | .has => .In | .hasnt => .NotIn
theorem okB_inv {o : Option Bool} {v : Val} (h : okB o st = .ok v st') : ∃ k, o = some k ∧ v = .bl k ∧ st' = st := by
  cases o with
  | none => cases h
  | some k => cases h; exact ⟨k, rfl, rfl, rfl⟩
theorem notO_inv {o : Option Bool} {k : Bool} (h : notO o = some k) : ∃ j, o = some j ∧ k = !j := by
  cases o with
  | none => cases h
  | some j => cases h; exact ⟨j, rfl, rfl⟩
def rEqLen (K : PySem.W.Frag) : R2 := fun x y H Q => ∃ l b xs ys, x = .ref l ∧ y = .ref b ∧ SqL K H l xs ∧ SqL K H b ys ∧ xs.length ≠ ys.length ∧ Q (.bl false) H
theorem op_eqLen (hu : X.A.units < cLine) : OpR X (compareOp .Eq) (rEqLen X.K) := by
  intro pins s σ H x y v u Q I rx ry h
  obtain ⟨l, b, xs, ys, rfl, rfl, h1, h2, hne, q⟩ := h
  cases rx
  cases ry
  obtain ⟨its, r, ⟨⟨cls, dd, data, sl⟩, n, ho, hc, hd, hdat⟩, hz⟩ := I.list h1
  obtain ⟨its2, r2, ⟨⟨cls2, dd2, data2, sl2⟩, n2, ho2, hc2, hd2, hdat2⟩, hz2⟩ := I.list h2
  simp only at hc hd hc2 hd2 hdat hdat2
  subst hc hd hc2 hd2 hdat hdat2
  have ta : s.TypeIs (.ref l) "list" := ⟨_, ho, rfl⟩
  have tb : s.TypeIs (.ref b) "list" := ⟨_, ho2, rfl⟩
  have c0 : (its.toArray.size != its2.toArray.size) = true := by
    rw [List.size_toArray, List.size_toArray, ← r.length, ← r2.length]
    simpa using hne
  exact wpAny_richCompare_same_room (op := .Eq) ta tb F.slot_list_eq (call_meets F.slot_list_eq ta F.entry_list_eq (F.args_list_eq_2 _ _) (PySem.SeqAt.list_eq_lengthsAt l b its.toArray its2.toArray n n2 none none sl sl2 c0)
    ⟨ho, ho2, ⟨(fun x => nomatch x), ⟨.bl false, H, I, rfl, q⟩⟩⟩) hu
def rNeLen (K : PySem.W.Frag) : R2 := fun x y H Q => ∃ l b xs ys, x = .ref l ∧ y = .ref b ∧ SqL K H l xs ∧ SqL K H b ys ∧ xs.length ≠ ys.length ∧ Q (.bl true) H
theorem op_neLen (hu : X.A.units < cLine) : OpR X (compareOp .NotEq) (rNeLen X.K) := by
  intro pins s σ H x y v u Q I rx ry h
  obtain ⟨l, b, xs, ys, rfl, rfl, h1, h2, hne, q⟩ := h
  cases rx
  cases ry
  obtain ⟨its, r, ⟨⟨cls, dd, data, sl⟩, n, ho, hc, hd, hdat⟩, hz⟩ := I.list h1
  obtain ⟨its2, r2, ⟨⟨cls2, dd2, data2, sl2⟩, n2, ho2, hc2, hd2, hdat2⟩, hz2⟩ := I.list h2
  simp only at hc hd hc2 hd2 hdat hdat2
  subst hc hd hc2 hd2 hdat hdat2
  have ta : s.TypeIs (.ref l) "list" := ⟨_, ho, rfl⟩
  have tb : s.TypeIs (.ref b) "list" := ⟨_, ho2, rfl⟩
  have c0 : (its.toArray.size != its2.toArray.size) = true := by
    rw [List.size_toArray, List.size_toArray, ← r.length, ← r2.length]
    simpa using hne
  exact wpAny_richCompare_same_room (op := .NotEq) ta tb F.slot_list_ne (call_meets F.slot_list_ne ta F.entry_list_ne (F.args_list_ne_2 _ _) (PySem.SeqAt.list_ne_lengthsAt l b its.toArray its2.toArray n n2 none none sl sl2 c0)
    ⟨ho, ho2, ⟨(fun x => nomatch x), ⟨.bl true, H, I, rfl, q⟩⟩⟩) hu
theorem op_ltB {X : Cx} : OpR X (compareOp .Lt) (fun x y H Q => ∃ i j, x = .bl i ∧ y = .bl j ∧ Q (.bl (!i && j)) H) := by
  intro pins s σ H x y v u Q I rx ry h
  obtain ⟨i, j, rfl, rfl, q⟩ := h
  cases rx
  cases ry
  exact PyProof.Rows.lt_bool (fin_bl I q (by cases i <;> cases j <;> rfl))
theorem cop_ok {o : Cop} {a b v : Val} {x y : V} {Q : VK} (hu : X.A.units + 65 < cLine) (R : Rl X.K kt ca io st H) (ra : RV X.K kt io st.n H a x) (rb : RV X.K kt io st.n H b y) (e : cop kt o a b st = .ok v st') (p : Post X.K kt ca io st H v st' Q) :
    oSem X (compareOp (copOf o)) x y H Q := by
  unfold cop at e
  split at e
  · split at e
    · rename_i k e1
      cases e
      exact eq_ok (by omega) R ra rb e1 (p.here R (.bl _))
    · split at e
      · rename_i hl
        cases e
        unfold lenNe at hl
        split at hl
        · split at hl
          · rename_i e1 e2
            obtain ⟨rfl, _⟩ := ra.iref
            obtain ⟨rfl, _⟩ := rb.iref
            obtain ⟨ys1, s1, r1, _⟩ := R.list e1
            obtain ⟨ys2, s2, r2, _⟩ := R.list e2
            exact oSem.of (op_eqLen (by omega)) ⟨_, _, _, _, rfl, rfl, s1, s2, by rw [← r1.length, ← r2.length]; exact of_decide_eq_true hl, p.here R (.bl _)⟩
          · cases hl
        · cases hl
      · cases e
  · split at e
    · rename_i k e1
      cases e
      exact ne_ok (by omega) R ra rb e1 (p.here R (.bl _))
    · split at e
      · rename_i hl
        cases e
        unfold lenNe at hl
        split at hl
        · split at hl
          · rename_i e1 e2
            obtain ⟨rfl, _⟩ := ra.iref
            obtain ⟨rfl, _⟩ := rb.iref
            obtain ⟨ys1, s1, r1, _⟩ := R.list e1
            obtain ⟨ys2, s2, r2, _⟩ := R.list e2
            exact oSem.of (op_neLen (by omega)) ⟨_, _, _, _, rfl, rfl, s1, s2, by rw [← r1.length, ← r2.length]; exact of_decide_eq_true hl, p.here R (.bl _)⟩
          · cases hl
        · cases hl
      · cases e
  · obtain ⟨k, e1, rfl, rfl⟩ := okB_inv e
    exact (in_ok hu R ra rb e1).1 (p.here R (.bl _))
  · obtain ⟨k, e1, rfl, rfl⟩ := okB_inv e
    obtain ⟨j, e2, rfl⟩ := notO_inv e1
    exact (in_ok hu R ra rb e2).2 (p.here R (.bl _))
  · split at e
    · cases e; obtain rfl := ra.iint; obtain rfl := rb.iint
      exact oSem.of op_lt ⟨_, _, rfl, rfl, p.here R (.bl _)⟩
    · cases e; obtain rfl := ra.ibl; obtain rfl := rb.ibl
      exact oSem.of op_ltB ⟨_, _, rfl, rfl, p.here R (.bl _)⟩
    · cases e
  · split at e
    · cases e; obtain rfl := ra.iint; obtain rfl := rb.iint
      exact oSem.of op_le ⟨_, _, rfl, rfl, p.here R (.bl _)⟩
    · cases e
  · split at e
    · cases e; obtain rfl := ra.iint; obtain rfl := rb.iint
      exact oSem.of op_gt ⟨_, _, rfl, rfl, p.here R (.bl _)⟩
    · cases e
  · split at e
    · cases e; obtain rfl := ra.iint; obtain rfl := rb.iint
      exact oSem.of op_ge ⟨_, _, rfl, rfl, p.here R (.bl _)⟩
    · cases e
end
end CL

/-! CL, part d: subscripts, cuts, stores, built-ins -/
namespace CL
open PySem PySem.Spec PyProof.Rows L2
section
variable {X : Cx} {kt : List (List Val)} {ca io : Nat → Addr} {st st' : Store} {H : Hp}

/-! ### a[i] -/
/-- what a plain subscript of values must do -/
def iSem (X : Cx) : R2 := fun x y H Q => ∀ (value slice : Expr) (pins : List (Addr × Obj)) (s : Shared) (σ : L2.St) (v u : Value), Inv X pins σ H s → RelV x v → RelV y u →
    subscripted slice false v u = operate [v, u] (getItem v u) → wpAny (model X.prog X.w) X.A (subscriptTail value slice v u) (EP X pins σ Q) X.xe s
theorem ix_sem : IxR X (iSem X) := fun value slice pins s σ H x y v u Q I rx ry h hs => h value slice pins s σ v u I rx ry hs
theorem iSem.of {r : R2} (ho : IxR X r) {x y : V} {H : Hp} {Q : VK} (h : r x y H Q) : iSem X x y H Q := fun value slice pins s σ v u I rx ry hs => ho value slice pins s σ H x y v u Q I rx ry h hs
def rDGet : R2 := fun x y H Q => ∃ a v, x = .ref a ∧ DGet H a y (some v) ∧ Q v H
theorem ix_dict (hu : X.A.units + 1 < cLine) : IxR X rDGet := by
  intro value slice pins s σ H x y v u Q I rx ry h hs
  obtain ⟨a, w, rfl, g, q⟩ := h
  cases rx
  exact tail_any (dict_typeIs I g) PySem.F.slot_dict_getitem.lookup (d_getItem hu I g ry fun w' s' I' r => ⟨w, H, I', r, q⟩) hs
theorem sub_ok {a b v : Val} {x y : V} {Q : VK} (hu : X.A.units + 65 < cLine) (R : Rl X.K kt ca io st H) (ra : RV X.K kt io st.n H a x) (rb : RV X.K kt io st.n H b y) (e : subV kt a b st = .ok v st') (p : Post X.K kt ca io st H v st' Q) :
    iSem X x y H Q := by
  unfold subV at e
  split at e
  · split at e
    · split at e
      · rename_i w e1
        cases e
        obtain ⟨a1, ys, rfl, s, rs⟩ := ra.itup
        obtain rfl := rb.iint
        obtain ⟨z, e2, rz⟩ := rs.atI e1
        exact iSem.of ix_tup ⟨_, ys, _, z, rfl, rfl, s.sqT, e2, p.here R rz⟩
      · cases e
    · cases e
  · split at e
    · split at e
      · rename_i hf
        split at e
        · rename_i c e1
          cases e
          obtain rfl := ra.istr
          obtain rfl := rb.iint
          exact iSem.of ix_str ⟨_, _, c, rfl, rfl, fits_le hf, e1, p.here R (.str _)⟩
        · cases e
      · cases e
    · cases e
  · obtain ⟨rfl, hi⟩ := ra.iref
    split at e
    · rename_i xs em
      split at e
      · split at e
        · rename_i w e1
          cases e
          obtain rfl := rb.iint
          obtain ⟨ys, sl, rs, _⟩ := R.list em
          obtain ⟨z, e2, rz⟩ := rs.atI e1
          exact iSem.of ix_list ⟨_, ys, _, z, rfl, rfl, sl, e2, p.here R rz⟩
        · cases e
      · cases e
    · split at e
      · rename_i w e1
        cases e
        obtain ⟨rw', g, rr⟩ := dget_ok R rfl rb e1
        cases rw' with
        | none => cases rr
        | some z => exact iSem.of (ix_dict (by omega)) ⟨_, z, rfl, g, p.here R rr⟩
      · cases e
  · cases e

/-! ### a[lo:hi] -/
def sSem (X : Cx) : V → Option Int → Option Int → Hp → VK → Prop := fun x lo hi H Q => ∀ (pins : List (Addr × Obj)) (s : Shared) (σ : L2.St) (v vl vu : Value) (sl : Addr), Inv X pins σ H s → RelV x v → s.heap.IsSliceOf sl vl vu .none → IsPart vl lo → IsPart vu hi →
    ∃ T id, typeLookup (.type T) "__getitem__" = pure (some (.builtin id)) ∧ s.TypeIs v T ∧ wpAny (model X.prog X.w) X.A (getItem v (.ref sl)) (EP X pins σ Q) X.xe s
theorem sl_sem : SlR X (sSem X) := fun pins s σ H x v vl vu lo hi sl Q I rx hs pl pu h => h pins s σ v vl vu sl I rx hs pl pu
theorem sSem.of {r : V → Option Int → Option Int → Hp → VK → Prop} (ho : SlR X r) {x : V} {lo hi : Option Int} {H : Hp} {Q : VK} (h : r x lo hi H Q) : sSem X x lo hi H Q := fun pins s σ v vl vu sl I rx hs pl pu => ho pins s σ H x v vl vu lo hi sl Q I rx hs pl pu h
theorem cutL_all {α : Type} {xs : List α} {lo hi : Option Int} (h : HT.sIx xs.length 0 lo = 0 ∧ HT.sIx xs.length xs.length hi = xs.length) : cutL xs lo hi = xs := by
  unfold cutL
  rw [h.1, h.2]; simp
theorem cut_ok {a v : Val} {l h : Option Val} {lo hi : Option Int} {x : V} {Q : VK} (R : Rl X.K kt ca io st H) (ra : RV X.K kt io st.n H a x) (el : part l = some lo) (eh : part h = some hi) (e : cutV a l h st = .ok v st') (p : Post X.K kt ca io st H v st' Q) :
    sSem X x lo hi H Q := by
  unfold cutV at e
  rw [el, eh] at e
  simp only at e
  split at e
  · cases e
    obtain ⟨a1, ys, rfl, s, rs⟩ := ra.itup
    refine sSem.of sl_tupA ⟨_, ys, rfl, s.sqT, fun z => ?_, fun _ q hq => p.tup R (rs.cut lo hi) q hq⟩
    rw [← rs.length] at z
    rw [cutL_all z] at p
    exact p.here R (.tup s rs)
  · split at e
    · rename_i hf
      cases e
      obtain rfl := ra.istr
      exact sSem.of sl_str ⟨_, rfl, fits_le hf, p.here R (.str _)⟩
    · cases e
  · split at e
    · rename_i xs em
      cases e
      obtain ⟨rfl, hi'⟩ := ra.iref
      obtain ⟨ys, sl, rs, _⟩ := R.list em
      exact sSem.of sl_list ⟨_, ys, rfl, sl, fun q hq => p.list R (rs.cut lo hi) q hq⟩
    · cases e
  · cases e

/-! ### o[i] = v -/
theorem Inv.toT {pins : List (Addr × Obj)} {σ : L2.St} {H : Hp} {s : Shared} {a : Addr} (I : L2.Inv X pins σ H s) (h : H a = some (.dK [])) : L2.Inv X pins σ (upd H a (.dT [])) s := by
  obtain ⟨z, hd, vs, r, o, es, ep, ho, ex, ed, kk, pp, nd⟩ := (show ObjOk X.prog X.w H s.heap a (.dK []) from I.hok a _ h)
  cases r
  have ee : es.toList = [] := by
    generalize es.toList = l at pp
    cases pp; rfl
  refine I.write (x := a) (e := a) (o := .dT []) (h' := s.heap) (t' := s.toks) (by rw [h]; exact trivial) (.inl rfl) (fun b u _ q => q) ⟨o, ho⟩ ?_
  exact ⟨z, hd, [], .nil, o, es, ep, ho, ex, ed, by rw [ee]; rfl, by simp⟩
theorem put_ok {a b c v : Val} {x y z : V} {Q : Hp → Prop} (hu : X.A.units + 65 < cLine) (R : Rl X.K kt ca io st H) (ra : RV X.K kt io st.n H a x) (rb : RV X.K kt io st.n H b y) (rc : RV X.K kt io st.n H c z) (e : putV kt a b c st = .ok v st')
    (p : ∀ H', Up io st.n H io st'.n H' → Rl X.K kt ca io st' H' → Q H') : gSem X x y z H Q := by
  unfold putV at e
  have wr_inv : ∀ {i : Nat} {o : Ob}, wr i o st = .ok v st' → st.ro i = false ∧ st' = st.set i o := fun {i o} h => by
    unfold wr at h
    split at h
    · cases h
    · rename_i hr; cases h; exact ⟨by simpa using hr, rfl⟩
  split at e
  · obtain ⟨rfl, hi⟩ := ra.iref
    split at e
    · rename_i xs em
      split at e
      · split at e
        · rename_i k j ej
          obtain ⟨hr, rfl⟩ := wr_inv e
          obtain rfl := rb.iint
          obtain ⟨ys, sl, rs, hl⟩ := R.list em
          refine gSem.of set_list ⟨_, ys, _, j, rfl, rfl, hl hr, by rw [← rs.length]; exact ej, ?_⟩
          have up := Up.wr (io := io) (st := st) (.lst (ys.set j z)) (hl hr) trivial
          exact p _ up (R.wr hi hr (.lst upd_same ((rs.set rc j).up up)))
        · cases e
      · cases e
    · rename_i kvs em
      split at e
      · rename_i k ek
        split at e
        · rename_i hz
          obtain ⟨hr, rfl⟩ := wr_inv e
          obtain rfl := key1_kV rb ek
          obtain ⟨kws, _, q, hl⟩ := R.dictK em
          refine gSem.of (set_dict (by omega)) ⟨_, _, rfl, .k (hl hr) (by rw [← q.length]; exact hz), ?_⟩
          have up := Up.wr (io := io) (st := st) (.dK (putK kws k z)) (hl hr) trivial
          exact p _ up (R.wr hi hr (.dK upd_same ((q.put k rc).up up)))
        · cases e
      · split at e
        · rename_i ks ek
          split at e
          · rename_i hz
            obtain ⟨hr, rfl⟩ := wr_inv e
            obtain ⟨b1, rfl, hb⟩ := keyT_ok rb ek
            obtain ⟨kws, _, q, hl⟩ := R.dictK em
            have hk : kws = [] := by
              have := q.empty
              rw [hz] at this
              cases kws with
              | nil => rfl
              | cons _ _ => cases this
            subst hk
            have h0 := hl hr
            intro pins s σ ov iv u I ro ri rv
            have I2 := Inv.toT I h0
            have hne : b1 ≠ io _ := ne_of hb h0 (fun z => by cases z)
            refine thn (set_dict (X := X) (by omega) pins s σ _ _ _ _ ov iv u Q I2 ro ri rv ⟨_, _, rfl, .t (kvs := []) (k := ks) upd_same ((upd_ne hne).trans hb) (by decide), ?_⟩) fun _ _ q => q
            rw [upd_upd]
            have up := Up.wr (io := io) (st := st) (.dT (putK [] ks z)) h0 trivial
            exact p _ up (R.wr hi hr (.dT upd_same (RKs.cons (rc.up up) .nil)))
          · cases e
        · cases e
    · rename_i kvs em
      split at e
      · rename_i ks ek
        split at e
        · rename_i hz
          obtain ⟨hr, rfl⟩ := wr_inv e
          obtain ⟨b1, rfl, hb⟩ := keyT_ok rb ek
          obtain ⟨kws, _, q, hl⟩ := R.dictT em
          refine gSem.of (set_dict (by omega)) ⟨_, _, rfl, .t (hl hr) hb (by rw [← q.length]; exact hz), ?_⟩
          have up := Up.wr (io := io) (st := st) (.dT (putK kws ks z)) (hl hr) trivial
          exact p _ up (R.wr hi hr (.dT upd_same ((q.put ks rc).up up)))
        · cases e
      · cases e
    · cases e
  · cases e

/-! ### truth -/
theorem tru_ok {a : Val} {x : V} {k : Bool} (R : Rl X.K kt ca io st H) (ra : RV X.K kt io st.n H a x) (e : tru st a = some k) : TruV X.K x H k := by
  cases ra with
  | non => cases e; rfl
  | bl b => cases e; rfl
  | int i => cases e; rfl
  | str z =>
    unfold tru at e
    simp only at e
    split at e
    · rename_i hf
      cases e
      refine ⟨fits_le hf, ?_⟩
      cases z.length <;> rfl
    · cases e
  | tup s r => cases e; exact .inr (.inl ⟨_, s.sqT, by rw [r.empty]⟩)
  | @ref i hi =>
    unfold tru at e
    simp only at e
    split at e
    · rename_i xs em
      cases e
      obtain ⟨ys, sl, rs, _⟩ := R.list em
      exact .inl ⟨ys, sl, by rw [rs.empty]⟩
    · rename_i kvs em
      split at e
      · cases e
      · rename_i hr
        cases e
        obtain ⟨kws, _, q, hl⟩ := R.dictK em
        exact .inr (.inr ⟨kws, hl (by simpa using hr), by rw [q.empty]⟩)
    · cases e

/-! ### built-in functions -/
def bfName : Bf → Str
  | .len => "len" | .abs => "abs" | .list => "list" | .tuple => "tuple" | .int => "int" | .any => "any" | .all => "all" | .min2 => "min" | .max2 => "max" | .str => "str" | .sorted => "sorted" | .dict => "dict" | .set => "set" | .divmod => "divmod"
def bfVal : Bf → Value
  | .len => .builtin "len" | .abs => .builtin "abs" | .list => .type "list" | .tuple => .type "tuple" | .int => .type "int" | .any => .builtin "any" | .all => .builtin "all" | .min2 => .builtin "min" | .max2 => .builtin "max" | .str => .type "str" | .sorted => .builtin "sorted" | .dict => .type "dict" | .set => .type "set" | .divmod => .builtin "divmod"
theorem bools_ok {K : PySem.W.Frag} {n : Nat} : ∀ {xs : List Val} {ys : List V} {bs : List Bool}, RVs K kt io n H xs ys → bools xs = some bs → ys = bs.map V.bl
  | _, _, _, .nil, e => by cases e; rfl
  | _, _, _, .cons r t, e => by
    cases r with
    | bl b =>
      unfold bools at e
      split at e
      · rename_i bs e1; cases e; rw [List.map_cons, ← bools_ok t e1]
      · cases e
    | _ => cases e
theorem ints_ok {K : PySem.W.Frag} {n : Nat} : ∀ {xs : List Val} {ys : List V} {is : List Int}, RVs K kt io n H xs ys → intsO xs = some is → ys = is.map V.int
  | _, _, _, .nil, e => by cases e; rfl
  | _, _, _, .cons r t, e => by
    cases r with
    | int b =>
      unfold intsO at e
      split at e
      · rename_i bs e1; cases e; rw [List.map_cons, ← ints_ok t e1]
      · cases e
    | _ => cases e
theorem ints_rvs {K : PySem.W.Frag} {n : Nat} : ∀ ns : List Int, RVs K kt io n H (ns.map .int) (ns.map V.int)
  | [] => .nil
  | x :: r => .cons (.int x) (ints_rvs r)
theorem sort_uniq {ns is : List Int} (h1 : ns.Perm is) (h2 : ns.Pairwise (· ≤ ·)) : ns = is.mergeSort (fun i j => decide (i ≤ j)) := by
  have p2 : (is.mergeSort (fun i j => decide (i ≤ j))).Perm is := List.mergeSort_perm _ _
  have q2 : (is.mergeSort (fun i j => decide (i ≤ j))).Pairwise (fun a b => decide (a ≤ b) = true) := List.pairwise_mergeSort (fun a b c h1 h2 => by simp at *; omega) (fun a b => by simp; omega) _
  refine List.Perm.eq_of_pairwise (le := fun a b : Int => a ≤ b) (fun a b _ _ h1 h2 => by omega) h2 (q2.imp (by intro a b h; simpa using h)) (h1.trans p2.symm)
theorem pairs_okV {K : PySem.W.Frag} {n : Nat} : ∀ {xs : List Val} {ys : List V} {kvs : List (Key × Val)}, RVs K kt io n H xs ys → pairsO xs = some kvs →
    ∃ (ps : List Addr) (kws : List (Key × V)), ys = ps.map V.ref ∧ Paired (fun p kv => SqT K H p [kV kv.1, kv.2]) ps kws ∧ RKs K kt io n H kvs kws
  | _, _, _, .nil, e => by cases e; exact ⟨[], [], rfl, .nil, .nil⟩
  | _, _, _, .cons (x := x) r t, e => by
    cases r with
    | tup sq rs =>
      rename_i xs a ys
      match xs, e with
      | [k, v], e =>
        unfold pairsO at e
        split at e
        · rename_i k' r' e1 e2
          cases e
          obtain ⟨ps, kws, rfl, hp, hk⟩ := pairs_okV t e2
          obtain ⟨w, u, rfl, r1, r2⟩ := rs.two
          refine ⟨a :: ps, (k', u) :: kws, rfl, .cons ?_ hp, .cons r2 hk⟩
          have : w = kV k' := by
            cases r1 with
            | int i => cases e1; rfl
            | str z => cases e1; rfl
            | _ => cases e1
          subst this
          exact sq.sqT
        · cases e
      | [], e => cases e
      | [_], e => cases e
      | _ :: _ :: _ :: _, e => cases e
    | _ => cases e
theorem keysI_ok {K : PySem.W.Frag} {n : Nat} : ∀ {kvs : List (Key × Val)} {kws : List (Key × V)} {ks : List Int}, RKs K kt io n H kvs kws → keysI kvs = some ks → kws.map (·.1) = ks.map Sum.inl
  | _, _, _, .nil, e => by cases e; rfl
  | _, _, _, .cons (k := k) r t, e => by
    cases k with
    | inl i =>
      unfold keysI at e
      split at e
      · rename_i ks' e1; cases e; rw [List.map_cons, List.map_cons, keysI_ok t e1]
      · cases e
    | inr x => cases e
theorem call_dictC {X : Cx} : CallR X (.type "dict") (fun xs H Q => ∃ (a : Addr) (kvs : List (Key × V)), xs = [.ref a] ∧ Rd H a (.dK kvs) ∧ ∀ b, H b = none → Q (.ref b) (upd H b (.dK kvs))) := by
  rintro pins s σ H xs us Q I rv ⟨a, kvs, rfl, e, q⟩
  obtain ⟨u, rfl, ru⟩ := rv.one
  cases (show u = Value.ref a from ru)
  exact d_copyOf I e fun b s' hb I' => ⟨.ref b, _, I', rfl, q b hb⟩
theorem bf_ok {b : Bf} {vs : List Val} {v : Val} {xs : List V} {Q : VK} (hc : X.calm = true) (R : Rl X.K kt ca io st H) (rv : RVs X.K kt io st.n H vs xs) (e : bfn b vs st = .ok v st') (p : Post X.K kt ca io st H v st' Q) :
    cSem X (bfVal b) xs H Q := by
  unfold bfn at e
  split at e
  · obtain ⟨w, rfl, r⟩ := rv.one
    obtain rfl := r.istr
    split at e
    · rename_i hf
      cases e
      exact cSem.of call_len_str ⟨_, rfl, fits_le hf, p.here R (.int _)⟩
    · cases e
  · obtain ⟨w, rfl, r⟩ := rv.one
    obtain ⟨a, ys, rfl, s, rs⟩ := r.itup
    cases e
    exact cSem.of call_len_seq ⟨_, ys, rfl, .inr s.sqT, by rw [← rs.length]; exact p.here R (.int _)⟩
  · obtain ⟨w, rfl, r⟩ := rv.one
    obtain ⟨rfl, hi⟩ := r.iref
    split at e
    · rename_i zs em
      cases e
      obtain ⟨ys, sl, rs, _⟩ := R.list em
      exact cSem.of call_len_seq ⟨_, ys, rfl, .inl sl, by rw [← rs.length]; exact p.here R (.int _)⟩
    · rename_i kvs em
      split at e
      · cases e
      · rename_i hr
        cases e
        obtain ⟨kws, _, q, hl⟩ := R.dictK em
        exact cSem.of call_lenD ⟨_, kws, rfl, hl (by simpa using hr), by rw [← q.length]; exact p.here R (.int _)⟩
    · cases e
  · obtain ⟨w, rfl, r⟩ := rv.one
    obtain rfl := r.iint
    cases e
    exact cSem.of call_abs ⟨_, rfl, p.here R (.int _)⟩
  · obtain ⟨w, rfl, r⟩ := rv.one
    obtain ⟨a, ys, rfl, s, rs⟩ := r.itup
    cases e
    exact cSem.of call_list_of ⟨_, ys, rfl, .inr s.sqT, fun q hq => p.list R rs q hq⟩
  · obtain ⟨w, rfl, r⟩ := rv.one
    obtain ⟨rfl, hi⟩ := r.iref
    split at e
    · rename_i zs em
      cases e
      obtain ⟨ys, sl, rs, _⟩ := R.list em
      exact cSem.of call_list_of ⟨_, ys, rfl, .inl sl, fun q hq => p.list R rs q hq⟩
    · cases e
  · obtain ⟨w, rfl, r⟩ := rv.one
    obtain ⟨a, ys, rfl, s, rs⟩ := r.itup
    cases e
    exact cSem.of call_tuple_of ⟨_, ys, rfl, .inr ⟨s.sqT, p.here R (.tup s rs)⟩⟩
  · obtain ⟨w, rfl, r⟩ := rv.one
    obtain ⟨rfl, hi⟩ := r.iref
    split at e
    · rename_i zs em
      cases e
      obtain ⟨ys, sl, rs, _⟩ := R.list em
      exact cSem.of call_tuple_of ⟨_, ys, rfl, .inl ⟨sl, fun q hq => p.tup R rs q hq⟩⟩
    · cases e
  · obtain ⟨w, rfl, r⟩ := rv.one
    obtain rfl := r.iint
    cases e
    exact cSem.of call_int1 (.inl ⟨_, rfl, p.here R (.int _)⟩)
  · obtain ⟨w, rfl, r⟩ := rv.one
    obtain rfl := r.ibl
    cases e
    exact cSem.of call_int1 (.inr ⟨_, rfl, p.here R (.int _)⟩)
  · obtain ⟨w, rfl, r⟩ := rv.one
    obtain ⟨rfl, hi⟩ := r.iref
    split at e
    · rename_i zs em
      split at e
      · rename_i bs eb
        cases e
        obtain ⟨ys, sl, rs, _⟩ := R.list em
        obtain rfl := bools_ok rs eb
        exact cSem.of (cr_any hc) ⟨_, bs, rfl, sl, p.here R (.bl _)⟩
      · cases e
    · cases e
  · obtain ⟨w, rfl, r⟩ := rv.one
    obtain ⟨rfl, hi⟩ := r.iref
    split at e
    · rename_i zs em
      split at e
      · rename_i bs eb
        cases e
        obtain ⟨ys, sl, rs, _⟩ := R.list em
        obtain rfl := bools_ok rs eb
        exact cSem.of (cr_all hc) ⟨_, bs, rfl, sl, p.here R (.bl _)⟩
      · cases e
    · cases e
  · obtain ⟨w, u, rfl, r1, r2⟩ := rv.two
    obtain rfl := r1.iint
    obtain rfl := r2.iint
    cases e
    exact cSem.of (call_min2 hc) ⟨_, _, rfl, p.here R (.int _)⟩
  · obtain ⟨w, u, rfl, r1, r2⟩ := rv.two
    obtain rfl := r1.iint
    obtain rfl := r2.iint
    cases e
    exact cSem.of (call_max2 hc) ⟨_, _, rfl, p.here R (.int _)⟩
  · obtain ⟨w, rfl, r⟩ := rv.one
    obtain rfl := r.iint
    split at e
    · rename_i hl
      cases e
      exact cSem.of call_str_int ⟨_, rfl, hl, p.here R (.str _)⟩
    · cases e
  · obtain ⟨w, rfl, r⟩ := rv.one
    obtain ⟨rfl, hi⟩ := r.iref
    split at e
    · rename_i zs em
      split at e
      · rename_i is eb
        cases e
        obtain ⟨ys, sl, rs, _⟩ := R.list em
        obtain rfl := ints_ok rs eb
        refine cSem.of cr_sortedI ⟨_, is, rfl, sl, fun ns' q h1 h2 hq => ?_⟩
        rw [sort_uniq h1 h2]
        exact p.list R (ints_rvs _) q hq
      · cases e
    · rename_i kvs em
      split at e
      · rename_i ks eb
        split at e
        · rename_i h64
          cases e
          obtain ⟨kws, rd, q, _⟩ := R.dictK em
          refine cSem.of (call_sortedDI hc) ⟨_, kws, ks, rfl, rd, keysI_ok q eb, h64, fun ns' q h1 h2 hq => ?_⟩
          rw [sort_uniq h1 h2]
          exact p.list R (ints_rvs _) q hq
        · cases e
      · cases e
    · cases e
  · obtain ⟨w, rfl, r⟩ := rv.one
    obtain ⟨rfl, hi⟩ := r.iref
    split at e
    · rename_i zs em
      split at e
      · rename_i kvs eb
        cases e
        obtain ⟨ys, sl, rs, _⟩ := R.list em
        obtain ⟨ps, kws, rfl, hp, hk⟩ := pairs_okV rs eb
        refine cSem.of (call_dictP hc) ⟨_, ps, kws, rfl, sl, hp, fun q hq => p.made (u := .dK (mergeK [] kws)) R (fun a ha => .dK upd_same ((RKs.merge hk .nil).up (Up.new _ ha))) q hq⟩
      · cases e
    · rename_i kvs em
      cases e
      obtain ⟨kws, rd, q, _⟩ := R.dictK em
      refine cSem.of call_dictC ⟨_, kws, rfl, rd, fun b hb => p.made (u := .dK kws) R (fun a ha => .dK upd_same (q.up (Up.new _ ha))) b hb⟩
    · cases e
  · split at e
    · rename_i i j hh
      cases e
      obtain ⟨w1, w2, rfl, r1, r2⟩ := rv.two
      obtain rfl := r1.iint
      obtain rfl := r2.iint
      exact cSem.of call_divmod ⟨i, j, rfl, hh, fun q hq => p.tup R (.cons (.int _) (.cons (.int _) .nil)) q hq⟩
    · cases e
  · cases e

/-! ### methods of lists -/
def bmName : Bm → Str
  | .append => "append" | .pop => "pop" | .count => "count" | .index => "index" | .extend => "extend"
def bmId : Bm → String
  | .append => "list.append" | .pop => "list.pop" | .count => "list.count" | .index => "list.index" | .extend => "list.extend"
/-- l.count(x) of data -/
def rCountD (K : PySem.W.Frag) : V → List V → Hp → VK → Prop := fun x xs H Q => ∃ (a : Addr) (y : V) (d : PyData) (ds : List PyData), x = V.ref a ∧ xs = [y] ∧ Dp K H (V.ref a) (.list ds) ∧ Dp K H y d ∧
  SeqAt.shaped (.list ds) = true ∧ SeqAt.shaped d = true ∧ Q (.int (ds.countP fun z => PyData.eqv z d : Nat)) H
theorem mt_countD (hu : X.A.units + 65 < cLine) : MtR X "list.count" (rCountD X.K) := by
  intro pins s σ H x xs v us Q I rx rxs h
  obtain ⟨a, y, d, ds, rfl, rfl, hl, hy, sl, sd, q⟩ := h
  cases rx
  cases rxs with
  | cons ry rt =>
    rename_i uy ut
    cases rt
    obtain ⟨bs, r1⟩ := Dp.reads I d y uy hy ry
    have hxs : PyData.canLayAll0 ds = true := SeqAt.canLay_of_shaped sl
    have hroom : X.A.units + 1 + min (PyData.depthAll ds) d.depth < cLine := room_in_shaped sd hu
    cases hl with
    | lst hs ha =>
      obtain ⟨its, rv, ⟨⟨cls, dd, data, sls⟩, n, ho, hc, hdn, hdt⟩, hlen⟩ := I.list hs
      simp only at hc hdt
      subst hc hdt
      obtain ⟨as, h4⟩ := Dp.readsAll I ds _ its ha rv
      have hmap : its.map (SeqAt.readOf s.heap) = ds := SeqAt.readsAll_map ds its as hxs h4
      refine call_meets PySem.F.slot_list_count ⟨_, ho, rfl⟩ PySem.F.entry_list_count (PySem.F.args_list_count_2 _ _)
        (SeqAt.list_countAt a its.toArray n dd sls uy (fun u => PyData.eqv (SeqAt.readOf s.heap u) d)) ⟨ho, SeqAt.items_eqAt (vs := its.toArray) (show ReadsAll s.heap its.toArray.toList ds as from h4) r1 hxs (SeqAt.canLay_of_shaped sd) hroom, ?_⟩
      refine ⟨.int (ds.countP fun z => PyData.eqv z d : Nat), H, I.tok _, ⟨s.toks, ?_⟩, q⟩
      show Value.int ((its.toArray.toList.countP (fun u => PyData.eqv (SeqAt.readOf s.heap u) d) : Nat) : Int) s.toks = Value.int ((ds.countP fun z => PyData.eqv z d : Nat) : Int) s.toks
      rw [← hmap, List.countP_map]
      rfl
theorem wr_inv {i : Nat} {o : Ob} {v : Val} (h : wr i o st = .ok v st') : st.ro i = false ∧ v = .non ∧ st' = st.set i o := by
  unfold wr at h
  split at h
  · cases h
  · rename_i hr; cases h; exact ⟨by simpa using hr, rfl, rfl⟩
theorem bm_ok (hu : X.A.units + 65 < cLine) {b : Bm} {a v : Val} {vs : List Val} {x : V} {xs : List V} {Q : VK} (R : Rl X.K kt ca io st H) (ra : RV X.K kt io st.n H a x) (rv : RVs X.K kt io st.n H vs xs) (e : bmt b a vs st = .ok v st') (p : Post X.K kt ca io st H v st' Q) :
    mSem X (bmId b) x xs H Q := by
  unfold bmt at e
  split at e
  · obtain ⟨rfl, hi⟩ := ra.iref
    split at e
    · rename_i em
      split at e
      · rename_i hz
        obtain ⟨hr, rfl, rfl⟩ := wr_inv e
        obtain ⟨w, rfl, r⟩ := rv.one
        obtain ⟨ys, sl, rs, hl⟩ := R.list em
        exact mSem.of mt_append ⟨_, ys, w, rfl, rfl, hl hr, by rw [← rs.length]; exact hz, p.wrote R hi hr fun up => ⟨.lst upd_same ((rs.append (.cons r .nil)).up up), .non⟩⟩
      · cases e
    · rename_i em
      split at e
      · rename_i zs em2
        split at e
        · rename_i hz
          obtain ⟨hr, rfl, rfl⟩ := wr_inv e
          obtain ⟨w, rfl, r⟩ := rv.one
          obtain ⟨rfl, hi2⟩ := r.iref
          obtain ⟨ys, sl, rs, hl⟩ := R.list em
          obtain ⟨ys2, sl2, rs2, hl2⟩ := R.list em2
          exact mSem.of (fun pins s σ H x xs v us Q I rx rxs h => mt_extend pins s σ H x xs v us Q I rx rxs h) ⟨_, _, ys, ys2, rfl, rfl, hl hr, hl2 hz.1, by rw [← rs.length, ← rs2.length]; exact hz.2, p.wrote R hi hr fun up => ⟨.lst upd_same ((rs.append rs2).up up), .non⟩⟩
        · cases e
      · cases e
    · rename_i em
      split at e
      · rename_i u eu
        obtain ⟨z, t, e1, e2⟩ := bind_eq_ok.mp e
        obtain ⟨hr, rfl, rfl⟩ := wr_inv e1
        cases e2
        obtain ⟨ys, sl, rs, hl⟩ := R.list em
        cases rv
        rw [List.getLast?_eq_getElem?] at eu
        obtain ⟨w, ew, rw'⟩ := rs.get eu
        refine mSem.of mt_pop ⟨_, ys, w, rfl, rfl, hl hr, by rw [← rs.length]; exact ew, p.wrote R hi hr fun up => ⟨.lst upd_same (rs.dropLast.up up), rw'.up up⟩⟩
      · cases e
    · rename_i em
      split at e
      · rename_i d ds e1 e2
        split at e
        · rename_i hs
          rw [Bool.and_eq_true] at hs
          obtain ⟨w, rfl, r⟩ := rv.one
          cases e
          exact mSem.of (mt_countD hu) ⟨_, _, d, ds, rfl, rfl, dat_dp R _ _ _ _ e2 ra, dat_dp R _ _ _ _ e1 r, hs.2, hs.1, p.here R (.int _)⟩
        · cases e
      · cases e
    · rename_i em
      split at e
      · rename_i d ds e1 e2
        split at e
        · rename_i hs
          rw [Bool.and_eq_true] at hs
          obtain ⟨w, rfl, r⟩ := rv.one
          split at e
          · rename_i j ej
            cases e
            obtain ⟨hj, h1, h2⟩ := List.findIdx?_eq_some_iff_getElem.mp ej
            refine mSem.of (mt_indexD hu) ⟨_, _, d, ds, j, ds[j], rfl, rfl, dat_dp R _ _ _ _ e2 ra, dat_dp R _ _ _ _ e1 r, hs.2, hs.1, List.getElem?_eq_getElem hj, h1, fun m z' hm hz => ?_, p.here R (.int _)⟩
            obtain ⟨hm2, rfl⟩ := List.getElem?_eq_some_iff.mp hz
            simpa using h2 m hm
          · cases e
        · cases e
      · cases e
    · cases e
  · cases e

/-! ### isinstance -/
def tyName : Ty → String
  | .int => "int" | .bool => "bool" | .str => "str" | .list => "list" | .tuple => "tuple" | .dict => "dict" | .cls _ => ""
theorem kit_all (a : String) (t : Ty) (h : (match t with | .cls _ => False | _ => True)) (ha : a = "NoneType" ∨ a = "bool" ∨ a = "int" ∨ a = "str" ∨ a = "list" ∨ a = "tuple" ∨ a = "dict") :
    kitB a (tyName t) = some (a == tyName t || (a == "bool" && tyName t == "int")) := by
  cases t with
  | cls c => cases h
  | _ => rcases ha with rfl | rfl | rfl | rfl | rfl | rfl | rfl <;> decide +kernel
theorem isi_ok {a : Val} {x : V} {t : Ty} {k : Bool} {Q : VK} (R : Rl X.K kt ca io st H) (ra : RV X.K kt io st.n H a x) (ht : (match t with | .cls _ => False | _ => True)) (e : isT st a t = some k) (q : Q (.bl k) H) :
    cSem X (.builtin "isinstance") [x, .ty (tyName t)] H Q := by
  have go : ∀ (b : String), TyX X.K H x (.type b) → (b = "NoneType" ∨ b = "bool" ∨ b = "int" ∨ b = "str" ∨ b = "list" ∨ b = "tuple" ∨ b = "dict") → (b == tyName t || (b == "bool" && tyName t == "int")) = k → cSem X (.builtin "isinstance") [x, .ty (tyName t)] H Q :=
    fun b ty hb hk => cSem.of call_isi ⟨x, _, _, _, k, rfl, .ty _, ty, kit_ty (by rw [kit_all b t ht hb, hk]), q⟩
  cases ra with
  | non => cases e; exact go "NoneType" (.base .non) (by simp) (by cases t <;> first | exact False.elim ht | decide)
  | bl b => cases e; exact go "bool" (.base (.bl b)) (by simp) (by cases t <;> first | exact False.elim ht | decide)
  | int i => cases e; exact go "int" (.base (.int i)) (by simp) (by cases t <;> first | exact False.elim ht | decide)
  | str z => cases e; exact go "str" (.base (.str z)) (by simp) (by cases t <;> first | exact False.elim ht | decide)
  | tup s r =>
    cases e
    refine go "tuple" ?_ (by simp) (by cases t <;> first | exact False.elim ht | decide)
    rcases s with s | ⟨_, o, its, n, h1, h2, _⟩
    · exact .base (.tup s)
    · exact .kTuple h1 h2
  | @ref i hi =>
    unfold isT at e
    simp only at e
    split at e
    · rename_i xs em
      cases e
      refine go "list" ?_ (by simp) (by cases t <;> first | exact False.elim ht | decide)
      obtain ⟨_, r⟩ := R.at em
      generalize st.ro i = b at r
      cases r with
      | lst h _ => exact .base (.lst h)
      | lstR h _ =>
        rcases h with ⟨o, h⟩ | ⟨o, its, n, h1, h2, _⟩
        · exact .base (.frz h)
        · exact .kList h1 h2
    · rename_i xs em
      cases e
      refine go "dict" ?_ (by simp) (by cases t <;> first | exact False.elim ht | decide)
      obtain ⟨_, r⟩ := R.at em
      generalize st.ro i = b at r
      cases r with
      | dK h _ => exact .base (.dK h)
      | dKR h _ => exact .fDict h
    · rename_i xs em
      split at e
      · cases e
      · rename_i hr
        cases e
        refine go "dict" ?_ (by simp) (by cases t <;> first | exact False.elim ht | decide)
        obtain ⟨kws, _, _, hl⟩ := R.dictT em
        exact .base (.dT (hl (by simpa using hr)))
    · cases e
end
end CL

/-! CL, part 1: a tuple that is known to the object; dict of it; set of a tuple of ints -/
namespace CL
open PySem PySem.Spec PyProof.Rows L2
section
variable {X : Cx}
/-- a tuple as it is made: known to the object -/
def tTupF (t : TA) : TE := fun σ H Q => t σ H fun xs H1 => xs.length ≤ sizeLine ∧ ∀ p o, H1 p = none → o.dict = none → Q (.ref p) (upd H1 p (.frz o (.tup xs)))
theorem pe_tupF {es : List Expr} {t : TA} {x1} {pos : Pos} (h : PA X es t) : PE X (.Tuple es x1 pos) (tTupF t) := by
  refine ⟨fun pins s σ H Q I hq => ?_⟩
  refine wpAny_Tuple_spliced (thn (h.run pos pins s σ H _ I hq) fun us s1 ⟨xs, H1, I1, r, z, q⟩ => ⟨by rw [← r.length]; exact z, ?_⟩)
  have hf : H1 s1.heap.objs.size = none := I1.hok.fresh (Nat.le_refl _)
  refine ⟨.ref s1.heap.objs.size, upd H1 s1.heap.objs.size (.frz { cls := .type "tuple", data := .seq us.toArray } (.tup xs)), I1.laid (t' := s1.toks) (fun b u e => Heap.get?_push_of_some _ e) (Nat.le_refl _) ?_, rfl, q _ _ hf rfl⟩
  exact ⟨Heap.get?_push_size _ rfl, z, us, r, ⟨_, Heap.get?_push_size _ rfl, rfl, _, rfl⟩⟩
theorem call_dictT (hcalm : X.calm = true) : CallR X (.type "dict") (fun xs H Q => ∃ (a : Addr) (o : Obj) (ps : List Addr) (kvs : List (Key × V)), xs = [.ref a] ∧ H a = some (.frz o (.tup (ps.map V.ref))) ∧ o.dict = none ∧ Paired (fun p kv => SqT X.K H p [kV kv.1, kv.2]) ps kvs ∧
    ∀ p, H p = none → Q (.ref p) (upd H p (.dK (mergeK [] kvs)))) := by
  intro pins s σ H xs us Q I r q
  obtain ⟨a, o, ps, kvs, ex, hq, hdn, hp, q⟩ := q
  subst ex
  obtain ⟨u, eu, rx⟩ := vals1 r
  subst eu
  cases rx
  obtain ⟨ho, hz, its, rv, ob, hob, hc, n, hdat⟩ := I.hok a _ hq
  rw [ho] at hob
  cases hob
  have ei := refs_at rv
  subst ei
  rw [List.length_map] at hz
  obtain ⟨prs, rel, hl, hpr⟩ := pairs_of I hp
  have hf : ∀ j : Nat, ∃ u : Value, ∀ q, prs[j]? = some q → IsTup s.heap (ps.getD j 0) #[u, q.2] ∧ keyIs q.1 u = true := fun j => by
    cases e : prs[j]? with
    | none => exact ⟨.none, fun q h => by cases h⟩
    | some q =>
      obtain ⟨b, u, e1, e2, e3⟩ := hpr j q e
      refine ⟨u, fun q' h => ?_⟩
      cases h
      rw [List.getD_eq_getElem?_getD, e1]
      exact ⟨e2, e3⟩
  obtain ⟨f, hf⟩ := Classical.skolem.mp hf
  have hget : ∀ (j : Nat) (k v : Value), (prs.mapIdx fun j q => (f j, q.2))[j]? = some (k, v) → ∃ q, prs[j]? = some q ∧ k = f j ∧ v = q.2 := fun j k v e => by
    rw [List.getElem?_mapIdx] at e
    cases e1 : prs[j]? with
    | none => rw [e1] at e; cases e
    | some q => rw [e1] at e; cases e; exact ⟨q, rfl, rfl, rfl⟩
  refine PySem.call_dict_pairs (knd := mixKind X.prog X.w) (kvs := prs) (PySem.PairArg.tuple a (ps.map Value.ref).toArray (fun j => ps.getD j 0) (prs.mapIdx fun j q => (f j, q.2))) (I.ok.hd hcalm) ⟨⟨o, n, ho, hc, hdn, hdat⟩, by simp [hl], fun j k v e => ?_⟩ ⟨by simp, fun i k v e => ?_⟩ (by simp [hl]; exact hz) fun h' tk hd' k => ?_
  · obtain ⟨q, e1, rfl, rfl⟩ := hget j k v e
    have hj : j < ps.length := by rw [← hl]; exact (List.getElem?_eq_some_iff.mp e1).1
    refine ⟨by show (ps.map Value.ref).toArray[j]? = some (.ref (ps.getD j 0)); rw [List.getD_eq_getElem?_getD, List.getElem?_eq_getElem hj]; simp [hj], .inl ?_⟩
    obtain ⟨ob, h1, h2, n2, h3⟩ := (hf j q e1).1
    exact ⟨ob, h1, h2, n2, h3⟩
  · obtain ⟨q, e1, rfl, rfl⟩ := hget i k v e
    exact ⟨q.1, e1, (hf i q e1).2⟩
  · have hm : (s.heap.objs.size == sysModules) = false := beq_eq_false_iff_ne.mpr (Nat.ne_of_gt I.big)
    have hlen : (mergeK [] kvs).length ≤ sizeLine := by
      refine Nat.le_trans (length_mergeK kvs []) ?_
      rw [List.length_nil, Nat.zero_add, rel.length, hl]
      exact hz
    exact ⟨.ref s.heap.objs.size, upd H s.heap.objs.size (.dK (mergeK [] kvs)), I.laid (t' := tk) (fun b o e => k b o (by simp) e) (Nat.le_refl _) (show ObjOk X.prog X.w _ _ _ (.dK (mergeK [] kvs)) from ⟨hlen, hm, merged [] prs, KV.merge rel .nil, hd'⟩), rfl, q _ (I.hok.fresh (Nat.le_refl _))⟩
theorem ints_are : ∀ {ns : List Int} {us : List Value}, Vals (ns.map V.int) us → IntsAre us ns
  | [], _, r => by cases r; exact .nil
  | n :: ns, _, r => by
    cases r with
    | cons h t =>
      obtain ⟨tk, rfl⟩ := h
      exact .cons n tk (ints_are t)
/-- set of a tuple of ints -/
theorem cr_setT (hc : X.calm = true) : CallR X (.type "set") (fun xs H Q => ∃ (a : Addr) (ns : List Int), xs = [.ref a] ∧ SqT X.K H a (ns.map V.int) ∧ ns.length + 1 < scanBound ∧ ∀ p c, c ≤ ns.length → H p = none → Q (.ref p) (upd H p (SetO X.w p (fun j => decide (j ∈ ns)) c))) := by
  intro pins s σ H xs us Q I r q
  obtain ⟨a, ns, ex, hq, hb, q⟩ := q
  subst ex
  obtain ⟨u, eu, rx⟩ := vals1 r
  subst eu
  cases rx
  obtain ⟨its, rv, ht, hz⟩ := I.tuple hq
  refine call_set_tupI ns (I.ok.hd hc) ht (by exact ints_are rv) hb fun h' tk c hS hc' k => ?_
  exact ⟨.ref s.heap.objs.size, upd H s.heap.objs.size (SetO X.w s.heap.objs.size _ c), I.laid (t' := tk) k (Nat.le_refl _) (setO_new hS), rfl, q _ c hc' (I.hok.fresh (Nat.le_refl _))⟩
end
end CL

/-! CL, part y: list(zip(a, b)) of lists and tuples in any mix -/
namespace CL
open PySem PySem.Spec PyProof.Rows L2
section
variable {prog : Program} {w : World} {A : Around} {E : Value → Shared → Prop} {s : Shared} {z TI TO T i1 i2 S : Addr} {fp1 fp2 : List Addr} {n1 n2 i : Nat} {P1 P2 : Nat → Value → Prop} {St1 St2 : Nat → Heap → Prop} {f : Bool} {oT : Obj}
theorem zip_held {Q : Value → Shared → Prop} (D : ZipSep2 z TI TO i1 i2 fp1 fp2) (D1 : Draws prog w A i1 fp1 n1 P1 St1) (D2 : Draws prog w A i2 fp2 n2 P2 St2)
    (hz : IsZipHeld s.heap z TI TO T f) (hT : s.heap.get? T = some oT) (hTI : IsTupOf2 s.heap TI (.ref i1) (.ref i2)) (st1 : St1 i s.heap) (st2 : St2 i s.heap) (hlt1 : i < n1) (hlt2 : i < n2)
    (hQ : ∀ x1 x2 h' tk, P1 i x1 → P2 i x2 → IsZipHeld h' z TI TO T true → St1 (i + 1) h' → St2 (i + 1) h' → IsTupOf2 h' s.heap.objs.size x1 x2 → h'.objs.size = s.heap.objs.size + 1 →
      (∀ c o, c ≠ z → c ≠ i1 → c ≠ i2 → s.heap.get? c = some o → h'.get? c = some o) → Q (.ref s.heap.objs.size) { s with heap := h', toks := tk }) :
    wpAny (model prog w) A (Builtin.«zip.__next__» ⟨[.ref z], []⟩) (fun fin s' => ∃ v, fin = .done (.ret v) ∧ Q v s') E s := by
  obtain ⟨hp, g, d, tk0, os⟩ := s
  show wpAny _ _ (field (.ref z) 2 >>= _) _ _ _
  refine wpAny_bind (wpAny_field hz rfl (x := .bool false) rfl ?_)
  show wpAny _ _ (field (.ref z) 3 >>= _) _ _ _
  refine wpAny_bind (wpAny_field hz rfl (x := .ref TI) rfl ?_)
  refine wpAny_bind (wpAny_seqItems hTI rfl ?_)
  show wpAny _ _ (Builtin.SmallTypes.ownedTupleIsFree (.ref z) >>= _) _ _ _
  refine wpAny_bind (wpAny_tupleHeld_zip hz hT fun h₁ hz₁ hs₁ => ?_)
  replace hs₁ : Heap.SameBut z hp h₁ := hs₁
  simp only [Bool.false_eq_true, if_false]
  refine wpAny_bind ?_
  rw [← Array.forIn_toList]
  simp only [List.forIn_cons, List.forIn_nil]
  refine wpAny_bind (wpAny_bind (wpAny_holding ?_))
  show wpAny _ _ (Builtin.SmallTypes.nextOf (.ref i1) >>= _) _ _ ⟨h₁, g, d, tk0, os⟩
  refine wpAny_bind (D1.item i _ _ _ hlt1 (D1.over st1 hs₁ D.zf1) fun x1 p1 tk1 hx1 sn1 hp1 => wpAny_pure ?_)
  replace hp1 : Heap.SameBut i1 h₁ p1 := hp1
  refine wpAny_pure ?_
  refine wpAny_bind (wpAny_bind (wpAny_holding ?_))
  show wpAny _ _ (Builtin.SmallTypes.nextOf (.ref i2) >>= _) _ _ ⟨p1, g, d, tk1, os⟩
  refine wpAny_bind (D2.item i _ _ _ hlt2 (D2.over (D2.over st2 hs₁ D.zf2) hp1 D.sep1_2) fun x2 p2 tk2 hx2 sn2 hp2 => wpAny_pure ?_)
  replace hp2 : Heap.SameBut i2 p1 p2 := hp2
  refine wpAny_pure (wpAny_pure ?_)
  show wpAny _ _ (newTuple [x1, x2] >>= _) _ _ ⟨p2, g, d, tk2, os⟩
  refine wpAny_bind (wpAny_newTuple ?_)
  have hsz : p2.objs.size = hp.objs.size := by rw [hp2.1, hp1.1, hs₁.1]
  have hz₃ : IsZipHeld p2 z TI TO T true := hp2.extBut _ _ D.zi2 (hp1.extBut _ _ D.zi1 hz₁)
  have hk : ∀ c o, c ≠ z → c ≠ i1 → c ≠ i2 → hp.get? c = some o → p2.get? c = some o := fun c o c1 c2 c3 e => hp2.extBut _ _ c3 (hp1.extBut _ _ c2 (hs₁.extBut _ _ c1 e))
  have hj1 : St1 (i + 1) p2 := D1.over sn1 hp2 D.sep2_1
  refine wpAny_pure ⟨_, rfl, ?_⟩
  show Q (.ref p2.objs.size) _
  have hp' : IsTupOf2 (p2.push { cls := .type "tuple", data := .seq #[x1, x2] }) p2.objs.size x1 x2 := Heap.get?_push_size _ rfl
  have hz4 : (p2.push { cls := .type "tuple", data := .seq #[x1, x2] }).objs.size = p2.objs.size + 1 := Heap.size_push ..
  rw [hsz] at hp' hz4 ⊢
  exact hQ x1 x2 _ tk2 hx1 hx2 (Heap.get?_push_of_some _ hz₃) (D1.frame _ _ _ hj1 fun b hb o e => Heap.get?_push_of_some _ e) (D2.frame _ _ _ sn2 fun b hb o e => Heap.get?_push_of_some _ e) hp' hz4
    fun c o c1 c2 c3 e => Heap.get?_push_of_some _ (hk c o c1 c2 c3 e)
theorem zip_end_held {Q : Fin → Shared → Prop} (D : ZipSep2 z TI TO i1 i2 fp1 fp2) (D1 : Draws prog w A i1 fp1 n1 P1 St1) (D2 : Draws prog w A i2 fp2 n2 P2 St2)
    (hz : IsZipHeld s.heap z TI TO T f) (hT : s.heap.get? T = some oT) (hTI : IsTupOf2 s.heap TI (.ref i1) (.ref i2)) (st1 : St1 i s.heap) (st2 : St2 i s.heap) (hle1 : i ≤ n1) (hle2 : i ≤ n2) (hend : i = n1 ∨ i = n2)
    (hE : ∀ h' tk e, (∀ c o, c ≠ z → c ≠ i1 → c ≠ i2 → s.heap.get? c = some o → h'.get? c = some o) → (∃ o, h'.get? e = some o ∧ o.cls = .type "StopIteration") → E (.ref e) { s with heap := h', toks := tk }) :
    wpAny (model prog w) A (Builtin.«zip.__next__» ⟨[.ref z], []⟩) Q E s := by
  obtain ⟨hp, g, d, tk0, os⟩ := s
  show wpAny _ _ (field (.ref z) 2 >>= _) _ _ _
  refine wpAny_bind (wpAny_field hz rfl (x := .bool false) rfl ?_)
  show wpAny _ _ (field (.ref z) 3 >>= _) _ _ _
  refine wpAny_bind (wpAny_field hz rfl (x := .ref TI) rfl ?_)
  refine wpAny_bind (wpAny_seqItems hTI rfl ?_)
  show wpAny _ _ (Builtin.SmallTypes.ownedTupleIsFree (.ref z) >>= _) _ _ _
  refine wpAny_bind (wpAny_tupleHeld_zip hz hT fun h₁ hz₁ hs₁ => ?_)
  replace hs₁ : Heap.SameBut z hp h₁ := hs₁
  simp only [Bool.false_eq_true, if_false]
  refine wpAny_bind ?_
  rw [← Array.forIn_toList]
  simp only [List.forIn_cons, List.forIn_nil]
  refine wpAny_bind (wpAny_bind (wpAny_holding ?_))
  show wpAny _ _ (Builtin.SmallTypes.nextOf (.ref i1) >>= _) _ _ ⟨h₁, g, d, tk0, os⟩
  by_cases h1 : i = n1
  · subst h1
    refine wpAny_bind (D1.done _ _ _ (D1.over st1 hs₁ D.zf1) fun h₂ e hs₂ he => ?_)
    exact hE h₂ tk0 e (fun c o c1 c2 _ x => hs₂ _ _ c2 (hs₁.extBut _ _ c1 x)) he
  · refine wpAny_bind (D1.item i _ _ _ (by omega) (D1.over st1 hs₁ D.zf1) fun x1 p1 tk1 hx1 sn1 hp1 => wpAny_pure ?_)
    replace hp1 : Heap.SameBut i1 h₁ p1 := hp1
    have h2 : i = n2 := by omega
    subst h2
    refine wpAny_pure ?_
    refine wpAny_bind (wpAny_bind (wpAny_holding ?_))
    show wpAny _ _ (Builtin.SmallTypes.nextOf (.ref i2) >>= _) _ _ ⟨p1, g, d, tk1, os⟩
    refine wpAny_bind (D2.done _ _ _ (D2.over (D2.over st2 hs₁ D.zf2) hp1 D.sep1_2) fun h₃ e hs₃ he => ?_)
    exact hE h₃ tk1 e (fun c o c1 c2 c3 x => hs₃ _ _ c3 (hp1.extBut _ _ c2 (hs₁.extBut _ _ c1 x))) he

/-- a zip that is being listed into S: nothing given yet, or the last tuple still out -/
def ZSt (z TI TO i1 i2 S : Addr) (St1 St2 : Nat → Heap → Prop) (i : Nat) (h : Heap) : Prop := IsTupOf2 h TI (.ref i1) (.ref i2) ∧ St1 i h ∧ St2 i h ∧
  ((IsZip h z TI TO .none ∧ ∃ a b, IsTupOf2 h TO a b) ∨ ∃ T f oT, IsZipHeld h z TI TO T f ∧ h.get? T = some oT ∧ T ≠ z ∧ T ≠ i1 ∧ T ≠ i2 ∧ T ≠ S)
theorem z_item {Q : Option Value → Shared → Prop} (D : ZipSep2 z TI TO i1 i2 fp1 fp2) (D1 : Draws prog w A.in1 i1 fp1 n1 P1 St1) (D2 : Draws prog w A.in1 i2 fp2 n2 P2 St2)
    (hst : ZSt z TI TO i1 i2 S St1 St2 i s.heap) (hS : S < s.heap.objs.size) (hlt1 : i < n1) (hlt2 : i < n2)
    (hQ : ∀ x1 x2 h' tk, P1 i x1 → P2 i x2 → ZSt z TI TO i1 i2 S St1 St2 (i + 1) h' → IsTupOf2 h' s.heap.objs.size x1 x2 → h'.objs.size = s.heap.objs.size + 1 →
      (∀ c o, c ∉ [z, TO, i1, i2] → s.heap.get? c = some o → h'.get? c = some o) → Q (some (.ref s.heap.objs.size)) { s with heap := h', toks := tk }) :
    wpAny (model prog w) A (pyNext (.ref z)) Q E s := by
  obtain ⟨hTI, st1, st2, hz⟩ := hst
  have hn : ∀ {c : Addr} {o : Obj}, s.heap.get? c = some o → s.heap.objs.size ≠ c := fun e => Nat.ne_of_gt (Heap.lt_size e)
  obtain ⟨o1, e1⟩ := D1.live _ _ st1
  obtain ⟨o2, e2⟩ := D2.live _ _ st2
  have hTy : s.TypeIs (.ref z) "zip" := by
    rcases hz with ⟨hz, _⟩ | ⟨T, f, oT, hz, _⟩ <;> exact ⟨_, hz, rfl⟩
  unfold pyNext
  rcases hz with ⟨hz, a, b, hTO⟩ | ⟨T, f, oT, hz, hT, r1, r2, r3, r4⟩
  · exact wpAny_bind (wpAny_attempt (wpAny_callSpecial?_slot (name := Str.ofString "__next__") hTy F.slot_zip_next (wpAny_call_entry F.slot_zip_next hTy F.entry_zip_next
      (zipD2_next_item D D1 D2 hz hTI hTO st1 st2 hlt1 hlt2 fun x1 x2 h' tk p1 p2 a1 a2 a3 a4 a5 a6 hk => wpAny_pure (hQ x1 x2 h' tk p1 p2
        ⟨hk _ _ D.TIz D.TITO D.TIi1 D.TIi2 hTI, a3, a4, .inr ⟨s.heap.objs.size, false, _, a1, a5, hn hz, hn e1, hn e2, Nat.ne_of_gt hS⟩⟩ a5 a6
        fun c o hc e => hk c o (fun x => hc (by simp [x])) (fun x => hc (by simp [x])) (fun x => hc (by simp [x])) (fun x => hc (by simp [x])) e)) (F.args_zip_next_1 _))))
  · exact wpAny_bind (wpAny_attempt (wpAny_callSpecial?_slot (name := Str.ofString "__next__") hTy F.slot_zip_next (wpAny_call_entry F.slot_zip_next hTy F.entry_zip_next
      (zip_held D D1 D2 hz hT hTI st1 st2 hlt1 hlt2 fun x1 x2 h' tk p1 p2 a1 a3 a4 a5 a6 hk => wpAny_pure (hQ x1 x2 h' tk p1 p2
        ⟨hk _ _ D.TIz D.TIi1 D.TIi2 hTI, a3, a4, .inr ⟨T, true, oT, a1, hk _ _ r1 r2 r3 hT, r1, r2, r3, r4⟩⟩ a5 a6
        fun c o hc e => hk c o (fun x => hc (by simp [x])) (fun x => hc (by simp [x])) (fun x => hc (by simp [x])) e)) (F.args_zip_next_1 _))))
theorem z_done {Q : Option Value → Shared → Prop} (D : ZipSep2 z TI TO i1 i2 fp1 fp2) (D1 : Draws prog w A.in1 i1 fp1 n1 P1 St1) (D2 : Draws prog w A.in1 i2 fp2 n2 P2 St2)
    (hst : ZSt z TI TO i1 i2 S St1 St2 i s.heap) (hle1 : i ≤ n1) (hle2 : i ≤ n2) (hend : i = n1 ∨ i = n2)
    (hQ : ∀ h' tk, (∀ c o, c ∉ [z, TO, i1, i2] → s.heap.get? c = some o → h'.get? c = some o) → Q none { s with heap := h', toks := tk }) :
    wpAny (model prog w) A (pyNext (.ref z)) Q E s := by
  obtain ⟨hTI, st1, st2, hz⟩ := hst
  have hTy : s.TypeIs (.ref z) "zip" := by
    rcases hz with ⟨hz, _⟩ | ⟨T, f, oT, hz, _⟩ <;> exact ⟨_, hz, rfl⟩
  unfold pyNext
  rcases hz with ⟨hz, a, b, hTO⟩ | ⟨T, f, oT, hz, hT, r1, r2, r3, r4⟩
  · refine wpAny_bind (wpAny_attempt (wpAny_callSpecial?_slot (name := Str.ofString "__next__") hTy F.slot_zip_next (wpAny_call_entry F.slot_zip_next hTy F.entry_zip_next
      (zipD2_next_end D D1 D2 hz hTI hTO st1 st2 hle1 hle2 hend fun h' tk e hk he => ?_) (F.args_zip_next_1 _))))
    obtain ⟨o, ho, hc⟩ := he
    refine wpAny_bind (wpAny_isInstance (T := "StopIteration") (b := true) ⟨o, ho, hc⟩ isSubtype_stop ?_)
    exact wpAny_pure (hQ h' tk fun c o hc e => hk c o (fun x => hc (by simp [x])) (fun x => hc (by simp [x])) (fun x => hc (by simp [x])) (fun x => hc (by simp [x])) e)
  · refine wpAny_bind (wpAny_attempt (wpAny_callSpecial?_slot (name := Str.ofString "__next__") hTy F.slot_zip_next (wpAny_call_entry F.slot_zip_next hTy F.entry_zip_next
      (zip_end_held D D1 D2 hz hT hTI st1 st2 hle1 hle2 hend fun h' tk e hk he => ?_) (F.args_zip_next_1 _))))
    obtain ⟨o, ho, hc⟩ := he
    refine wpAny_bind (wpAny_isInstance (T := "StopIteration") (b := true) ⟨o, ho, hc⟩ isSubtype_stop ?_)
    exact wpAny_pure (hQ h' tk fun c o hc e => hk c o (fun x => hc (by simp [x])) (fun x => hc (by simp [x])) (fun x => hc (by simp [x])) e)
theorem ZSt.keep (D : ZipSep2 z TI TO i1 i2 fp1 fp2) (D1 : Draws prog w A i1 fp1 n1 P1 St1) (D2 : Draws prog w A i2 fp2 n2 P2 St2) (hz : z ≠ S) (hTI : TI ≠ S) (hTO : TO ≠ S) (h1 : S ∉ fp1) (h2 : S ∉ fp2) {h h' : Heap} (x : ZSt z TI TO i1 i2 S St1 St2 i h)
    (k : ∀ b o, b ≠ S → h.get? b = some o → h'.get? b = some o) : ZSt z TI TO i1 i2 S St1 St2 i h' := by
  obtain ⟨a, st1, st2, q⟩ := x
  refine ⟨k _ _ hTI a, D1.frame _ _ _ st1 fun b hb o e => k b o (fun q => h1 (q ▸ hb)) e, D2.frame _ _ _ st2 fun b hb o e => k b o (fun q => h2 (q ▸ hb)) e, ?_⟩
  rcases q with ⟨q, u, v, t⟩ | ⟨T, f, oT, q, hT, r1, r2, r3, r4⟩
  · exact .inl ⟨k _ _ hz q, u, v, k _ _ hTO t⟩
  · exact .inr ⟨T, f, oT, k _ _ hz q, k _ _ r4 hT, r1, r2, r3, r4⟩
/-- the tuples that were made -/
structure Prs (P1 P2 : Nat → Value → Prop) (lo : Addr) (h : Heap) (as : List Addr) : Prop where
  rise : as.Pairwise (· < ·)
  above : ∀ a ∈ as, lo ≤ a
  pairs : ∀ (j : Nat) (a : Addr), as[j]? = some a → ∃ x1 x2, P1 j x1 ∧ P2 j x2 ∧ IsTupOf2 h a x1 x2
theorem Prs.there {lo : Addr} {h : Heap} {as : List Addr} (g : Prs P1 P2 lo h as) {a : Addr} (ha : a ∈ as) : a < h.objs.size := by
  obtain ⟨j, hj⟩ := List.mem_iff_getElem?.mp ha
  obtain ⟨_, _, _, _, e⟩ := g.pairs j a hj
  exact Heap.lt_size e
theorem z_loop {R : Result → Shared → Prop} (D : ZipSep2 z TI TO i1 i2 fp1 fp2) (D1 : Draws prog w A.in1.in1 i1 fp1 n1 P1 St1) (D2 : Draws prog w A.in1.in1 i2 fp2 n2 P2 St2) (hz : z ≠ S) (hTI : TI ≠ S) (hTO : TO ≠ S) (h1 : S ∉ fp1) (h2 : S ∉ fp2)
    (hi1 : i1 ≠ S) (hi2 : i2 ≠ S) {lo : Addr} (hlo : ∀ b ∈ [z, TO, i1, i2, S], b < lo) (n : Nat) (hn1 : n ≤ n1) (hn2 : n ≤ n2) (hend : n = n1 ∨ n = n2) (hn : n ≤ sizeLine) (res : Value) {h₁ : Heap}
    (hR : ∀ h' tk acc c as, (∀ b o, b ∉ [z, TO, i1, i2, S] → h₁.get? b = some o → h'.get? b = some o) → h'.get? S = some { cls := .type "list", dict := none, data := .seq acc c, slots := #[] } → as.length = n → Prs P1 P2 lo h' as →
      acc.toList = as.map Value.ref → R (.ok (.ret res)) { s with heap := h', toks := tk }) :
    ∀ (k i : Nat) (h : Heap) (tk c : Nat) (acc : Array Value) (as : List Addr), n - i = k → i ≤ n → ZSt z TI TO i1 i2 S St1 St2 i h → (∀ b o, b ∉ [z, TO, i1, i2, S] → h₁.get? b = some o → h.get? b = some o) →
      h.get? S = some { cls := .type "list", dict := none, data := .seq acc c, slots := #[] } → acc.toList = as.map Value.ref → as.length = i → Prs P1 P2 lo h as → lo ≤ h.objs.size →
      codeAny (model prog w) A (.builtin "list.extend.loop" ⟨[.ref S, .ref z, res], []⟩) R { s with heap := h, toks := tk } := by
  have hSw : S ∉ [z, TO, i1, i2] := fun m => by
    simp only [List.mem_cons, List.not_mem_nil, or_false] at m
    rcases m with m | m | m | m
    · exact hz m.symm
    · exact hTO m.symm
    · exact hi1 m.symm
    · exact hi2 m.symm
  have big : ∀ {a : Addr}, lo ≤ a → a ∉ [z, TO, i1, i2] := fun h m => Nat.not_lt.mpr h (hlo _ (by simp only [List.mem_cons, List.not_mem_nil, or_false] at m ⊢; rcases m with m | m | m | m <;> simp [m]))
  have wide : ∀ {b : Addr}, b ∉ [z, TO, i1, i2, S] → b ∉ [z, TO, i1, i2] := fun h m => h (by simp only [List.mem_cons, List.not_mem_nil, or_false] at m ⊢; rcases m with m | m | m | m <;> simp [m])
  intro k
  induction k with
  | zero =>
    intro i h tk c acc as hk hi hst hkeep hS hacc hal hG hls
    have hin : i = n := by omega
    subst hin
    refine codeAny_builtin PySem.F.entry_extend_loop ?_
    rw [Around.under_plainId PySem.F.plain_extend_loop _]
    show wpAny _ A.in1 (pyNext (.ref z) >>= _) _ _ _
    refine wpAny_bind (z_done (s := { s with heap := h, toks := tk }) (A := A.in1) D D1 D2 hst hn1 hn2 hend fun h' tk' he => ?_)
    refine wpAny_pure (hR h' tk' acc c as (fun b o hb e => he b o (wide hb) (hkeep b o hb e)) (he S _ hSw hS) hal ⟨hG.rise, hG.above, fun j a hj => ?_⟩ hacc)
    obtain ⟨x1, x2, p1, p2, e3⟩ := hG.pairs j a hj
    exact ⟨x1, x2, p1, p2, he a _ (big (hG.above a (List.mem_of_getElem? hj))) e3⟩
  | succ k ih =>
    intro i h tk c acc as hk hi hst hkeep hS hacc hal hG hls
    have hlt : i < n := by omega
    have hsz : acc.size = i := by rw [← Array.length_toList, hacc, List.length_map, hal]
    refine codeAny_builtin PySem.F.entry_extend_loop ?_
    rw [Around.under_plainId PySem.F.plain_extend_loop _]
    show wpAny _ A.in1 (pyNext (.ref z) >>= _) _ _ _
    have hSl : S < h.objs.size := Heap.lt_size hS
    refine wpAny_bind (z_item (s := { s with heap := h, toks := tk }) (A := A.in1) D D1 D2 hst hSl (by omega) (by omega) fun x1 x2 h' tk' p1 p2 hst' ht hzz hkp => ?_)
    dsimp only at ht hzz hkp ⊢
    have hS' := hkp S _ hSw hS
    have up : ∀ b o, b ≠ S → h'.get? b = some o → (h'.update S (Obj.mapSeq (·.push (Value.ref h.objs.size)))).get? b = some o := fun b o hb e => (Heap.get?_update_other _ _ (Ne.symm hb)).trans e
    have nS : ∀ {a : Addr}, lo ≤ a → a ≠ S := fun h e => Nat.not_lt.mpr h (hlo _ (by simp [e]))
    show wpAny _ A.in1 (updateSeq S (·.push (Value.ref h.objs.size)) >>= _) _ _ _
    refine wpAny_bind ?_
    refine wpAny_updateSeq hS' rfl (wpAny_pure ⟨plainId_quiet PySem.F.plain_extend_loop _, ih (i + 1) _ tk' _ (acc.push (Value.ref h.objs.size)) (as ++ [h.objs.size]) (by omega) hlt (hst'.keep D D1 D2 hz hTI hTO h1 h2 up)
      (fun b o hb e => up b o (fun q => hb (by simp [q])) (hkp b o (wide hb) (hkeep b o hb e))) (Heap.get?_update_self _ hS' rfl) (by rw [Array.toList_push, hacc, List.map_append]; rfl) (by rw [List.length_append, hal]; rfl) ⟨?_, ?_, ?_⟩ ?_⟩) (by rw [hsz]; omega) (by show (acc.push (Value.ref h.objs.size)).size ≤ sizeLine + 1; rw [Array.size_push, hsz]; omega)
    · refine List.pairwise_append.mpr ⟨hG.rise, List.pairwise_singleton _ _, fun a ha b hb => ?_⟩
      rw [List.mem_singleton.mp hb]
      exact hG.there ha
    · intro a ha
      rcases List.mem_append.mp ha with ha | ha
      · exact hG.above a ha
      · rw [List.mem_singleton.mp ha]; exact hls
    · intro j b hj
      rcases Nat.lt_trichotomy j as.length with h3 | h3 | h3
      · rw [List.getElem?_append_left h3] at hj
        obtain ⟨y1, y2, q1, q2, e3⟩ := hG.pairs j b hj
        have hb := hG.above b (List.mem_of_getElem? hj)
        exact ⟨y1, y2, q1, q2, up b _ (nS hb) (hkp b _ (big hb) e3)⟩
      · subst h3
        have hb : h.objs.size = b := by simpa using hj
        subst hb
        subst hal
        exact ⟨x1, x2, p1, p2, up _ _ (Nat.ne_of_gt hSl) ht⟩
      · have hnone : (as ++ [h.objs.size])[j]? = none := List.getElem?_eq_none (by rw [List.length_append, List.length_singleton]; omega)
        rw [hnone] at hj; cases hj
    · have e : (h'.update S (Obj.mapSeq (·.push (Value.ref h.objs.size)))).get? h.objs.size = _ := up _ _ (Nat.ne_of_gt hSl) ht
      exact Nat.le_of_lt (Nat.lt_of_le_of_lt hls (Heap.lt_size e))
end
theorem zip_no_len : typeLookup (.type "zip") "__len__" = pure none := am_miss_of_fast (by decide +kernel)
theorem zip_no_hint : typeLookup (.type "zip") "__length_hint__" = pure none := am_miss_of_fast (by decide +kernel)
section
variable {prog : Program} {w : World} {A : Around} {E : Value → Shared → Prop} {s : Shared} {z TI TO i1 i2 : Addr} {fp1 fp2 : List Addr} {n1 n2 : Nat} {P1 P2 : Nat → Value → Prop} {St1 St2 : Nat → Heap → Prop}
/-- list(z) of a zip that has given nothing yet -/
theorem call_list_zip {Q : Value → Shared → Prop} (D : ZipSep2 z TI TO i1 i2 fp1 fp2) (D1 : Draws prog w A.in1.in1.in1 i1 fp1 n1 P1 St1) (D2 : Draws prog w A.in1.in1.in1 i2 fp2 n2 P2 St2) (hz : IsZip s.heap z TI TO .none) (hTI : IsTupOf2 s.heap TI (.ref i1) (.ref i2))
    (hTO : ∃ a b, IsTupOf2 s.heap TO a b) (st1 : St1 0 s.heap) (st2 : St2 0 s.heap) (hf1 : ∀ b ∈ fp1, b < s.heap.objs.size) (hf2 : ∀ b ∈ fp2, b < s.heap.objs.size) (n : Nat) (hn1 : n ≤ n1) (hn2 : n ≤ n2) (hend : n = n1 ∨ n = n2) (hn : n ≤ sizeLine)
    (hQ : ∀ h' tk acc c as, (∀ b o, b ∉ [z, TO, i1, i2] → s.heap.get? b = some o → h'.get? b = some o) → h'.get? s.heap.objs.size = some { cls := .type "list", dict := none, data := .seq acc c, slots := #[] } → as.length = n →
      Prs P1 P2 (s.heap.objs.size + 1) h' as → acc.toList = as.map Value.ref → Q (.ref s.heap.objs.size) { s with heap := h', toks := tk }) :
    wpAny (model prog w) A (call (.type "list") [.ref z]) Q E s := by
  have lz : z < s.heap.objs.size := Heap.lt_size hz
  have lTI : TI < s.heap.objs.size := Heap.lt_size hTI
  have lTO : TO < s.heap.objs.size := let ⟨_, _, e⟩ := hTO; Heap.lt_size e
  have li1 : i1 < s.heap.objs.size := hf1 _ D.mem1
  have li2 : i2 < s.heap.objs.size := hf2 _ D.mem2
  refine callType_codes (Q₁ := fun obj s₁ => obj = .ref s.heap.objs.size ∧ s₁ = { s with heap := s.heap.push { cls := .type "list", data := .seq #[] } }) F.called_list (F.typeCall_list_1 _) F.entry_list_init
    (code_list_new _ ⟨rfl, rfl⟩) fun obj s₁ h₁ => ?_
  obtain ⟨rfl, rfl⟩ := h₁
  have hS : (s.heap.push { cls := .type "list", data := .seq #[] }).get? s.heap.objs.size = some { cls := .type "list", data := .seq #[] } := Heap.get?_push_size _ rfl
  refine ⟨⟨_, hS, rfl⟩, F.args_list_init_2 _ _, ?_⟩
  have K0 : ∀ b o, s.heap.get? b = some o → (s.heap.push { cls := .type "list", data := .seq #[] }).get? b = some o := fun b o e => Heap.get?_push_of_some _ e
  show wpAny _ A.in1.in1 (do let old ← Builtin.List.listItems (.ref s.heap.objs.size); Builtin.List.listUpdate (.ref s.heap.objs.size) (fun _ => #[]); letGo old.toList.reverse; Builtin.List.listExtendWith (.ref s.heap.objs.size) (.ref z) .none) _ _ _
  refine wpAny_bind ?_
  unfold Builtin.List.listItems
  refine wpAny_bind (wpAny_seqItems hS rfl (wpAny_pure ?_))
  show wpAny _ A.in1.in1 (updateSeq s.heap.objs.size (fun _ => #[]) >>= fun _ => letGo (#[] : Array Value).toList.reverse >>= fun _ => Builtin.List.listExtendWith (.ref s.heap.objs.size) (.ref z) .none) _ _ _
  refine wpAny_bind (wpAny_updateSeq hS rfl ?_)
  have hS₂ := Heap.get?_update_self (Obj.mapSeq (fun _ => (#[] : Array Value))) hS rfl
  have K1 : ∀ b o, b ≠ s.heap.objs.size → s.heap.get? b = some o → ((s.heap.push { cls := .type "list", data := .seq #[] }).update s.heap.objs.size (Obj.mapSeq (fun _ => (#[] : Array Value)))).get? b = some o :=
    fun b o hb e => (Heap.get?_update_other _ _ (Ne.symm hb)).trans (K0 b o e)
  generalize hH : (s.heap.push { cls := .type "list", data := .seq #[] }).update s.heap.objs.size (Obj.mapSeq (fun _ => (#[] : Array Value))) = H at hS₂ K1
  refine wpAny_bind (wpAny_letGo ?_)
  unfold Builtin.List.listExtendWith
  have hz2 : IsZip H z TI TO .none := K1 _ _ (Nat.ne_of_lt lz) hz
  refine wpAny_bind (wpAny_typeOf (T := "zip") ⟨_, hz2, rfl⟩ ?_)
  have h1 : Builtin.List.listSameRef (.ref s.heap.objs.size) (.ref z) = false := by simp [Builtin.List.listSameRef, Nat.ne_of_gt lz]
  have h2 : (Value.type "zip" == Value.type "list") = false := by decide
  have h3 : (Value.type "zip" == Value.type "tuple") = false := by decide
  simp only [h1, h2, h3, Bool.or_false, Bool.false_eq_true, if_false]
  refine wpAny_bind (wpAny_pyIter_zip hz2 ?_)
  refine wpAny_bind (wpAny_holding ?_)
  unfold Builtin.List.listLengthHint
  refine wpAny_bind (wpAny_specialOf (T := "zip") ⟨_, hz2, rfl⟩ zip_no_len ?_)
  show wpAny _ A.in1.in1 (specialOf (Value.ref z) (Str.ofString "__length_hint__") >>= _) _ _ _
  refine wpAny_bind (wpAny_specialOf (T := "zip") ⟨_, hz2, rfl⟩ zip_no_hint ?_)
  refine wpAny_pure ?_
  show wpAny _ A.in1.in1 (rule "list.extend.makes-room" >>= fun _ => Builtin.List.listTouch (.ref s.heap.objs.size) >>= fun _ =>
    again (.builtin "list.extend.loop" ⟨[.ref s.heap.objs.size, .ref z, .none], []⟩)) _ _ _
  refine wpAny_bind (wpAny_rule ?_)
  refine wpAny_bind ?_
  show wpAny _ A.in1.in1 (updateSeq s.heap.objs.size (·.push .none) >>= fun _ => updateSeq s.heap.objs.size (·.pop)) _ _ _
  refine wpAny_bind (wpAny_updateSeq hS₂ rfl ?_)
  have hS₃ := Heap.get?_update_self (Obj.mapSeq (·.push Value.none)) hS₂ rfl
  refine wpAny_updateSeq (hz := by seq_fits) hS₃ rfl ?_
  have hS₄ := Heap.get?_update_self (Obj.mapSeq (·.pop)) hS₃ rfl
  have K2 : ∀ b o, b ≠ s.heap.objs.size → s.heap.get? b = some o → ((H.update s.heap.objs.size (Obj.mapSeq (·.push Value.none))).update s.heap.objs.size (Obj.mapSeq (·.pop))).get? b = some o :=
    fun b o hb e => (Heap.get?_update_other _ _ (Ne.symm hb)).trans ((Heap.get?_update_other _ _ (Ne.symm hb)).trans (K1 b o hb e))
  generalize hH2 : (H.update s.heap.objs.size (Obj.mapSeq (·.push Value.none))).update s.heap.objs.size (Obj.mapSeq (·.pop)) = H2 at hS₄ K2
  have hf : ∀ b ∈ [z, TO, i1, i2, s.heap.objs.size], b < s.heap.objs.size + 1 := fun b hb => by
    simp only [List.mem_cons, List.not_mem_nil, or_false] at hb
    rcases hb with e | e | e | e | e <;> rw [e]
    · exact Nat.lt_succ_of_lt lz
    · exact Nat.lt_succ_of_lt lTO
    · exact Nat.lt_succ_of_lt li1
    · exact Nat.lt_succ_of_lt li2
    · exact Nat.lt_succ_self _
  have s1 : s.heap.objs.size ∉ fp1 := fun m => Nat.lt_irrefl _ (hf1 _ m)
  have s2 : s.heap.objs.size ∉ fp2 := fun m => Nat.lt_irrefl _ (hf2 _ m)
  refine wpAny_pure ⟨plainId_quiet F.plain_extend_loop _, z_loop (s := s) (A := A.in1) (S := s.heap.objs.size) (lo := s.heap.objs.size + 1) (h₁ := s.heap) D D1 D2 (Nat.ne_of_lt lz) (Nat.ne_of_lt lTI) (Nat.ne_of_lt lTO) s1 s2 (Nat.ne_of_lt li1) (Nat.ne_of_lt li2) hf n hn1 hn2 hend hn .none
    (fun h' tk acc c as hk hS' hl hG hacc => ?_) n 0 H2 _ _ #[] [] (by omega) (Nat.zero_le _) ?_ (fun b o hb e => K2 b o (fun q => hb (by simp [q])) e) hS₄ rfl rfl ⟨List.Pairwise.nil, (fun _ ha => nomatch ha), (fun j a hj => by simp at hj)⟩ (Nat.succ_le_of_lt (Heap.lt_size hS₄))⟩
  · exact ⟨rfl, hQ h' tk acc c as (fun b o hb e => hk b o (fun m => by
      simp only [List.mem_cons, List.not_mem_nil, or_false] at m hb
      have := Heap.lt_size e
      rcases m with m | m | m | m | m
      · exact hb (by simp [m])
      · exact hb (by simp [m])
      · exact hb (by simp [m])
      · exact hb (by simp [m])
      · exact Nat.ne_of_lt this m) e) hS' hl hG hacc⟩
  · obtain ⟨a, b, hTO⟩ := hTO
    exact ⟨K2 _ _ (Nat.ne_of_lt lTI) hTI, D1.frame _ _ _ st1 fun b hb o e => K2 b o (Nat.ne_of_lt (hf1 b hb)) e, D2.frame _ _ _ st2 fun b hb o e => K2 b o (Nat.ne_of_lt (hf2 b hb)) e, .inl ⟨K2 _ _ (Nat.ne_of_lt lz) hz, a, b, K2 _ _ (Nat.ne_of_lt lTO) hTO⟩⟩
end
end CL

/-! CL, part z: list(zip(a, b)): what of it the run says -/
namespace CL
open PySem PySem.Spec PyProof.Rows L2
theorem lay_inv {X : Cx} {pins : List (Addr × Obj)} {σ : L2.St} {H H' : Hp} {s : Shared} {h' : Heap} {t' : Nat} (I : Inv X pins σ H s) (k : ∀ b u, s.heap.get? b = some u → h'.get? b = some u) (old : ∀ b o, H b = some o → H' b = some o)
    (new : ∀ b o, H' b = some o → H b = some o ∨ (s.heap.objs.size ≤ b ∧ ObjOk X.prog X.w H' h' b o)) : Inv X pins σ H' { s with heap := h', toks := t' } := by
  refine I.un ⟨fun b o e _ _ _ => k b o e, fun b o e _ _ _ => ⟨o.slots, k b o e⟩, fun b o e hn _ => ?_, fun b o e _ => ⟨o, k b o e⟩, fun b xs e => old b _ e, fun b o u e => old b _ e, fun b ps e => ⟨#[], by simpa using old b _ e⟩⟩ fun b o e => ?_
  · cases q : H' b with
    | none => rfl
    | some u =>
      rcases new b u q with z | ⟨z, _⟩
      · rw [hn] at z; cases z
      · exact absurd (Heap.lt_size e) (Nat.not_lt.mpr z)
  · rcases new b o e with z | ⟨_, z⟩
    · exact (I.hok b o z).stay (fun c u _ q => k c u q) (fun c q => old c _ q) fun c xs q => old c _ q
    · exact z
/-- tuples of two, laid -/
def layT (H : Hp) : List Addr → List (V × V) → Hp
  | a :: as, p :: ps => upd (layT H as ps) a (.tup [p.1, p.2])
  | _, _ => H
theorem layT_not {H : Hp} {b : Addr} : ∀ {as : List Addr} {ps : List (V × V)}, b ∉ as → layT H as ps b = H b
  | [], _, _ => rfl
  | _ :: _, [], _ => rfl
  | a :: as, p :: ps, h => by
    unfold layT
    rw [upd_ne (fun e => h (by simp [e]))]
    exact layT_not fun m => h (by simp [m])
theorem layT_at {H : Hp} : ∀ {as : List Addr} {ps : List (V × V)} {j : Nat} {a : Addr} {p : V × V}, as.Pairwise (· < ·) → as[j]? = some a → ps[j]? = some p → layT H as ps a = some (.tup [p.1, p.2])
  | [], _, _, _, _, _, e, _ => by simp at e
  | _ :: _, [], _, _, _, _, _, e => by simp at e
  | a :: as, q :: ps, 0, _, _, h, e1, e2 => by
    simp at e1 e2
    subst e1 e2
    exact upd_same
  | a :: as, q :: ps, j + 1, b, p, h, e1, e2 => by
    rw [List.pairwise_cons] at h
    have e1 : as[j]? = some b := by simpa using e1
    have ne : b ≠ a := Nat.ne_of_gt (h.1 b (List.mem_of_getElem? e1))
    unfold layT
    rw [upd_ne ne]
    exact layT_at h.2 e1 (by simpa using e2)
theorem layT_some {H : Hp} {b : Addr} {o : HO} : ∀ {as : List Addr} {ps : List (V × V)}, layT H as ps b = some o → H b = some o ∨ ∃ (j : Nat) (p : V × V), as[j]? = some b ∧ ps[j]? = some p ∧ o = .tup [p.1, p.2]
  | [], _, e => .inl e
  | _ :: _, [], e => .inl e
  | a :: as, p :: ps, e => by
    unfold layT at e
    by_cases hb : b = a
    · subst hb
      rw [upd_same] at e
      exact .inr ⟨0, p, rfl, rfl, (Option.some.inj e).symm⟩
    · rw [upd_ne hb] at e
      rcases layT_some e with h | ⟨j, q, h1, h2, h3⟩
      · exact .inl h
      · exact .inr ⟨j + 1, q, by simpa using h1, by simpa using h2, h3⟩
section
variable {X : Cx} {kt : List (List Val)} {ca io : Nat → Addr} {st : Store} {H : Hp}
theorem Rl.ext {K : PySem.W.Frag} {H' : Hp} (R : Rl K kt ca io st H) (h : ∀ a o, H a = some o → H' a = some o) : Rl K kt ca io st H' := by
  have up : Up io st.n H io st.n H' := ⟨Nat.le_refl _, fun _ _ => rfl, ⟨fun a xs e => h a _ e, fun a o u e => h a _ e⟩⟩
  refine ⟨fun i hi => ?_, R.no, R.inj⟩
  obtain ⟨o, e, r⟩ := R.ob i hi
  refine ⟨o, e, r.up up fun hb => ?_⟩
  rw [hb] at r
  obtain ⟨x, ex, _⟩ := r.mutO
  rw [ex, h _ _ ex]
theorem zipL_rv {K : PySem.W.Frag} {n : Nat} {H' : Hp} : ∀ {xs ys : List Val} {us ws : List V} {as : List Addr}, RVs K kt io n H' xs us → RVs K kt io n H' ys ws → (∀ (j : Nat) (a : Addr) (p : V × V), as[j]? = some a → (us.zip ws)[j]? = some p → H' a = some (.tup [p.1, p.2])) →
    as.length = (us.zip ws).length → RVs K kt io n H' (zipL xs ys) (as.map V.ref)
  | _, _, _, _, as, .nil, _, _, hl => by
    have : as = [] := List.eq_nil_of_length_eq_zero (by simpa using hl)
    subst this; exact .nil
  | _, _, _, _, as, .cons _ _, .nil, _, hl => by
    have : as = [] := List.eq_nil_of_length_eq_zero (by simpa using hl)
    subst this; exact .nil
  | _, _, _, _, [], .cons h1 r1, .cons h2 r2, _, hl => by simp at hl
  | _, _, _, _, a :: as, .cons h1 r1, .cons h2 r2, ht, hl => by
    unfold zipL
    rw [List.map_cons]
    exact .cons (.tup (.inl (ht 0 a _ rfl rfl)) (.cons h1 (.cons h2 .nil))) (zipL_rv r1 r2 (fun j b p e1 e2 => ht (j + 1) b p (by simpa using e1) (by simpa using e2)) (by simpa using hl))
/-- what is walked: a list or a tuple -/
theorem src_of {pins : List (Addr × Obj)} {σ : L2.St} {s : Shared} {x : Val} {xs : List Val} {wx : V} {v : Value} (R : Rl X.K kt ca io st H) (rx : RV X.K kt io st.n H x wx) (ex : itemsOf x st = some xs) (I : Inv X pins σ H s) (rv : RelV wx v) :
    ∃ (a : Addr) (ws : List V) (its : List Value) (o : Obj) (Hs : Heap → Prop) (Si : Addr → Nat → Heap → Prop), v = .ref a ∧ a < s.heap.objs.size ∧ RVs X.K kt io st.n H xs ws ∧ Vals ws its ∧ ws.length ≤ sizeLine ∧ Begins v o Hs ∧ Hs s.heap ∧
      ∀ it, a ≠ it → (∀ A : Around, A.handled = none → Draws X.prog X.w A it [it, a] its.toArray.size (fun i u => its.toArray[i]? = some u) (Si it)) ∧
        ∀ h', h'.get? it = some o → (∀ b u, s.heap.get? b = some u → h'.get? b = some u) → Si it 0 h' := by
  cases x with
  | tup ys =>
    cases ex
    obtain ⟨a, ws, rfl, sq, r⟩ := rx.itup
    obtain rfl : v = .ref a := rv
    obtain ⟨its, rv', ht, hl⟩ := I.tuple sq.sqT
    have ht' : s.heap.IsTuple a its.toArray := by
      obtain ⟨o, e, q⟩ := ht
      exact ⟨o, e, q.1, q.2⟩
    refine ⟨a, ws, its, _, _, fun it i h => h.IsTupleIter it a i ∧ h.IsTuple a its.toArray, rfl, let ⟨_, e, _⟩ := ht; Heap.lt_size e, r, rv', hl, begins_tuple a its.toArray, ht', fun it hne => ⟨fun A hh => Draws.tuple hh it a hne its.toArray, fun h' e k => ⟨⟨_, e, rfl, rfl⟩, ht'.at fun o q => k _ o q⟩⟩⟩
  | ref i =>
    have ex : st.lst i = some xs := ex
    have em : st.m i = some (.lst xs) := by
      unfold Store.lst at ex
      split at ex
      · cases ex; assumption
      · cases ex
    obtain ⟨ws, sl, r, _⟩ := R.list em
    obtain ⟨rfl, _⟩ := rx.iref
    obtain rfl : v = .ref (io i) := rv
    obtain ⟨its, rv', ht, hl⟩ := I.list sl
    have ht' : s.heap.IsList (io i) its.toArray := by
      obtain ⟨o, n, e, c, d, q⟩ := ht
      exact ⟨o, e, c, n, q⟩
    refine ⟨io i, ws, its, _, _, fun it k h => h.IsListIter it (io i) k ∧ h.IsList (io i) its.toArray, rfl, let ⟨_, _, e, _⟩ := ht; Heap.lt_size e, r, rv', hl, begins_list (io i) its.toArray, ht', fun it hne => ⟨fun A hh => Draws.list hh it (io i) hne its.toArray, fun h' e k => ⟨⟨_, e, rfl, rfl⟩, ht'.at fun o q => k _ o q⟩⟩⟩
  | _ => cases ex
/-- list(zip(x, y)) -/
def zSem (X : Cx) : V → V → Hp → VK → Prop := fun x y H Q => ∀ (pins : List (Addr × Obj)) (s : Shared) (σ : L2.St) (v u : Value), Inv X pins σ H s → RelV x v → RelV y u →
  wpAny (model X.prog X.w) X.A (call (.type "zip") [v, u]) (fun z s1 => wpAny (model X.prog X.w) X.A (call (.type "list") [z]) (EP X pins σ Q) X.xe s1) X.xe s
theorem vals_zip {us ws : List V} {is js : List Value} (h1 : Vals us is) (h2 : Vals ws js) {j : Nat} {x1 x2 : Value} {p : V × V} (e1 : is.toArray[j]? = some x1) (e2 : js.toArray[j]? = some x2) (e : (us.zip ws)[j]? = some p) : RelV p.1 x1 ∧ RelV p.2 x2 := by
  obtain ⟨q1, q2⟩ := p
  rw [List.getElem?_zip_eq_some] at e
  obtain ⟨a1, a2, a3⟩ := h1.get e.1
  obtain ⟨b1, b2, b3⟩ := h2.get e.2
  have z1 : is[j]? = some x1 := by simpa using e1
  have z2 : js[j]? = some x2 := by simpa using e2
  rw [z1] at a2; rw [z2] at b2
  cases a2; cases b2
  exact ⟨a3, b3⟩
theorem zip_ok (hc : X.calm = true) {x y : Val} {xs ys : List Val} {wx wy : V} {Q : VK} (R : Rl X.K kt ca io st H) (rx : RV X.K kt io st.n H x wx) (ry : RV X.K kt io st.n H y wy) (ex : itemsOf x st = some xs) (ey : itemsOf y st = some ys)
    (p : Post X.K kt ca io st H (.ref st.n) (st.new (.lst (zipL xs ys))) Q) : zSem X wx wy H Q := by
  intro pins s σ v u I rv ru
  obtain ⟨a, us, is, o1, Hs1, Si1, rfl, la, r1, v1, l1, B1, h1, k1⟩ := src_of R rx ex I rv
  obtain ⟨b, ws, js, o2, Hs2, Si2, rfl, lb, r2, v2, l2, B2, h2, k2⟩ := src_of R ry ey I ru
  refine zip_begins2 B1 B2 h1 h2 fun h' hz hTI hTO g1 g2 hsz hk => ?_
  have hd : X.A.handled = none := I.ok.hd hc
  have la : @LT.lt Nat _ a s.heap.objs.size := la
  have lb : @LT.lt Nat _ b s.heap.objs.size := lb
  have na : a ≠ s.heap.objs.size := Nat.ne_of_lt la
  have nb : b ≠ s.heap.objs.size + 1 := Nat.ne_of_lt (Nat.lt_succ_of_lt lb)
  have D : ZipSep2 (s.heap.objs.size + 4) (s.heap.objs.size + 2) (s.heap.objs.size + 3) s.heap.objs.size (s.heap.objs.size + 1) [s.heap.objs.size, a] [s.heap.objs.size + 1, b] := by
    have ne2 : ∀ {c d e : Nat}, c ≠ d → c ≠ e → c ∉ [d, e] := fun h1 h2 m => by
      simp only [List.mem_cons, List.not_mem_nil, or_false] at m
      rcases m with m | m
      · exact h1 m
      · exact h2 m
    exact ⟨(by show @Ne Nat _ _; omega), (by show @Ne Nat _ _; omega), (by show @Ne Nat _ _; omega), (by show @Ne Nat _ _; omega), by simp, ne2 (by omega) (by show @Ne Nat _ _; omega), ne2 (by omega) (by show @Ne Nat _ _; omega), (by show @Ne Nat _ _; omega), by simp,
      ne2 (by omega) (by show @Ne Nat _ _; omega), ne2 (by omega) (by show @Ne Nat _ _; omega), ne2 (by omega) (by show @Ne Nat _ _; omega), ne2 (by omega) (by show @Ne Nat _ _; omega)⟩
  refine call_list_zip (s := { s with heap := h' }) (n := (us.zip ws).length) D ((k1 _ na).1 _ hd) ((k2 _ nb).1 _ hd) hz hTI ⟨_, _, hTO⟩ ((k1 _ na).2 h' g1 hk) ((k2 _ nb).2 h' g2 hk) ?_ ?_ ?_ ?_ ?_ ?_ fun g tk acc c as hkg hl hal hP hacc => ?_
  · intro c hc; simp only [List.mem_cons, List.not_mem_nil, or_false] at hc; show @LT.lt Nat _ c h'.objs.size; rw [hsz]; rcases hc with e | e <;> rw [e] <;> omega
  · intro c hc; simp only [List.mem_cons, List.not_mem_nil, or_false] at hc; show @LT.lt Nat _ c h'.objs.size; rw [hsz]; rcases hc with e | e <;> rw [e] <;> omega
  · have := v1.length; rw [List.length_zip, List.size_toArray]; omega
  · have := v2.length; rw [List.length_zip, List.size_toArray]; omega
  · have := v1.length; have := v2.length; rw [List.length_zip, List.size_toArray, List.size_toArray]; omega
  · rw [List.length_zip]; omega
  · dsimp only at hkg hl hP ⊢
    have keep : ∀ c o, s.heap.get? c = some o → g.get? c = some o := fun c o e => hkg c o (by
      have q : @LT.lt Nat _ c s.heap.objs.size := Heap.lt_size e
      simp only [List.mem_cons, List.not_mem_nil, or_false]
      intro m
      rcases m with m | m | m | m <;> (have m : @Eq Nat _ _ := m; omega)) (hk c o e)
    have new : ∀ c, c ∈ as → s.heap.objs.size + 5 < c := fun c hc => by
      have q : @LE.le Nat _ (h'.objs.size + 1) c := hP.above c hc
      show @LT.lt Nat _ _ _
      omega
    have fresh : ∀ c, c ∈ as → H c = none := fun c hc => I.hok.fresh (by have q : @LT.lt Nat _ _ c := new c hc; show @LE.le Nat _ _ _; omega)
    have nl : h'.objs.size ∉ as := fun m => by have q : @LT.lt Nat _ _ _ := new _ m; omega
    have fl : layT H as (us.zip ws) h'.objs.size = none := by rw [layT_not nl]; exact I.hok.fresh (by omega)
    have old : ∀ c o, H c = some o → layT H as (us.zip ws) c = some o := fun c o e => by
      rw [layT_not (fun m => by rw [fresh c m] at e; cases e)]; exact e
    have up : Up io st.n H io st.n (layT H as (us.zip ws)) := ⟨Nat.le_refl _, fun _ _ => rfl, ⟨fun c zs e => old c _ e, fun c o q e => old c _ e⟩⟩
    refine ⟨.ref h'.objs.size, upd (layT H as (us.zip ws)) h'.objs.size (.lst (as.map V.ref)), ?_, rfl, ?_⟩
    · refine lay_inv I keep (fun c o e => ?_) fun c o e => ?_
      · rw [upd_ne (ne_of_none (old c o e) fl)]; exact old c o e
      · by_cases hcl : c = h'.objs.size
        · subst hcl
          rw [upd_same] at e; cases e
          refine .inr ⟨by omega, ?_⟩
          refine ⟨by rw [List.length_map, hal, List.length_zip]; omega, acc.toList, c, ?_, ?_⟩
          · rw [hacc]
            clear hP hacc hal nl fl old up new fresh
            induction as with
            | nil => exact .nil
            | cons q t ih => exact .cons rfl ih
          · rw [Array.toArray_toList]; exact hl
        · rw [upd_ne hcl] at e
          rcases layT_some e with e | ⟨j, q, e1, e2, rfl⟩
          · exact .inl e
          · have hm := List.mem_of_getElem? e1
            refine .inr ⟨by have q : @LT.lt Nat _ _ c := new c hm; show @LE.le Nat _ _ _; omega, ?_⟩
            obtain ⟨x1, x2, p1, p2, ht⟩ := hP.pairs j c e1
            obtain ⟨a1, a2⟩ := vals_zip v1 v2 p1 p2 e2
            exact ⟨by rw [sizeLine_eq]; show 2 ≤ _; decide, [x1, x2], .cons a1 (.cons a2 .nil), _, ht, rfl, _, rfl⟩
    · have p2 : Post X.K kt ca io st (layT H as (us.zip ws)) (.ref st.n) (st.new (.lst (zipL xs ys))) Q := fun io' H' w u' R' r' => p io' H' w (up.trans u') R' r'
      exact p2.list (R.ext old)
        (zipL_rv (r1.up up) (r2.up up) (fun j c q e1 e2 => layT_at hP.rise e1 e2) hal) _ fl
theorem pe_lzip {a b : Expr} {ta tb : TE} {p p2 pos pos2 : Pos} (hg : Gl X "list") (hm : X.mg "list" = none) (hg2 : Gl X "zip") (hm2 : X.mg "zip" = none) (ha : PE X a ta) (hb : PE X b tb)
    (n0 : starEach [.Call (.Name "zip" p2) [a, b] [] pos2] X.env = (false, eval (.Call (.Name "zip" p2) [a, b] [] pos2) X.env) :: starEach [] X.env)
    (na : starEach [a, b] X.env = (false, eval a X.env) :: starEach [b] X.env) (nb : starEach [b] X.env = (false, eval b X.env) :: starEach [] X.env) (hp : (backTo pos2 (starEach [b] X.env)).any (·.1) = false) :
    PE X (.Call (.Name "list" p) [.Call (.Name "zip" p2) [a, b] [] pos2] [] pos) (fun σ H Q => ta σ H fun x H1 => tb σ H1 fun y H2 => zSem X x y H2 Q) := by
  refine ⟨fun pins s σ H Q I h => ?_⟩
  refine PyProof.Rows.Call_ (ld_blt I hg hm boot_list (PyProof.Rows.callWith_type1 (args_cons (thn (Q := fun z s1 => wpAny (model X.prog X.w) X.A (call (.type "list") [z]) (EP X pins σ Q) X.xe s1) ?_ fun x s1 hx => args_nil hx) n0) n0))
  refine PyProof.Rows.Call_ (ld_blt I hg2 hm2 boot_zip (PyProof.Rows.callWith_type1 (args_cons (thn (ha.run pins s σ H _ I h) fun v s1 ⟨x, H1, I1, rx, q1⟩ => one_arg hb I1 q1 (fun u s2 y H2 I2 r2 q => ?_) nb) na) na hp))
  exact q pins s2 σ v u I2 rx r2
end
end CL

/-! CL, part z2: dict(zip(a, b)) of two lists: what of it the run says -/
namespace CL
open PySem PySem.Spec PyProof.Rows L2
section
variable {X : Cx} {kt : List (List Val)} {ca io : Nat → Addr} {st : Store} {H : Hp}
theorem key1_mix {K : PySem.W.Frag} {n : Nat} {x : Val} {k : Key} {w : V} {u : Value} (P : Program) (wd : World) (h : key1 x = some k) (r : RV K kt io n H x w) (rv : RelV w u) : (mixKind P wd).is k u = true := by
  cases x with
  | int i =>
    cases h
    obtain rfl := r.iint
    obtain ⟨t, rfl⟩ := (show ∃ t, u = Value.int i t from rv)
    exact mixKind_int P wd i t
  | str z =>
    cases h
    obtain rfl := r.istr
    obtain ⟨t, rfl⟩ := (show ∃ t, u = Value.str z t from rv)
    exact mixKind_str P wd z t
  | _ => cases h
theorem zipK_ok {K : PySem.W.Frag} {n : Nat} (P : Program) (wd : World) : ∀ {xs ys : List Val} {us ws : List V} {is js : List Value} {kvs : List (Key × Val)}, RVs K kt io n H xs us → RVs K kt io n H ys ws → Vals us is → Vals ws js → zipK xs ys = some kvs →
    ∃ (kws : List (Key × V)) (prs : List (Key × Value)), RKs K kt io n H kvs kws ∧ KV kws prs ∧ prs.length = min is.length js.length ∧
      ∀ (i : Nat) key v, is[i]? = some key → js[i]? = some v → ∃ k, prs[i]? = some (k, v) ∧ (mixKind P wd).is k key = true
  | _, _, _, _, is, js, _, .nil, _, v1, _, e => by
    cases v1
    simp only [zipK] at e
    cases e
    exact ⟨[], [], .nil, .nil, by simp, fun i key v e1 _ => by simp at e1⟩
  | _, _, _, _, is, js, _, .cons _ _, .nil, _, v2, e => by
    cases v2
    simp only [zipK] at e
    cases e
    exact ⟨[], [], .nil, .nil, by simp, fun i key v _ e2 => by simp at e2⟩
  | _, _, _, _, _, _, kvs, .cons (x := x) (y := w) h1 r1, .cons h2 r2, .cons q1 v1, .cons q2 v2, e => by
    simp only [zipK] at e
    split at e
    · rename_i k r ek er
      cases e
      obtain ⟨kws, prs, a1, a2, a3, a4⟩ := zipK_ok P wd r1 r2 v1 v2 er
      refine ⟨(k, _) :: kws, (k, _) :: prs, .cons h2 a1, .cons ⟨rfl, q2⟩ a2, by simp only [List.length_cons, a3]; omega, fun i key v e1 e2 => ?_⟩
      cases i with
      | zero =>
        simp at e1 e2
        subst e1 e2
        exact ⟨k, rfl, key1_mix P wd ek h1 q1⟩
      | succ i =>
        obtain ⟨k', b1, b2⟩ := a4 i key v (by simpa using e1) (by simpa using e2)
        exact ⟨k', by simpa using b1, b2⟩
    · cases e
/-- dict(zip(x, y)) -/
def dzSem (X : Cx) : V → V → Hp → VK → Prop := fun x y H Q => ∀ (pins : List (Addr × Obj)) (s : Shared) (σ : L2.St) (v u : Value), Inv X pins σ H s → RelV x v → RelV y u →
  wpAny (model X.prog X.w) X.A (call (.type "zip") [v, u]) (fun z s1 => wpAny (model X.prog X.w) X.A (call (.type "dict") [z]) (EP X pins σ Q) X.xe s1) X.xe s
theorem dz_ok (hc : X.calm = true) {i j : Nat} {xs ys : List Val} {kvs : List (Key × Val)} {wx wy : V} {Q : VK} (R : Rl X.K kt ca io st H) (rx : RV X.K kt io st.n H (.ref i) wx) (ry : RV X.K kt io st.n H (.ref j) wy) (ex : st.m i = some (.lst xs)) (ey : st.m j = some (.lst ys)) (ek : zipK xs ys = some kvs)
    (p : Post X.K kt ca io st H (.ref st.n) (st.new (.dK (merge [] kvs))) Q) : dzSem X wx wy H Q := by
  intro pins s σ v u I rv ru
  obtain ⟨us, sl1, r1, _⟩ := R.list ex
  obtain ⟨ws, sl2, r2, _⟩ := R.list ey
  obtain ⟨rfl, _⟩ := rx.iref
  obtain ⟨rfl, _⟩ := ry.iref
  obtain rfl : v = .ref (io i) := rv
  obtain rfl : u = .ref (io j) := ru
  obtain ⟨is, v1, hp1, l1⟩ := I.list sl1
  obtain ⟨js, v2, hp2, l2⟩ := I.list sl2
  have h1 : s.heap.IsList (io i) is.toArray := by
    obtain ⟨o, n, e, c, d, q⟩ := hp1
    exact ⟨o, e, c, n, q⟩
  have h2 : s.heap.IsList (io j) js.toArray := by
    obtain ⟨o, n, e, c, d, q⟩ := hp2
    exact ⟨o, e, c, n, q⟩
  have la : @LT.lt Nat _ (io i) s.heap.objs.size := let ⟨_, _, e, _⟩ := hp1; Heap.lt_size e
  have lb : @LT.lt Nat _ (io j) s.heap.objs.size := let ⟨_, _, e, _⟩ := hp2; Heap.lt_size e
  obtain ⟨kws, prs, a1, a2, a3, a4⟩ := zipK_ok X.prog X.w r1 r2 v1 v2 ek
  refine call_zip_2 h1 h2 fun h' hz hTI hTO g1 g2 hsz hk => ?_
  have hd : X.A.handled = none := I.ok.hd hc
  have D : ZipApart (s.heap.objs.size + 4) (s.heap.objs.size + 2) (s.heap.objs.size + 3) s.heap.objs.size (s.heap.objs.size + 1) (io i) (io j) := by
    constructor <;> (show @Ne Nat _ _; omega)
  have hl1 : h'.IsList (io i) is.toArray := h1.at fun o e => hk _ o e
  have hl2 : h'.IsList (io j) js.toArray := h2.at fun o e => hk _ o e
  refine PySem.call_dict_pairs (s := { s with heap := h' }) (knd := mixKind X.prog X.w) (kvs := prs) (PairArg.zip _ _ _ _ _ _ _ D is.toArray js.toArray) hd ⟨hz, hTI, ⟨_, _, hTO⟩, g1, g2, hl1, hl2⟩ ⟨by rw [a3]; simp, fun n key v hh => a4 n key v (by simpa using hh.1) (by simpa using hh.2)⟩ ?_ fun g tk hdk hkg => ?_
  · have := v1.length
    simp only [List.size_toArray]; omega
  dsimp only at hdk hkg
  have keep : ∀ c o, s.heap.get? c = some o → g.get? c = some o := fun c o e => hkg c o (by
    have q : @LT.lt Nat _ c s.heap.objs.size := Heap.lt_size e
    simp only [List.mem_cons, List.not_mem_nil, or_false]
    intro m
    rcases m with m | m | m | m <;> (have m : @Eq Nat _ _ := m; omega)) (hk c o e)
  have fl : H h'.objs.size = none := I.hok.fresh (by omega)
  have hm : (h'.objs.size == sysModules) = false := beq_eq_false_iff_ne.mpr (Nat.ne_of_gt (by have q : @LT.lt Nat _ _ _ := I.big; show @LT.lt Nat _ _ _; omega))
  have hlen : (mergeK [] kws).length ≤ sizeLine := by
    refine Nat.le_trans (length_mergeK kws []) ?_
    have := v1.length
    rw [List.length_nil, Nat.zero_add, a2.length, a3]; omega
  refine ⟨.ref h'.objs.size, upd H h'.objs.size (.dK (mergeK [] kws)), ?_, rfl, ?_⟩
  · refine lay_inv (s := s) (h' := g) (t' := tk) I keep (fun c o e => ?_) fun c o e => ?_
    · rw [upd_ne (ne_of_none e fl)]; exact e
    · by_cases hcl : c = h'.objs.size
      · subst hcl
        rw [upd_same] at e; cases e
        exact .inr ⟨by omega, (show ObjOk X.prog X.w _ _ _ (.dK (mergeK [] kws)) from ⟨hlen, hm, merged [] prs, KV.merge a2 .nil, hdk⟩)⟩
      · rw [upd_ne hcl] at e
        exact .inl e
  · exact p.made (u := .dK (mergeK [] kws)) R (fun a ha => .dK upd_same ((RKs.merge a1 .nil).up (Up.new _ ha))) _ fl
theorem pe_dzip {a b : Expr} {ta tb : TE} {p p2 pos pos2 : Pos} (hg : Gl X "dict") (hm : X.mg "dict" = none) (hg2 : Gl X "zip") (hm2 : X.mg "zip" = none) (ha : PE X a ta) (hb : PE X b tb)
    (n0 : starEach [.Call (.Name "zip" p2) [a, b] [] pos2] X.env = (false, eval (.Call (.Name "zip" p2) [a, b] [] pos2) X.env) :: starEach [] X.env)
    (na : starEach [a, b] X.env = (false, eval a X.env) :: starEach [b] X.env) (nb : starEach [b] X.env = (false, eval b X.env) :: starEach [] X.env) (hp : (backTo pos2 (starEach [b] X.env)).any (·.1) = false) :
    PE X (.Call (.Name "dict" p) [.Call (.Name "zip" p2) [a, b] [] pos2] [] pos) (fun σ H Q => ta σ H fun x H1 => tb σ H1 fun y H2 => dzSem X x y H2 Q) := by
  refine ⟨fun pins s σ H Q I h => ?_⟩
  refine PyProof.Rows.Call_ (ld_blt I hg hm boot_dict (PyProof.Rows.callWith_type1 (args_cons (thn (Q := fun z s1 => wpAny (model X.prog X.w) X.A (call (.type "dict") [z]) (EP X pins σ Q) X.xe s1) ?_ fun x s1 hx => args_nil hx) n0) n0))
  refine PyProof.Rows.Call_ (ld_blt I hg2 hm2 boot_zip (PyProof.Rows.callWith_type1 (args_cons (thn (ha.run pins s σ H _ I h) fun v s1 ⟨x, H1, I1, rx, q1⟩ => one_arg hb I1 q1 (fun u s2 y H2 I2 r2 q => ?_) nb) na) na hp))
  exact q pins s2 σ v u I2 rx r2
end
end CL

/-! CL, part x: for a, b in zip(x, y) of a list and a tuple in any mix -/
namespace CL
open PySem PySem.Spec PyProof.Rows L2
/-- a list (true) or a tuple -/
def SqK (k : Bool) (K : PySem.W.Frag) (H : Hp) (a : Addr) (xs : List V) : Prop := match k with
  | true => SqL K H a xs
  | false => SqT K H a xs
def ItK (k : Bool) (h : Heap) (it a : Addr) (i : Nat) : Prop := match k with
  | true => h.IsListIter it a i
  | false => h.IsTupleIter it a i
def ArK (k : Bool) (h : Heap) (a : Addr) (xs : Array Value) : Prop := match k with
  | true => h.IsList a xs
  | false => h.IsTuple a xs
theorem ItK.at {k : Bool} {h h' : Heap} {it a : Addr} {i : Nat} (x : ItK k h it a i) (g : ∀ o, h.get? it = some o → h'.get? it = some o) : ItK k h' it a i := by
  cases k
  · exact Heap.IsTupleIter.at x g
  · exact Heap.IsListIter.at x g
theorem ItK.obj {k : Bool} {h : Heap} {it a : Addr} {i : Nat} (x : ItK k h it a i) : ∃ o, h.get? it = some o ∧ ∀ v, o.data ≠ .cell v := by
  cases k <;> obtain ⟨o1, e1, _, d1⟩ := x <;> exact ⟨o1, e1, fun v q => by rw [d1] at q; cases q⟩
theorem inv_seqK {X : Cx} {pins : List (Addr × Obj)} {σ : L2.St} {H : Hp} {s : Shared} {k : Bool} {a : Addr} {xs : List V} (I : Inv X pins σ H s) (h : SqK k X.K H a xs) : ∃ its : List Value, Vals xs its ∧ ArK k s.heap a its.toArray ∧ a < s.heap.objs.size := by
  cases k
  · obtain ⟨its, rv, ht, hl⟩ := I.tuple h
    obtain ⟨o, e, q⟩ := ht
    exact ⟨its, rv, ⟨o, e, q.1, q.2⟩, Heap.lt_size e⟩
  · obtain ⟨its, rv, ht, hl⟩ := I.list h
    obtain ⟨o, n, e, c, d, q⟩ := ht
    exact ⟨its, rv, ⟨o, e, c, n, q⟩, Heap.lt_size e⟩
theorem inv_injK {X : Cx} {pins : List (Addr × Obj)} {σ : L2.St} {H : Hp} {s : Shared} {k : Bool} {a : Addr} {xs ys : List V} (I : Inv X pins σ H s) (h : SqK k X.K H a xs) (g : SqK k X.K H a ys) : xs = ys := by
  cases k
  · exact I.tuple_inj h g
  · exact I.list_inj h g
theorem drawsK {prog : Program} {w : World} {A : Around} {k : Bool} (hh : A.handled = none) (it a : Addr) (hne : a ≠ it) (its : Array Value) : Draws prog w A it [it, a] its.size (fun i u => its[i]? = some u) (fun i h => ItK k h it a i ∧ ArK k h a its) := by
  cases k
  · exact Draws.tuple hh it a hne its
  · exact Draws.list hh it a hne its
theorem beginsK {k : Bool} {X : Cx} {pins : List (Addr × Obj)} {σ : L2.St} {H : Hp} {s : Shared} {a : Addr} {xs : List V} (I : Inv X pins σ H s) (h : SqK k X.K H a xs) : ∃ (o : Obj) (Hs : Heap → Prop), Begins (.ref a) o Hs ∧ Hs s.heap ∧ ∀ it h', h'.get? it = some o → ItK k h' it a 0 := by
  obtain ⟨its, _, q, _⟩ := inv_seqK I h
  cases k
  · exact ⟨_, _, begins_tuple a its.toArray, q, fun it h' e => ⟨_, e, rfl, rfl⟩⟩
  · exact ⟨_, _, begins_list a its.toArray, q, fun it h' e => ⟨_, e, rfl, rfl⟩⟩
/-- the two as they stand at each turn, the items in new pairs -/
def ItM (k l : Bool) (K : PySem.W.Frag) (a b : Addr) : It :=
  ⟨fun i H => ∃ (xs ys : List V) (x y : V), SqK k K H a xs ∧ SqK l K H b ys ∧ xs[i]? = some x ∧ ys[i]? = some y,
    fun i H v H' => ∃ T x y, v = .ref T ∧ H T = none ∧ H' = upd H T (.tup [x, y]) ∧ (∀ xs, SqK k K H a xs → xs[i]? = some x) ∧ ∀ ys, SqK l K H b ys → ys[i]? = some y,
    fun i H => ∃ xs ys : List V, SqK k K H a xs ∧ SqK l K H b ys ∧ i = min xs.length ys.length⟩
theorem apart2 {z TI TO i1 i2 a b : Addr} (D : ZipApart z TI TO i1 i2 a b) : ZipSep2 z TI TO i1 i2 [i1, a] [i2, b] := by
  have ne2 : ∀ {c d e : Addr}, c ≠ d → c ≠ e → c ∉ [d, e] := fun h1 h2 m => by
    simp only [List.mem_cons, List.not_mem_nil, or_false] at m
    rcases m with m | m
    · exact h1 m
    · exact h2 m
  exact ⟨D.TIz, D.TOz, D.TITO, D.TIi1, by simp, ne2 D.i1z.symm D.l1z.symm, ne2 D.TOi1 D.l1TO.symm, D.TIi2, by simp, ne2 D.i2z.symm D.l2z.symm, ne2 D.TOi2 D.l2TO.symm, ne2 D.i12 D.l2i1.symm, ne2 D.i12.symm D.l1i2.symm⟩
theorem turn_zipM {P : Program} {w : World} {K : PySem.W.Frag} {k l : Bool} {elts : List Expr} {kk : Nat} {tpos : Pos} {a b z TI TO i1 i2 : Addr} (D : ZipApart z TI TO i1 i2 a b) :
    Turn P w K (.Tuple elts kk tpos) (ItM k l K a b) [z, TI, TO, i1, i2] z (fun i h => IsZip h z TI TO .none ∧ IsPair h TI (.ref i1) (.ref i2) ∧ (∃ x y, IsPair h TO x y) ∧ ItK k h i1 a i ∧ ItK l h i2 b i) where
  mem := by simp
  obj := fun i h st c hc => by
    obtain ⟨hz, hTI, ⟨x, y, hTO⟩, h1, h2⟩ := st
    have e' : c = z ∨ c = TI ∨ c = TO ∨ c = i1 ∨ c = i2 := by simpa using hc
    rcases e' with q | q | q | q | q
    · rw [q]; exact ⟨_, hz, fun v q => nomatch q⟩
    · rw [q]; exact ⟨_, hTI, fun v q => nomatch q⟩
    · rw [q]; exact ⟨_, hTO, fun v q => nomatch q⟩
    · rw [q]; exact h1.obj
    · rw [q]; exact h2.obj
  keep := fun i h h' st k => by
    obtain ⟨hz, hTI, ⟨x, y, hTO⟩, h1, h2⟩ := st
    exact ⟨k z (by simp) _ hz, k TI (by simp) _ hTI, ⟨x, y, k TO (by simp) _ hTO⟩, h1.at fun o q => k i1 (by simp) o q, h2.at fun o q => k i2 (by simp) o q⟩
  item := by
    intro X hP hw hK hc i pins s σ H E I hf st hg
    subst hP hw hK
    obtain ⟨hz, hTI, ⟨x0, y0, hTO⟩, h1, h2⟩ := st
    obtain ⟨xs, ys, x, y, hqx, hqy, hx, hy⟩ := hg
    obtain ⟨its, rv, p, _⟩ := inv_seqK I hqx
    obtain ⟨its2, rv2, p2, _⟩ := inv_seqK I hqy
    obtain ⟨u, hu, ru⟩ := rv.get hx
    obtain ⟨u2, hu2, ru2⟩ := rv2.get hy
    have hzl : z < s.heap.objs.size := Heap.lt_size hz
    have hd : X.A.handled = none := I.ok.hd hc
    have l1 : i < its.toArray.size := by
      have := (List.getElem?_eq_some_iff.mp hu).1
      simpa using this
    have l2 : i < its2.toArray.size := by
      have := (List.getElem?_eq_some_iff.mp hu2).1
      simpa using this
    have hTy : s.TypeIs (.ref z) "zip" := ⟨_, hz, rfl⟩
    unfold pyNext
    refine wpAny_bind (wpAny_attempt (wpAny_callSpecial?_slot (name := Str.ofString "__next__") hTy F.slot_zip_next (wpAny_call_entry F.slot_zip_next hTy F.entry_zip_next
      (zipD2_next_item (apart2 D) (drawsK (k := k) (A := X.A.in1) hd i1 a D.l1i1 its.toArray) (drawsK (k := l) (A := X.A.in1) hd i2 b D.l2i2 its2.toArray) hz hTI hTO ⟨h1, p⟩ ⟨h2, p2⟩ l1 l2 fun x1 x2 h' tk q1 q2 z' TO' h1' h2' hT hsz hk => wpAny_pure ?_) (F.args_zip_next_1 _))))
    have q1 : its[i]? = some x1 := by simpa using q1
    have q2 : its2[i]? = some x2 := by simpa using q2
    rw [hu] at q1; rw [hu2] at q2
    cases q1; cases q2
    refine ⟨_, rfl, wpAny_letOwnedTupleGo_zip (s := { s with heap := h', toks := tk }) z' fun h'' z'' sb => ?_⟩
    have hT2 : h''.get? s.heap.objs.size = some { cls := .type "tuple", data := .seq #[u, u2] } := (sb.2 _ (Nat.ne_of_gt hzl)).trans hT
    have new : ObjOk X.prog X.w (upd H s.heap.objs.size (.tup [x, y])) h'' s.heap.objs.size (.tup [x, y]) :=
      ⟨by show 2 ≤ sizeLine; decide, [u, u2], .cons ru (.cons ru2 .nil), ⟨_, hT2, rfl, _, rfl⟩⟩
    have I1 : Inv X pins σ (upd H s.heap.objs.size (.tup [x, y])) { s with heap := h'', toks := tk } :=
      I.turnedNew (t' := tk) (ch := [z, TI, TO, i1, i2]) (fun c o hb q => (sb.2 c (fun q' => hb (by simp [q']))).trans (hk c o (fun q' => hb (by simp [q'])) (fun q' => hb (by simp [q'])) (fun q' => hb (by simp [q'])) (fun q' => hb (by simp [q'])) q)) hf (Nat.le_refl _) new
    refine ⟨.ref s.heap.objs.size, _, I1, rfl, ⟨_, x, y, rfl, I.hok.fresh (Nat.le_refl _), rfl, fun l hl => by rw [inv_injK I hl hqx]; exact hx, fun l hl => by rw [inv_injK I hl hqy]; exact hy⟩, ⟨z'', ?_, ⟨u, u2, ?_⟩, ?_, ?_⟩, fun c hcm => ?_⟩
    · exact (sb.2 _ D.TIz).trans (hk _ _ D.TIz D.TITO D.TIi1 D.TIi2 hTI)
    · exact (sb.2 _ D.TOz).trans TO'
    · exact h1'.1.at fun o q => (sb.2 _ D.i1z).trans q
    · exact h2'.1.at fun o q => (sb.2 _ D.i2z).trans q
    · have hlt : c < s.heap.objs.size := by
        have e' : c = z ∨ c = TI ∨ c = TO ∨ c = i1 ∨ c = i2 := by simpa using hcm
        rcases e' with q | q | q | q | q
        · rw [q]; exact hzl
        · rw [q]; exact Heap.lt_size hTI
        · rw [q]; exact Heap.lt_size hTO
        · rw [q]; obtain ⟨_, e1, _⟩ := h1.obj; exact Heap.lt_size e1
        · rw [q]; obtain ⟨_, e2, _⟩ := h2.obj; exact Heap.lt_size e2
      rw [upd_ne (Nat.ne_of_lt hlt)]
      exact (hf c hcm).1
  done := by
    intro X hP hw hK hc i pins s σ H E I hf st hg
    subst hP hw hK
    obtain ⟨hz, hTI, ⟨x0, y0, hTO⟩, h1, h2⟩ := st
    obtain ⟨xs, ys, hqx, hqy, hend⟩ := hg
    obtain ⟨its, rv, p, _⟩ := inv_seqK I hqx
    obtain ⟨its2, rv2, p2, _⟩ := inv_seqK I hqy
    have l1 := rv.length
    have l2 := rv2.length
    have hd : X.A.handled = none := I.ok.hd hc
    have hTy : s.TypeIs (.ref z) "zip" := ⟨_, hz, rfl⟩
    have n1 : its.toArray.size = xs.length := by rw [List.size_toArray]; omega
    have n2 : its2.toArray.size = ys.length := by rw [List.size_toArray]; omega
    unfold pyNext
    refine wpAny_bind (wpAny_attempt (wpAny_callSpecial?_slot (name := Str.ofString "__next__") hTy F.slot_zip_next (wpAny_call_entry F.slot_zip_next hTy F.entry_zip_next
      (zipD2_next_end (apart2 D) (drawsK (k := k) (A := X.A.in1) hd i1 a D.l1i1 its.toArray) (drawsK (k := l) (A := X.A.in1) hd i2 b D.l2i2 its2.toArray) hz hTI hTO ⟨h1, p⟩ ⟨h2, p2⟩ (by omega) (by omega) (by omega) fun h' tk e hk he => ?_) (F.args_zip_next_1 _))))
    obtain ⟨o, ho, hcl⟩ := he
    refine wpAny_bind (wpAny_isInstance (T := "StopIteration") (b := true) ⟨o, ho, hcl⟩ isSubtype_stop ?_)
    exact wpAny_pure ⟨rfl, I.turnedL (t' := tk) (ch := [z, TI, TO, i1, i2]) (fun c o hb q =>
      hk c o (fun q' => hb (by simp [q'])) (fun q' => hb (by simp [q'])) (fun q' => hb (by simp [q'])) (fun q' => hb (by simp [q'])) q) hf⟩
  self := fun A i s Q E st h => wpAny_pyIter_zip st.1 h
def iZipM (K : PySem.W.Frag) (ta : TA) : TI := fun σ H R => ta σ H fun vs H1 => ∃ k l a b xs ys, vs = [.ref a, .ref b] ∧ SqK k K H1 a xs ∧ SqK l K H1 b ys ∧ R (ItM k l K a b) H1
theorem pi_zipM {X : Cx} {e e2 : Expr} {ta : TA} {p pos tpos : Pos} {elts : List Expr} {kk : Nat} (hg : Gl X "zip") (hm : X.mg "zip" = none) (ha : PA X [e, e2] ta)
    (hs : starEach [e, e2] X.env = (false, eval e X.env) :: starEach [e2] X.env := by rfl) (hpl : (backTo pos (starEach [e2] X.env)).any (·.1) = false := by rfl) :
    PI X (.Tuple elts kk tpos) (.Call (.Name "zip" p) [e, e2] [] pos) (iZipM X.K ta) := by
  refine ⟨fun pins s σ H R I h => ?_⟩
  refine Call_ (ld_blt I hg hm PyProof.Rows.boot_zip (PyProof.Rows.callWith_type1 (thn (ha.run pos pins s σ H _ I h) fun us s1 ⟨vs, H1, I1, r1, q1⟩ => ?_) hs hpl))
  obtain ⟨k, l, a, b, xs, ys, ex, hqx, hqy, q⟩ := q1
  subst ex
  cases r1 with
  | cons r rr =>
    cases rr with
    | cons r' rr =>
      cases rr
      cases r
      cases r'
      have fresh5 : ∀ c, c ∈ [s1.heap.objs.size + 4, s1.heap.objs.size + 2, s1.heap.objs.size + 3, s1.heap.objs.size, s1.heap.objs.size + 1] → FpOk X pins H1 c := fun c hcm => by
        have e' : c = s1.heap.objs.size + 4 ∨ c = s1.heap.objs.size + 2 ∨ c = s1.heap.objs.size + 3 ∨ c = s1.heap.objs.size ∨ c = s1.heap.objs.size + 1 := by simpa using hcm
        have hle : s1.heap.objs.size ≤ c := by
          rcases e' with z | z | z | z | z
          · rw [z]; exact Nat.le_add_right _ _
          · rw [z]; exact Nat.le_add_right _ _
          · rw [z]; exact Nat.le_add_right _ _
          · rw [z]; exact Nat.le_refl _
          · rw [z]; exact Nat.le_add_right _ _
        exact I1.fpOk hle (I1.hok.fresh hle)
      obtain ⟨its, rv, _, la⟩ := inv_seqK I1 hqx
      obtain ⟨its2, rv2, _, lb⟩ := inv_seqK I1 hqy
      obtain ⟨o1, Hs1, B1, g1, k1⟩ := beginsK I1 hqx
      obtain ⟨o2, Hs2, B2, g2, k2⟩ := beginsK I1 hqy
      refine zip_begins2 B1 B2 g1 g2 fun h' hz hTI hTO h1 h2 hsz hk => wpAny_pyIter_zip hz ?_
      have I2 : Inv X pins σ H1 { s1 with heap := h' } := I1.kept (t' := s1.toks) hk
      exact ⟨s1.heap.objs.size + 4, [s1.heap.objs.size + 4, s1.heap.objs.size + 2, s1.heap.objs.size + 3, s1.heap.objs.size, s1.heap.objs.size + 1], _, _, H1, rfl, I2, turn_zipM (PySem.W.ktu_apart s1.heap.objs.size a b la lb), ⟨hz, hTI, ⟨_, _, hTO⟩, k1 _ _ h1, k2 _ _ h2⟩, fresh5, q⟩
end CL

/-! CL, part x2: for i, a in enumerate(x) of a list or a tuple -/
namespace CL
open PySem PySem.Spec PyProof.Rows L2
set_option maxHeartbeats 1000000 in
theorem meets_enumerate_new1 {v : Value} {o : Obj} {H : Heap → Prop} (B : Begins v o H) :
    Meets (Builtin.«enumerate.__new__» ⟨[.type "enumerate", v], []⟩) (fun _ R s => H s.heap ∧
      R (.ok (.ret (.ref (s.heap.push o).objs.size))) { s with heap := (s.heap.push o).push { cls := .type "enumerate", data := .fields #[.none, .bool false, .ref s.heap.objs.size, rawInt 0, .none, .none] } }) :=
  .of_wp fun prog w A R s h => by
    obtain ⟨hp, g, d, tk, os⟩ := s; obtain ⟨h1, h⟩ := h
    have hsub := sub_enumerate
    have q1 : ∀ {A' : Around} {E : Value → Shared → Prop} {Q : Value → Shared → Prop}, Q (.ref hp.objs.size) ⟨hp.push o, g, d, tk, os⟩ → wpAny (model prog w) A' (pyIter v) Q E ⟨hp, g, d, tk, os⟩ :=
      fun q => B.iter prog w _ _ ⟨hp, g, d, tk, os⟩ _ h1 q
    wp_walk using q1
    refine wpAny_stack_any fun st => wpAny_pure ?_
    split
    · rename_i c _ _ _ _ _
      cases (c == Value.type "enumerate")
      · wp_walk using q1
        exact ⟨_, rfl, h⟩
      · wp_walk using q1
        exact ⟨_, rfl, h⟩
    · wp_walk using q1
      exact ⟨_, rfl, h⟩
theorem enum_begins1 {prog : Program} {w : World} {A : Around} {E : Value → Shared → Prop} {s : Shared} {v : Value} {o : Obj} {H : Heap → Prop} {Q : Value → Shared → Prop} (B : Begins v o H) (h1 : H s.heap)
    (h : ∀ h', IsEnum h' (s.heap.objs.size + 1) s.heap.objs.size 0 .none → h'.get? s.heap.objs.size = some o → h'.objs.size = s.heap.objs.size + 2 →
      (∀ b o, s.heap.get? b = some o → h'.get? b = some o) → Q (.ref (s.heap.objs.size + 1)) { s with heap := h' }) :
    wpAny (model prog w) A (call (.type "enumerate") [v]) Q E s := by
  refine callType_new F.called_enumerate (by decide) (F.typeCall_enumerate_1 _) (F.newCall_enumerate_1 _) (fun obj => F.args_object_init_2 obj _) F.entry_enumerate_new
    (meets_enumerate_new1 B) ⟨h1, ?_⟩
  have hz : (s.heap.push o).objs.size = s.heap.objs.size + 1 := Heap.size_push ..
  show _ ∧ _
  rw [hz]
  have he : IsEnum ((s.heap.push o).push { cls := .type "enumerate", data := .fields #[.none, .bool false, .ref s.heap.objs.size, rawInt 0, .none, .none] }) (s.heap.objs.size + 1) s.heap.objs.size 0 .none := by
    have := Heap.get?_push_size (s.heap.push o) (o := { cls := .type "enumerate", data := .fields #[.none, .bool false, .ref s.heap.objs.size, rawInt 0, .none, .none] }) rfl
    rw [hz] at this; exact this
  refine ⟨⟨_, he, rfl⟩, h _ he (Heap.get?_push_of_some _ (Heap.get?_push_size _ B.free)) (by rw [Heap.size_push, hz]) fun b o x => Heap.get?_push_of_some _ (Heap.get?_push_of_some _ x)⟩
def IteM (k : Bool) (K : PySem.W.Frag) (a : Addr) : It :=
  ⟨fun i H => ∃ (xs : List V) (x : V), SqK k K H a xs ∧ xs[i]? = some x, fun i H v H' => ∃ T x, v = .ref T ∧ H T = none ∧ H' = upd H T (.tup [.int (i : Nat), x]) ∧ ∀ xs, SqK k K H a xs → xs[i]? = some x, fun i H => ∃ xs : List V, SqK k K H a xs ∧ xs.length = i⟩
theorem turn_enumM {P : Program} {w : World} {K : PySem.W.Frag} {k : Bool} {elts : List Expr} {kk : Nat} {tpos : Pos} (a e it : Addr) (hai : a ≠ it) (hea : e ≠ a) :
    Turn P w K (.Tuple elts kk tpos) (IteM k K a) [e, it] e (fun i h => (∃ old, IsEnum h e it ((i : Nat) : Int) old) ∧ ItK k h it a i ∧ e ≠ it) where
  mem := by simp
  obj := fun i h st b hb => by
    obtain ⟨⟨old, he⟩, hit, _⟩ := st
    have e' : b = e ∨ b = it := by simpa using hb
    rcases e' with z | z
    · rw [z]; exact ⟨_, he, fun v q => nomatch q⟩
    · rw [z]; exact hit.obj
  keep := fun i h h' st k => let ⟨⟨old, he⟩, hi, hne⟩ := st; ⟨⟨old, k e (by simp) _ he⟩, hi.at fun o q => k it (by simp) o q, hne⟩
  item := by
    intro X hP hw hK hc i pins s σ H E I hf st hg
    subst hP hw hK
    obtain ⟨⟨old, he⟩, hit, hne⟩ := st
    obtain ⟨xs, x, hq, hx⟩ := hg
    obtain ⟨its, rv, p, _⟩ := inv_seqK I hq
    obtain ⟨u, hu, ru⟩ := rv.get hx
    have hd : X.A.handled = none := I.ok.hd hc
    have hel : e < s.heap.objs.size := Heap.lt_size he
    have hil : it < s.heap.objs.size := by obtain ⟨_, q, _⟩ := hit.obj; exact Heap.lt_size q
    have l1 : i < its.toArray.size := by
      have := (List.getElem?_eq_some_iff.mp hu).1
      simpa using this
    refine wpAny_pyNext_enum_itemD (drawsK (k := k) (A := X.A.in1) hd it a hai its.toArray) he ⟨hit, p⟩ l1 hne (by simp [hne, hea]) fun x1 h' tk q1 ho hst' hT hsz hk => ?_
    have q1 : its[i]? = some x1 := by simpa using q1
    rw [hu] at q1
    cases q1
    refine ⟨_, rfl, wpAny_letOwnedTupleGo_enum (s := { s with heap := h', toks := tk + 1 }) ho fun h'' he' sb => ?_⟩
    have hT2 : h''.get? s.heap.objs.size = some { cls := .type "tuple", data := .seq #[.int i tk, u] } := (sb.2 _ (Nat.ne_of_gt hel)).trans hT
    have new : ObjOk X.prog X.w (upd H s.heap.objs.size (.tup [.int (i : Nat), x])) h'' s.heap.objs.size (.tup [.int (i : Nat), x]) :=
      ⟨by show 2 ≤ sizeLine; decide, [.int i tk, u], .cons ⟨_, rfl⟩ (.cons ru .nil), ⟨_, hT2, rfl, _, rfl⟩⟩
    have I1 : Inv X pins σ (upd H s.heap.objs.size (.tup [.int (i : Nat), x])) { s with heap := h'', toks := tk + 1 } :=
      I.turnedNew (ch := [e, it]) (fun b ob hb q => (sb.2 b (fun z => hb (by simp [z]))).trans (hk b ob (fun z => hb (by simp [z])) (fun z => hb (by simp [z])) q)) hf (Nat.le_refl _) new
    refine ⟨.ref s.heap.objs.size, _, I1, rfl, ⟨_, x, rfl, I.hok.fresh (Nat.le_refl _), rfl, fun ys hy => by rw [inv_injK I hy hq]; exact hx⟩, ⟨⟨u, ?_⟩, hst'.1.at fun o q => (sb.2 it (Ne.symm hne)).trans q, hne⟩, fun b hb => ?_⟩
    · have e1 : ((i + 1 : Nat) : Int) = (i : Int) + 1 := by omega
      rw [e1]; exact he'
    · have hb' : b < s.heap.objs.size := by
        have e' : b = e ∨ b = it := by simpa using hb
        rcases e' with z | z
        · rw [z]; exact hel
        · rw [z]; exact hil
      rw [upd_ne (Nat.ne_of_lt hb')]
      exact (hf b hb).1
  done := by
    intro X hP hw hK hc i pins s σ H E I hf st hg
    subst hP hw hK
    obtain ⟨⟨old, he⟩, hit, hne⟩ := st
    obtain ⟨xs, hq, hx⟩ := hg
    obtain ⟨its, rv, p, _⟩ := inv_seqK I hq
    obtain ⟨f0, f1, f2, f3, f4, f5⟩ := hf it (by simp)
    have hl := rv.length
    have hn : its.toArray.size = i := by rw [List.size_toArray]; omega
    subst hn
    exact wpAny_pyNext_enum_endD (drawsK (k := k) (A := X.A.in1) (I.ok.hd hc) it a hai its.toArray) he ⟨hit, p⟩ fun h' eb => ⟨rfl, I.turned (t' := s.toks) (fun b o hb q => eb b o hb q) f0 f1 f3 f4 f5⟩
  self := fun A i s Q E st h => let ⟨⟨_, he⟩, _⟩ := st; wpAny_pyIter_enum he h
def iEnumM (K : PySem.W.Frag) (ta : TA) : TI := fun σ H R => ta σ H fun vs H1 => ∃ k a xs, vs = [.ref a] ∧ SqK k K H1 a xs ∧ R (IteM k K a) H1
theorem pi_enumM {X : Cx} {e : Expr} {ta : TA} {p pos tpos : Pos} {elts : List Expr} {kk : Nat} (hg : Gl X "enumerate") (hm : X.mg "enumerate" = none) (ha : PA X [e] ta) (hs : starEach [e] X.env = [(false, eval e X.env)] := by rfl) :
    PI X (.Tuple elts kk tpos) (.Call (.Name "enumerate" p) [e] [] pos) (iEnumM X.K ta) := by
  refine ⟨fun pins s σ H R I h => ?_⟩
  refine Call_ (ld_blt I hg hm boot_enumerate (PyProof.Rows.callWith_type1 (thn (ha.run pos pins s σ H _ I h) fun us s1 ⟨vs, H1, I1, r1, q1⟩ => ?_) hs rfl))
  obtain ⟨k, a, xs, ex, hq, q⟩ := q1
  subst ex
  cases r1 with
  | cons r rr =>
    cases rr
    cases r
    obtain ⟨its, rv, _, la⟩ := inv_seqK I1 hq
    obtain ⟨o1, Hs1, B1, g1, k1⟩ := beginsK I1 hq
    refine enum_begins1 B1 g1 fun h' he hit hsz hk => wpAny_pyIter_enum he ?_
    have I2 : Inv X pins σ H1 { s1 with heap := h' } := I1.kept (t' := s1.toks) hk
    refine ⟨s1.heap.objs.size + 1, [s1.heap.objs.size + 1, s1.heap.objs.size], _, _, H1, rfl, I2, turn_enumM a (s1.heap.objs.size + 1) s1.heap.objs.size (Nat.ne_of_lt la) (Nat.ne_of_gt (Nat.lt_succ_of_lt la)), ⟨⟨.none, he⟩, k1 _ _ hit, Nat.succ_ne_self _⟩, fun b hb => ?_, q⟩
    have e' : b = s1.heap.objs.size + 1 ∨ b = s1.heap.objs.size := by simpa using hb
    have hle : s1.heap.objs.size ≤ b := by
      rcases e' with z | z
      · rw [z]; exact Nat.le_add_right _ _
      · rw [z]; exact Nat.le_refl _
    exact I1.fpOk hle (I1.hok.fresh hle)
end CL

/-! CL, part e: the text against the row's text; what is known where a def runs -/
namespace CL
open PySem PySem.Spec PyProof.Rows L2

/-! ### forms -/
def nostar : Expr → Bool
  | .Starred _ _ => false
  | _ => true
def noslice : Expr → Bool
  | .Slice _ _ _ _ => false
  | _ => true
def noset : Expr → Bool
  | .Set _ _ _ => false
  | _ => true
def nolc : Expr → Bool
  | .ListComp _ _ _ _ => false
  | .SetComp _ _ _ _ => false
  | .DictComp _ _ _ _ _ => false
  | _ => true
/-- not a call without arguments (super() is one) -/
def nobare : Expr → Bool
  | .Call (.Name _ _) [] [] _ => false
  | _ => true
/-- a test that is its value's truth -/
def plainT : Expr → Bool
  | .UnaryOp .Not _ _ => false
  | .BoolOp _ _ _ => false
  | .IfExp _ _ _ _ => false
  | .Compare _ _ _ _ => false
  | _ => true
theorem star_cons {p : Expr} {ps : List Expr} {env : PySem.Env} (h : nostar p = true) : starEach (p :: ps) env = (false, eval p env) :: starEach ps env := by
  cases p <;> first | rfl | cases h
theorem star_map {pos : Pos} {env : PySem.Env} : ∀ {ps : List Expr}, ps.all nostar = true → backTo pos (starEach ps env) = starEach ps env ∧ (starEach ps env).any (·.1) = false ∧ (starEach ps env).all (fun x => !x.1) = true
  | [], _ => ⟨rfl, rfl, rfl⟩
  | p :: ps, h => by
    rw [List.all_cons, Bool.and_eq_true] at h
    obtain ⟨h1, h2, h3⟩ := star_map (pos := pos) (env := env) h.2
    rw [star_cons h.1]
    refine ⟨?_, ?_, ?_⟩
    · show (false, _) :: backTo pos (starEach ps env) = _
      rw [h1]; rfl
    · rw [List.any_cons, h2]; rfl
    · rw [List.all_cons, h3]; rfl
theorem star_any {pos : Pos} {env : PySem.Env} {ps : List Expr} (h : ps.all nostar = true) : (backTo pos (starEach ps env)).any (·.1) = false := by
  rw [(star_map h).1, (star_map (pos := pos) h).2.1]
theorem plain_ix {p : Expr} (h : noslice p = true) : PlainIx p := fun o i => by
  cases p <;> first | rfl | cases h
theorem folded {p : Expr} {env : PySem.Env} (h : noset p = true) : ∀ x, foldedSetIterable p env x = pure x := fun x => by
  cases p <;> first | rfl | cases h
theorem base_of {o : Expr} {f : Str} {env : PySem.Env} (h : nobare o = true) (whole : Sem Value) : attributeBase o f env whole = whole := by
  unfold attributeBase
  split
  · cases h
  · rfl
theorem swap_none {p : Expr} {t : Option Expr} {l : Nat} {env : PySem.Env} (h : nolc p = true) : swapsWith p t l env = pure false := by
  cases p <;> first | rfl | cases h
theorem swap_sub {p o i : Expr} {pos : Pos} {l : Nat} {env : PySem.Env} : swapsWith p (some (.Subscript o i pos)) l env = pure false := by
  cases p <;> rfl
theorem swap_att {p o : Expr} {f : Str} {pos : Pos} {l : Nat} {env : PySem.Env} : swapsWith p (some (.Attribute o f pos)) l env = pure false := by
  cases p <;> rfl
theorem plain_true {e : Expr} {env : PySem.Env} (h : plainT e = true) : ∀ whole, isTrue e env whole = (do let v ← whole; standAt e.pos; holding [v] (truthy v)) := fun whole => by
  cases e with
  | UnaryOp op x p => cases op <;> first | rfl | cases h
  | _ => first | rfl | cases h
theorem meth_eval {o : Expr} {m : Str} {apos pos : Pos} {es : List Expr} {env : PySem.Env} (hb : nobare o = true) (hs : es.all nostar = true) (hl : (apos.endLine == pos.line) = true) (hn : es.length < 30) :
    eval (.Call (.Attribute o m apos) es [] pos) env = (do
      let ov ← eval o env
      standAt apos.atName
      let (f, first) ← holding [ov] (getMethod ov m (do return (← importBound o env).getD true))
      callWith pos f first (backTo pos (starEach es env)) (backToKw pos (keywordEach [] env))) := by
  show (do let ov ← attributeBase o m env (eval o env); standAt apos.atName; methodCall o m apos pos env ov (es.length + ([] : List Keyword).length) (backTo pos (starEach es env)) (backToKw pos (keywordEach [] env))) = _
  rw [base_of hb]
  have hf : methodCallForm (es.length + ([] : List Keyword).length) (backTo pos (starEach es env)) (backToKw pos (keywordEach [] env)) = true := by
    unfold methodCallForm
    rw [(star_map hs).1, (star_map (pos := pos) hs).2.2]
    show (true && true && decide (es.length + 0 + 0 < 30)) = true
    simp; omega
  unfold methodCall
  rw [hf]
  have e1 : ∀ ov, calleeOf true o env ov m = getMethod ov m (do return (← importBound o env).getD true) := fun ov => rfl
  have e2 : methodCallPos true o env apos pos = pure pos := by
    unfold methodCallPos
    rw [hl]; rfl
  simp only [e1, e2, pure_bind]

/-! ### names -/
structure Nms where
  fn : Nat → Str
  isG : Nat → Bool
  cl : Nat → Str
  gl : Nat → Str
def visB (sc : Scope) (x : Str) : Bool := match sc.names.lookup x with
  | some .local => true
  | some .cell => true
  | some .free => true
  | _ => false
def locB (sc : Scope) (ow : Str → Bool) (x : Str) : Bool := match sc.names.lookup x with
  | some .local => true
  | some .cell => ow x
  | _ => false
def glB (sc : Scope) (x : Str) : Bool := match sc.names.lookup x with
  | some .globalImplicit => true
  | _ => false
def debB (x : Str) : Bool := !(x == ("__debug__" : Str)) && !(x == ("__classdict__" : Str))
theorem visB_ok {sc : Scope} {x : Str} (h : visB sc x = true) : Vis sc x := by
  unfold visB at h
  split at h <;> first | exact .inl (by assumption) | exact .inr (.inl (by assumption)) | exact .inr (.inr (by assumption)) | cases h
theorem locB_ok {sc : Scope} {ow : Str → Bool} {x : Str} (h : locB sc ow x = true) : Loc sc x ∧ (ow x = true ∨ sc.names.lookup x = some .local) := by
  unfold locB at h
  split at h
  · rename_i e; exact ⟨.inl e, .inr e⟩
  · rename_i e; exact ⟨.inr e, .inl h⟩
  · cases h
theorem glB_ok {sc : Scope} {x : Str} (h : glB sc x = true) : sc.names.lookup x = some .globalImplicit := by
  unfold glB at h
  split at h
  · assumption
  · cases h
theorem debB_ok {x : Str} (h : debB x = true) : (x == ("__debug__" : Str)) = false ∧ (x == ("__classdict__" : Str)) = false := by
  unfold debB at h
  simpa using h
/-- a name of slot i that is read, that is stored -/
def rdB (N : List Str) (sc : Scope) (i : Nat) (x : Str) : Bool := decide (N[i]? = some x) && visB sc x && debB x
def stB (N : List Str) (sc : Scope) (ow : Str → Bool) (i : Nat) (x : Str) : Bool := decide (N[i]? = some x) && locB sc ow x
def gB (sc : Scope) (x y : Str) : Bool := decide (x = y) && glB sc x && debB x
def namesB (N : List Str) (sc : Scope) (ow : Str → Bool) : List Nat → List Expr → Bool
  | [], [] => true
  | i :: is, .Name x _ :: r => stB N sc ow i x && namesB N sc ow is r
  | _, _ => false
def tgB (N : List Str) (sc : Scope) (ow : Str → Bool) : Tg → Expr → Bool
  | .one i, .Name x _ => stB N sc ow i x
  | .many is, .Tuple es _ _ => namesB N sc ow is es
  | _, _ => false
def tgOwn (N : List Str) : Tg → List (Str × Nat)
  | .one i => match N[i]? with
    | some x => [(x, i)]
    | none => []
  | .many is => is.filterMap fun i => match N[i]? with
    | some x => some (x, i)
    | none => none
def tupB : Expr → Bool
  | .Tuple _ _ _ => true
  | _ => false
def isCmp : E → Bool
  | .cmp _ _ _ => true
  | .cm2 _ _ _ _ _ => true
  | .isN _ => true
  | .noN _ => true
  | _ => false
def isYes : B → Bool
  | .yes => true
  | _ => false
def ifsB (f : Expr → Bool) (y : Bool) : List Expr → Bool
  | [] => y
  | [q] => f q
  | _ => false
def tyB : Ty → Bool
  | .cls _ => false
  | _ => true
def smName : Sm → Str
  | .join => "join" | .split => "split" | .starts => "startswith"
/-- the name of an own error class, or ValueError -/
def xcB (T : Nms) (sc : Scope) : Option Nat → Expr → Bool
  | some k, .Name y _ => gB sc y (T.cl k)
  | none, .Name y _ => gB sc y "ValueError"
  | _, _ => false
def xcsB (T : Nms) (sc : Scope) : List (Option Nat) → List Expr → Bool
  | [], [] => true
  | k :: ks, p :: ps => xcB T sc k p && xcsB T sc ks ps
  | _, _ => false
mutual
def chE (T : Nms) (N : List Str) : E → Scope → Expr → Bool
  | .v i, sc, p => match p with
    | .Name x _ => rdB N sc i x
    | _ => false
  | .int i, _, p => match p with
    | .Constant (.int j) _ _ => decide (i = j)
    | _ => false
  | .str x, _, p => match p with
    | .Constant (.str y) _ _ => decide (x = y)
    | _ => false
  | .bl b, _, p => match p with
    | .Constant (.bool d) _ _ => b == d
    | _ => false
  | .non, _, p => match p with
    | .Constant .none _ _ => true
    | _ => false
  | .gl g, sc, p => match p with
    | .Name x _ => gB sc x (T.gl g)
    | _ => false
  | .tup es, sc, p => match p with
    | .Tuple ps _ _ => chEs T N es sc ps
    | _ => false
  | .lst es, sc, p => match p with
    | .List ps _ => chEs T N es sc ps
    | _ => false
  | .dic d, sc, p => match p with
    | .Dict ks vs _ => chPs T N d sc ks vs && decide (ks.length ≤ 15)
    | _ => false
  | .neg a, sc, p => match p with
    | .UnaryOp .USub q _ => chE T N a sc q
    | _ => false
  | .bin o a b, sc, p => match p with
    | .BinOp q o' r _ => decide (o' = opOf o) && chE T N a sc q && chE T N b sc r
    | _ => false
  | .cmp o a b, sc, p => match p with
    | .Compare q [o'] [r] _ => decide (o' = copOf o) && chE T N a sc q && chE T N b sc r && noset r
    | _ => false
  | .cm2 o o2 a b c, sc, p => match p with
    | .Compare q [o', o2'] [r, t] _ => decide (o' = copOf o) && decide (o2' = copOf o2) && chE T N a sc q && chE T N b sc r && chE T N c sc t && noset r && noset t
    | _ => false
  | .isN a, sc, p => match p with
    | .Compare q [.Is] [.Constant .none _ _] _ => chE T N a sc q
    | _ => false
  | .noN a, sc, p => match p with
    | .Compare q [.IsNot] [.Constant .none _ _] _ => chE T N a sc q
    | _ => false
  | .and a b, sc, p => match p with
    | .BoolOp .And [q, r] _ => chE T N a sc q && chE T N b sc r
    | .BoolOp .And (q :: r :: t :: u) pos => chE T N a sc q && chE T N b sc (.BoolOp .And (r :: t :: u) pos)
    | _ => false
  | .or a b, sc, p => match p with
    | .BoolOp .Or [q, r] _ => chE T N a sc q && chE T N b sc r
    | .BoolOp .Or (q :: r :: t :: u) pos => chE T N a sc q && chE T N b sc (.BoolOp .Or (r :: t :: u) pos)
    | _ => false
  | .not a, sc, p => match p with
    | .UnaryOp .Not q _ => chE T N a sc q
    | _ => false
  | .ite c a b, sc, p => match p with
    | .IfExp q r t _ => chB T N c sc q && chE T N a sc r && chE T N b sc t
    | _ => false
  | .sub a i, sc, p => match p with
    | .Subscript q r _ => chE T N a sc q && chE T N i sc r && noslice r
    | _ => false
  | .cut a lo hi, sc, p => match p with
    | .Subscript q (.Slice l h none _) _ => chE T N a sc q && chO T N lo sc l && chO T N hi sc h
    | _ => false
  | .cut3 a lo hi k, sc, p => match p with
    | .Subscript q (.Slice l h (some (.Constant (.int j) _ _)) _) _ => decide (k = j) && decide (k ≠ 0) && chE T N a sc q && chO T N lo sc l && chO T N hi sc h
    | .Subscript q (.Slice l h (some (.UnaryOp .USub (.Constant (.int j) _ _) _)) _) _ => decide (k = -j) && decide (k ≠ 0) && chE T N a sc q && chO T N lo sc l && chO T N hi sc h
    | _ => false
  | .fld a f, sc, p => match p with
    | .Attribute q g _ => decide (f = g) && chE T N a sc q && nobare q
    | _ => false
  | .call f es, sc, p => match p with
    | .Call (.Name x _) ps [] _ => gB sc x (T.fn f) && T.isG f && chEs T N es sc ps
    | _ => false
  | .make c es, sc, p => match p with
    | .Call (.Name x _) ps [] _ => gB sc x (T.cl c) && chEs T N es sc ps
    | _ => false
  | .met a m es, sc, p => match p with
    | .Call (.Attribute q g ap) ps [] pos => decide (m = g) && chE T N a sc q && nobare q && (ap.endLine == pos.line) && decide (ps.length < 29) && chEs T N es sc ps
    | _ => false
  | .bm b a es, sc, p => match p with
    | .Call (.Attribute q g ap) ps [] pos => decide (bmName b = g) && chE T N a sc q && nobare q && (ap.endLine == pos.line) && decide (ps.length < 29) && chEs T N es sc ps
    | _ => false
  | .sm m a e, sc, p => match p with
    | .Call (.Attribute q g ap) [r] [] pos => decide (smName m = g) && chE T N a sc q && nobare q && (ap.endLine == pos.line) && chE T N e sc r && nostar r
    | _ => false
  | .bf b es, sc, p => match p with
    | .Call (.Name x _) ps [] _ => gB sc x (bfName b) && chEs T N es sc ps
    | _ => false
  | .isi a t, sc, p => match p with
    | .Call (.Name x _) [q, .Name y _] [] _ => gB sc x "isinstance" && gB sc y (Str.ofString (tyName t)) && tyB t && chE T N a sc q && nostar q
    | _ => false
  | .xfld a f, sc, p => match p with
    | .Attribute q g _ => decide (f = g) && chE T N a sc q && nobare q
    | _ => false
  | .isX a ks m, sc, p => match p with
    | .Call (.Name x _) [q, y] [] _ => gB sc x "isinstance" && chE T N a sc q && nostar q && decide (ks.length ≤ 100) && (if m then (match y with
      | .Tuple ps _ _ => xcsB T sc ks ps
      | _ => false) else (match ks with
      | [k] => xcB T sc k y
      | _ => false))
    | _ => false
  | .lc t w c e, sc, p => match p with
    | .ListComp pe [⟨tg, it, ifs, 0⟩] scope _ => chI T N w sc tg it && noset it && blkC N sc scope (tgOwn N t) && tgB N (relS scope sc) (fun x => scope.names.lookup x == some .cell) t tg &&
        ifsB (fun q => chB T N c (relS scope sc) q) (isYes c) ifs && chE T N e (relS scope sc) pe
    | _ => false
  | .dcall f, sc, p => match p with
    | .Call (.Name x _) [.Call (.Name y _) [] [] _] [] _ => gB sc x "dict" && gB sc y (T.fn f) && T.isG f
    | _ => false
  | .get2 a k f, sc, p => match p with
    | .Call (.Attribute q g ap) [p1, p2] [] pos => decide ("get" = g) && chE T N a sc q && nobare q && (ap.endLine == pos.line) && chE T N k sc p1 && nostar p1 && chE T N f sc p2 && nostar p2
    | _ => false
  | .dzip a b, sc, p => match p with
    | .Call (.Name x _) [.Call (.Name y _) [q, r] [] _] [] _ => gB sc x "dict" && gB sc y "zip" && chE T N a sc q && nostar q && chE T N b sc r && nostar r
    | _ => false
  | .sset a, sc, p => match p with
    | .Call (.Name x _) [.Call (.Name y _) [q] [] _] [] _ => gB sc x "sorted" && gB sc y "set" && chE T N a sc q && nostar q
    | _ => false
  | .lzip a b, sc, p => match p with
    | .Call (.Name x _) [.Call (.Name y _) [q, r] [] _] [] _ => gB sc x "list" && gB sc y "zip" && chE T N a sc q && nostar q && chE T N b sc r && nostar r
    | _ => false
  | .lrg1 a, sc, p => match p with
    | .Call (.Name x _) [.Call (.Name y _) [q] [] _] [] _ => gB sc x "list" && gB sc y "range" && chE T N a sc q && nostar q
    | _ => false
  | .lrg2 a b, sc, p => match p with
    | .Call (.Name x _) [.Call (.Name y _) [q, r] [] _] [] _ => gB sc x "list" && gB sc y "range" && chE T N a sc q && nostar q && chE T N b sc r && nostar r
    | _ => false
  | .bad, _, p => nolc p && noset p && nostar p && noslice p
def chEs (T : Nms) (N : List Str) : Es → Scope → List Expr → Bool
  | .nil, _, ps => match ps with
    | [] => true
    | _ => false
  | .cons e es, sc, ps => match ps with
    | p :: r => chE T N e sc p && nostar p && chEs T N es sc r
    | _ => false
def chO (T : Nms) (N : List Str) : Eo → Scope → Option Expr → Bool
  | .no, _, p => match p with
    | none => true
    | _ => false
  | .so e, sc, p => match p with
    | some p => chE T N e sc p
    | none => false
def chPs (T : Nms) (N : List Str) : Ps → Scope → List (Option Expr) → List Expr → Bool
  | .nil, _, ks, vs => match ks, vs with
    | [], [] => true
    | _, _ => false
  | .cons k v r, sc, ks, vs => match ks, vs with
    | some p :: ks, q :: vs => chE T N k sc p && chE T N v sc q && chPs T N r sc ks vs
    | _, _ => false
def chB (T : Nms) (N : List Str) : B → Scope → Expr → Bool
  | .yes, _, _ => false
  | .of e, sc, p => chE T N e sc p && (plainT p || isCmp e)
  | .and a b, sc, p => match p with
    | .BoolOp .And [q, r] _ => chB T N a sc q && chB T N b sc r
    | .BoolOp .And (q :: r :: t :: u) pos => chB T N a sc q && chB T N b sc (.BoolOp .And (r :: t :: u) pos)
    | _ => false
  | .or a b, sc, p => match p with
    | .BoolOp .Or [q, r] _ => chB T N a sc q && chB T N b sc r
    | .BoolOp .Or (q :: r :: t :: u) pos => chB T N a sc q && chB T N b sc (.BoolOp .Or (r :: t :: u) pos)
    | _ => false
  | .not a, sc, p => match p with
    | .UnaryOp .Not q _ => chB T N a sc q
    | _ => false
def chI (T : Nms) (N : List Str) : I → Scope → Expr → Expr → Bool
  | .of e, sc, _, p => chE T N e sc p
  | .rg1 a, sc, _, p => match p with
    | .Call (.Name x _) [q] [] _ => gB sc x "range" && chE T N a sc q && nostar q
    | _ => false
  | .rg2 a b, sc, _, p => match p with
    | .Call (.Name x _) [q, r] [] _ => gB sc x "range" && chE T N a sc q && nostar q && chE T N b sc r && nostar r
    | _ => false
  | .rg3 a b k, sc, _, p => match p with
    | .Call (.Name x _) [q, r, u] [] _ => gB sc x "range" && chE T N a sc q && nostar q && chE T N b sc r && nostar r && chE T N k sc u && nostar u
    | _ => false
  | .enu e, sc, tg, p => match p with
    | .Call (.Name x _) [q] [] _ => gB sc x "enumerate" && chE T N e sc q && nostar q && tupB tg
    | _ => false
  | .zip a b, sc, tg, p => match p with
    | .Call (.Name x _) [q, r] [] _ => gB sc x "zip" && chE T N a sc q && nostar q && chE T N b sc r && nostar r && tupB tg
    | _ => false
end
mutual
def chX (T : Nms) (N : List Str) : XE → Scope → Expr → Bool
  | .pu e, sc, p => chE T N e sc p
  | .fn f xs, sc, p => match p with
    | .Call (.Name x _) ps [] _ => gB sc x (T.fn f) && T.isG f && chXs T N xs sc ps
    | _ => false
  | .met a m xs, sc, p => match p with
    | .Call (.Attribute q g ap) ps [] pos => decide (m = g) && chE T N a sc q && nobare q && (ap.endLine == pos.line) && decide (ps.length < 29) && chXs T N xs sc ps
    | _ => false
  | .tup xs, sc, p => match p with
    | .Tuple ps _ _ => chXs T N xs sc ps
    | _ => false
  | .cmp o x y, sc, p => match p with
    | .Compare q [o'] [r] _ => decide (o' = copOf o) && chX T N x sc q && chX T N y sc r && noset r
    | _ => false
  | .app a x, sc, p => match p with
    | .Call (.Attribute q g ap) [r] [] pos => decide ("append" = g) && chE T N a sc q && nobare q && (ap.endLine == pos.line) && chX T N x sc r && nostar r
    | _ => false
def chXs (T : Nms) (N : List Str) : XEs → Scope → List Expr → Bool
  | .nil, _, ps => match ps with
    | [] => true
    | _ => false
  | .cons x xs, sc, ps => match ps with
    | p :: ps => chX T N x sc p && nostar p && chXs T N xs sc ps
    | _ => false
end

mutual
def XE.slot : XE → Bool
  | .pu _ => true
  | .fn _ xs => xs.slot
  | _ => false
def XEs.slot : XEs → Bool
  | .nil => true
  | .cons x xs => x.slot && xs.slot
end
def XE.isCmp : XE → Bool
  | .cmp _ _ _ => true
  | _ => false
def chTs (T : Nms) (N : List Str) (sc : Scope) (ow : Str → Bool) : CL.T → Expr → Bool
  | .one i, p => match p with
    | .Name x _ => stB N sc ow i x
    | _ => false
  | .sub o i, p => match p with
    | .Subscript q r _ => chE T N o sc q && chE T N i sc r && noslice r
    | _ => false
  | .fld o f, p => false
def chTL (T : Nms) (N : List Str) (sc : Scope) (ow : Str → Bool) : List CL.T → List Expr → Bool
  | [], [] => true
  | t :: ts, p :: ps => chTs T N sc ow t p && nostar p && chTL T N sc ow ts ps
  | _, _ => false
/-- a, b = x, y: what the model does of it: none: it is not told; some none: a plain tuple; some names: stored one by one -/
def swMir (sc : Scope) (ts : List Expr) (value : Expr) : Option (Option (List Str)) := match value with
  | .Tuple vs _ _ =>
    if !(ts.length == 2 || ts.length == 3) || vs.length != ts.length then some none
    else if vs.any (fun | .Starred .. => true | _ => false) then some none
    else
      let line := (ts.head?.map (·.pos.line)).getD 0
      let names := ts.filterMap fun
        | .Name id pos => if sc.names.lookup id == some .local && pos.line == line then some id else none
        | _ => none
      if names.length != ts.length || names.eraseDups.length != names.length then some none
      else if vs.all (foldedForSure 8) then some none
      else if vs.all (constantsAlone 8) then none
      else some (some names)
  | _ => some none
def lcSw (sc : Scope) (y : Str) (py : Pos) : Expr → Bool
  | .ListComp _ _ scope pos => sc.names.lookup y == some .local && (py.line == pos.line) && !(scope.names.any fun (n, k) => n == y && (k == .local || k == .cell))
  | _ => false
mutual
def chS (T : Nms) (N : List Str) (sc : Scope) (ow : Str → Bool) : S → Stmt → Bool
  | .asg t e, p => match p with
    | .Assign [tg] v _ => chE T N e sc v && (match t with
      | .one i => (match tg with
        | .Name x _ => stB N sc ow i x
        | _ => false)
      | .sub o i => (match tg with
        | .Subscript q r _ => chE T N o sc q && chE T N i sc r && noslice r
        | _ => false)
      | .fld o f => (match tg with
        | .Attribute q g _ => decide (f = g) && chE T N o sc q
        | _ => false))
    | _ => false
  | .asT ts e, p => match p with
    | .Assign [.Tuple tg _ _] v _ => chE T N e sc v && chTL T N sc ow ts tg && (match swMir sc tg v with
      | some none => true
      | _ => false)
    | _ => false
  | .par is es, p => match p with
    | .Assign [.Tuple tg _ _] (.Tuple vs k2 p2) _ => chEs T N es sc vs && namesB N sc ow is tg && (match swMir sc tg (.Tuple vs k2 p2) with
      | some (some _) => true
      | _ => false)
    | _ => false
  | .aug i o e, p => match p with
    | .AugAssign (.Name x _) o' v _ => decide (o' = opOf o) && stB N sc ow i x && chE T N e sc v
    | _ => false
  | .aus a i o e, p => match p with
    | .AugAssign (.Subscript q r _) o' v _ => decide (o' = opOf o) && chE T N a sc q && chE T N i sc r && noslice r && chE T N e sc v
    | _ => false
  | .auf a f o e, p => match p with
    | .AugAssign (.Attribute q g _) o' v _ => decide (o' = opOf o) && decide (f = g) && chE T N a sc q && chE T N e sc v
    | _ => false
  | .ex e, p => match p with
    | .Expr v _ => chE T N e sc v && nolc v
    | _ => false
  | .ret e, p => match p with
    | .Return (some v) _ => chE T N e sc v
    | _ => false
  | .rtN, p => match p with
    | .Return none _ => true
    | _ => false
  | .cond c a b, p => match p with
    | .If q r t _ => chB T N c sc q && chSs T N sc ow a r && chSs T N sc ow b t
    | _ => false
  | .whl c b, p => match p with
    | .While q r [] _ => chB T N c sc q && chSs T N sc ow b r
    | _ => false
  | .for t w b, p => match p with
    | .For tg it r [] _ => chI T N w sc tg it && noset it && tgB N sc ow t tg && chSs T N sc ow b r
    | _ => false
  | .pass, p => match p with
    | .Pass _ => true
    | _ => false
  | .brk, p => match p with
    | .Break _ => true
    | _ => false
  | .cnt, p => match p with
    | .Continue _ => true
    | _ => false
  | .bad, _ => true
  | .exX x, p => match p with
    | .Expr v _ => chX T N x sc v && nolc v
    | _ => false
  | .asX i x, p => match p with
    | .Assign [.Name y _] v _ => chX T N x sc v && stB N sc ow i y && nolc v
    | _ => false
  | .retX x, p => match p with
    | .Return (some v) _ => chX T N x sc v
    | _ => false
  | .condX x a b, p => match p with
    | .If q r t _ => chX T N x sc q && x.isCmp && chSs T N sc ow a r && chSs T N sc ow b t
    | _ => false
  | .rse k e, p => match e with
    | none => match p with
      | .Raise (some (.Call (.Name x _) [] [] _)) none _ => gB sc x (T.cl k)
      | _ => false
    | some e => match p with
      | .Raise (some (.Call (.Name x _) [q] [] _)) none _ => gB sc x (T.cl k) && chE T N e sc q && nostar q
      | _ => false
  | .tryK dst x k n w, p => match p with
    | .Try [b] [.ExceptHandler (some (.Name y _)) (some z) [.Assign [.Name u _] (.Name z' _) _] _] [] [] _ =>
      (match dst with
      | none => match b with
        | .Expr v _ => chX T N x sc v && nolc v
        | _ => false
      | some i => match b with
        | .Assign [.Name y' _] v _ => chX T N x sc v && stB N sc ow i y' && nolc v
        | _ => false) && gB sc y (T.cl k) && decide (z' = z) && stB N sc ow n z && decide (sc.names.lookup z = some .local) && rdB N sc n z && stB N sc ow w u && decide (n ≠ w) && x.slot
    | _ => false
def chSs (T : Nms) (N : List Str) (sc : Scope) (ow : Str → Bool) : Ss → List Stmt → Bool
  | .nil, ps => match ps with
    | [] => true
    | _ => false
  | .cons s r, ps => match ps with
    | p :: ps => chS T N sc ow s p && chSs T N sc ow r ps
    | _ => false
end
end CL

/-! CL, part 3: an exception that is kept behind its suite -/
namespace CL
open PySem PySem.Spec PyProof.Rows L2
section
variable {X : Cx} {pins : List (Addr × Obj)} {σ : L2.St} {H : Hp} {s : Shared}
/-- a thing known to the object, nothing else said of it -/
abbrev keptO (a : Addr) (oe : Obj) : HO := .frz oe (.ext fun h => ∃ o, h.get? a = some o)
/-- a pinned object is tracked from now on -/
theorem inv_track {a : Addr} {oe : Obj} (I : Inv X ((a, oe) :: pins) σ H s) (n0 : X.s_0.heap.get? a = none) (ne : ∀ p ∈ X.pn ++ pins, p.1 ≠ a) : Inv X pins σ (upd H a (keptO a oe)) s := by
  obtain ⟨ha, hn, nL, nF, nc⟩ := I.pin (a, oe) (List.mem_append_right _ List.mem_cons_self)
  have old : ∀ b u, H b = some u → upd H a (keptO a oe) b = some u := fun b u e => by
    rw [upd_ne (fun z => by rw [z] at e; rw [hn] at e; cases e)]; exact e
  refine ⟨I.ok, I.os, I.bare, ⟨I.base.keep, I.base.slot, fun b o e n hx => ?_, I.base.there, fun b xs e => old _ _ (I.base.tups b xs e), fun b o u e => old _ _ (I.base.frzs b o u e), fun b ps e => ?_⟩, I.loc, I.cell, ?_, fun x c e => ?_, fun p hp => ?_, fun b u e => ?_, I.len⟩
  · rw [upd_ne (fun z => by rw [z, n0] at e; cases e)]
    exact I.base.free b o e n hx
  · obtain ⟨m, q⟩ := I.base.tbls b ps e
    exact ⟨m, old _ _ q⟩
  · rw [upd_ne (fun z => nL z.symm)]; exact I.free
  · obtain ⟨v, o, ho, hd⟩ := I.cell x c e
    rw [upd_ne (fun z => by rw [z, ha] at ho; cases ho; exact nc _ hd)]
    exact I.freeC x c e
  · have hp' : p ∈ X.pn ++ ((a, oe) :: pins) := by
      rcases List.mem_append.mp hp with h | h
      · exact List.mem_append_left _ h
      · exact List.mem_append_right _ (List.mem_cons_of_mem _ h)
    obtain ⟨e, n, q⟩ := I.pin p hp'
    exact ⟨e, by rw [upd_ne (ne p hp)]; exact n, q⟩
  · by_cases hb : b = a
    · subst hb
      rw [upd_same] at e
      cases e
      exact ⟨ha, ⟨oe, ha⟩, ⟨oe, ha⟩, fun h1 h2 ⟨o, q⟩ k => ⟨o, k o q⟩⟩
    · rw [upd_ne hb] at e
      exact (I.hok b u e).stay (fun c v hc q => q) (fun c q => old _ _ q) fun c xs q => old _ _ q
/-- an exception's dict is known to the object from now on -/
theorem inv_freeze {dx : Addr} {fs : List (Str × V)} (I : Inv X pins σ H s) (hd : H dx = some (.xd fs)) : ∃ od, Inv X pins σ (upd H dx (.frz od (.xd fs))) s := by
  obtain ⟨mA, hns, hr⟩ := (I.hok dx _ hd : ObjOk X.prog X.w H s.heap dx (.xd fs))
  obtain ⟨od, ho, _⟩ := lookIn_ns hns
  have nn : ∀ b, H b = none → b ≠ dx := fun b e z => by rw [z, hd] at e; cases e
  have nt : ∀ b u, H b = some u → u ≠ .xd fs → b ≠ dx := fun b u e n z => by rw [z, hd] at e; cases e; exact n rfl
  have old : ∀ b u, H b = some u → u ≠ .xd fs → upd H dx (.frz od (.xd fs)) b = some u := fun b u e n => by rw [upd_ne (nt b u e n)]; exact e
  refine ⟨od, I.ok, I.os, I.bare, ⟨I.base.keep, I.base.slot, fun b o e n hx => ?_, I.base.there, fun b xs e => old _ _ (I.base.tups b xs e) (fun z => by cases z), fun b o u e => old _ _ (I.base.frzs b o u e) (fun z => by cases z), fun b ps e => ?_⟩, I.loc, I.cell, ?_, fun x c e => ?_, fun p hp => ?_, fun b u e => ?_, I.len⟩
  · rw [upd_ne (nn _ (I.base.free b o e n hx))]
    exact I.base.free b o e n hx
  · obtain ⟨m, q⟩ := I.base.tbls b ps e
    exact ⟨m, old _ _ q (fun z => by cases z)⟩
  · rw [upd_ne (nn _ I.free)]; exact I.free
  · rw [upd_ne (nn _ (I.freeC x c e))]; exact I.freeC x c e
  · obtain ⟨e, n, q⟩ := I.pin p hp
    exact ⟨e, by rw [upd_ne (nn _ n)]; exact n, q⟩
  · by_cases hb : b = dx
    · subst hb
      rw [upd_same] at e
      cases e
      exact ⟨ho, mA, hns, hr⟩
    · rw [upd_ne hb] at e
      exact (I.hok b u e).stay (fun c v hc q => q) (fun c q => old _ _ q (fun z => by cases z)) fun c xs q => old _ _ q (fun z => by cases z)
end
/-- what the clause 'except x as n: u = n' wishes of an exception of the body -/
def wKeep (K : PySem.W.Frag) (c : Value) (i j : Nat) (D : Ends) : WX := fun cls d σ H =>
  ∃ (dx : Addr) (fs : List (Str × V)), d = some dx ∧ H dx = some (.xd fs) ∧ PySem.W.exmOne K cls c = some true ∧
    ∀ (a : Addr) (oe od : Obj), H a = none → oe.cls = cls → oe.dict = some dx → (∃ vs, oe.data = .fields vs) → D.nx ((σ.set j (some (.ref a))).set i none) (upd (upd H a (keptO a oe)) dx (.frz od (.xd fs)))
theorem set3 {α : Type} {l : List α} {i j : Nat} {x y z : α} (h : i ≠ j) : ((l.set i x).set j y).set i z = (l.set j y).set i z := by
  rw [List.set_comm x y h, List.set_set]
section
variable {X : Cx} {x n u : Str} {c : Value} {i j : Nat} {body : List Stmt} {np up p2 ap pos pos' : Pos} {tb : WX → TS}
theorem ps_try_keep (hs : X.stack = X.env :: X.outer) (hf : X.env.frame = some X.env.locals) (hex : X.ex = []) (hN : X.N.Nodup) (hi : X.N[i]? = some n) (hln : X.env.kindOf n = some .local) (hj : X.N[j]? = some u) (hu : Loc X.env.scope u) (hfu : X.fn u = true ∨ X.env.scope.names.lookup u = some .local)
    (hij : i ≠ j) (hdn : (n == ("__debug__" : Str)) = false) (hcn : (n == ("__classdict__" : Str)) = false) (hc : Names X x c)
    (hb : ∀ (W : WX) (pn : List (Addr × Obj)) (xe : Value → Shared → Prop), Takes (X.tr pn xe) W → PassesOwn (model X.prog X.w) X.A X.env xe → PSs (X.tr pn xe) body (tb W)) :
    PS X (.Try body [.ExceptHandler (some (.Name x np)) (some n) [.Assign [.Name u up] (.Name n p2) ap] pos'] [] [] pos) (fun D σ H => tb (wKeep X.K c i j D) D σ H) := by
  refine ⟨fun pins s σ H D I h => ?_⟩
  have ok := I.ok
  have hfr : X.A.frames = some (X.env :: X.outer) := by rw [ok.frames, hs]
  have hloc : Loc X.env.scope n := .inl hln
  refine wpAny_Try_except ?_
  refine wpAny_mono ((hb (wKeep X.K c i j D) (X.pn ++ pins) (fun e s₁ => wpAny (model X.prog X.w) X.A (noteFrame e X.env) (fun _ s₂ => wpAny (model X.prog X.w) X.A (setFlight e none) (fun _ s₃ =>
    wpAny (model X.prog X.w) X.A (handleBy e X.env [.ExceptHandler (some (.Name x np)) (some n) [.Assign [.Name u up] (.Name n p2) ap] pos']) (SP X pins D) X.xe s₃) X.xe s₂) X.xe s₁) (fun u' s' xx => ?_) PassesOwn.looking).run [] s σ H D (I.toTry _) h) (fun f s1 hsp => ?_) (fun e s1 he => he)
  · -- the catch
    obtain ⟨a, B, sI, pins', σ', H', cls, d, rfl, J', nb, up', sky, na, os, ag, dx, fs, rfl, hdx, hb1, hyes⟩ := xx
    have J : Inv X pins σ' H' sI := J'.ofTry ok
    have sky' : Sky B (X.env :: X.outer) a (Zc cls (some dx)) X.env.locals s'.heap := by rw [← hs]; exact sky
    show wpAny (model X.prog X.w) X.A (noteFrame (.ref a) X.env) _ _ _
    refine Sky.land Zc.steady hfr hf sky' fun h3 fl3 up3 => ?_
    have J3 : Inv X pins σ' H' { s' with heap := h3 } := J.landed nb fl3.1 (up'.trans up3) os ag
    obtain ⟨oe3, vs3, he3, hz3, hd3⟩ := fl3.there
    have notFr : ∀ {h : Heap} {o : Obj} {vs : Array Value}, h.FunFrames B (X.env :: X.outer) → h.get? a = some o → o.data = .fields vs → a ∉ frs (X.env :: X.outer) := fun {h o vs} ff e dd hm => by
      obtain ⟨_, o', e', hnf⟩ := ff.mem hm
      rw [e] at e'; cases e'
      exact hnf _ dd
    have nfr := notFr fl3.2.2.1 he3 hd3
    have nL : a ≠ X.env.locals := fun z => nfr (List.mem_filterMap.mpr ⟨X.env, List.mem_cons_self, by rw [hf, z]⟩)
    have nF : a ∉ X.fs := fun hm => by
      obtain ⟨e, he, q⟩ := List.mem_filterMap.mp hm
      exact nfr (List.mem_filterMap.mpr ⟨e, List.mem_cons_of_mem _ he, q⟩)
    have nI : sI.heap.get? a = none := by
      cases q : sI.heap.get? a with
      | none => rfl
      | some o =>
        have := nb a o q (by rw [hs]; exact nfr)
        rw [fl3.2.1] at this; cases this
    have n0 : X.s_0.heap.get? a = none := by
      cases q : X.s_0.heap.get? a with
      | none => rfl
      | some o =>
        obtain ⟨o', e⟩ := J.base.there a o q (by rw [hex]; simp)
        rw [nI] at e; cases e
    have ne : ∀ p ∈ X.pn ++ pins, p.1 ≠ a := fun p hp z => by
      have := (J.pin p hp).1
      rw [z, nI] at this; cases this
    have S3 := J3.suite he3 hd3 na nL nF
    refine wpAny_handleBy_cons (codeAny_handlers_test ?_) (by intro q; cases q)
    have LT : PySem.W.Looks (model X.prog X.w) h3 (typeOf (.ref a)) cls := fun A Q E s k q => wpAny_typeOf_ref (k _ _ he3) (by rw [hz3.1]; exact q)
    have LM := PySem.W.exm_one (M := model X.prog X.w) (J3.kIn) LT hb1
    have test : ∀ {Q : Value → Shared → Prop} {E : Value → Shared → Prop}, Q c { s' with heap := h3 } → wpAny (model X.prog X.w) (X.A.mark (some (.ref a))) (eval (.Name x np) X.env) Q E { s' with heap := h3 } := fun {Q E} q => by
      obtain ⟨hg, hdbg, hm | ⟨hm, hv, hnn⟩⟩ := hc
      · exact ld_glob (X := X.suite a ((a, oe3) :: (X.pn ++ pins))) S3 hg hm q hdbg
      · exact ld_blt (X := X.suite a ((a, oe3) :: (X.pn ++ pins))) S3 hg hm hv q hnn hdbg
    refine test (LM.here ?_)
    refine codeAny_handlers_suite_as ?_
    refine HandSPX.lands_againZ fl3 fun h4 fl4 up4 => ?_
    have J4 : Inv X pins σ' H' { s' with heap := h4 } := J.landed nb fl4.1 ((up'.trans up3).trans up4) os ag
    obtain ⟨oe4, vs4, he4, hz4, hd4⟩ := fl4.there
    have S4 := J4.suite he4 hd4 na nL nF
    refine store_ok (X := X.suite a ((a, oe4) :: (X.pn ++ pins))) (v := .ref a) S4 hN hi hloc rfl (fun s5 S5 => ?_) (.inr hln)
    have rule : PSs (X.suite a ((a, oe4) :: (X.pn ++ pins))) [.Assign [.Name u up] (.Name n p2) ap] _ := pss_one (ps_set (X := X.suite a ((a, oe4) :: (X.pn ++ pins))) hN hj hu (pe_var (X := X.suite a ((a, oe4) :: (X.pn ++ pins))) hi (.inl hln) hdn hcn) rfl hfu)
    have hli : i < σ'.length := by
      rw [J.len]; exact (List.getElem?_eq_some_iff.mp hi).1
    refine wpAny_mono (rule.run [] s5 _ H' { nx := fun σ6 H6 => σ6 = (σ'.set i (some (.ref a))).set j (some (.ref a)) ∧ H6 = H', rt := fun _ _ => False, bk := fun _ _ => False, ct := fun _ _ => False } S5 ⟨.ref a, List.getElem?_set_self hli, rfl, rfl⟩) (fun f s6 hsp => ?_) (fun _ _ z => False.elim z)
    cases f with
    | next =>
      obtain ⟨σ6, H6, S6, e6, e7⟩ := hsp
      subst e6
      subst e7
      have I6 : Inv X ((a, oe4) :: pins) ((σ'.set i (some (.ref a))).set j (some (.ref a))) H6 s6 := ⟨ok, S6.os, S6.bare, S6.base, S6.loc, S6.cell, S6.free, S6.freeC, fun p hp => S6.pin p (by
        simp only [List.mem_append, List.mem_cons, List.append_nil] at hp ⊢
        rcases hp with h | h | h
        · exact .inr (.inl h)
        · exact .inl h
        · exact .inr (.inr h)), S6.hok, S6.len⟩
      refine gone_ok I6 hN hi hln fun s7 J7 => ?_
      have J8 := inv_track J7 n0 ne
      have hda : dx ≠ a := fun z => by rw [z, na] at hdx; cases hdx
      obtain ⟨od, J9⟩ := inv_freeze (dx := dx) (fs := fs) J8 (by rw [upd_ne hda]; exact hdx)
      rw [set3 hij] at J9
      exact ⟨_, _, J9, hyes a oe4 od na hz4.1 hz4.2 ⟨_, hd4⟩⟩
    | brk => exact (hsp.choose_spec.choose_spec.2).elim
    | cont => exact (hsp.choose_spec.choose_spec.2).elim
    | ret u' => exact (hsp.choose_spec.choose_spec.choose_spec.2.2).elim
  · cases f with
    | next =>
      obtain ⟨σ', H', J', q⟩ := hsp
      exact wpAny_execs_nil ⟨σ', H', J'.ofTry ok, q⟩
    | brk =>
      obtain ⟨σ', H', J', q⟩ := hsp
      exact ⟨σ', H', J'.ofTry ok, q⟩
    | cont =>
      obtain ⟨σ', H', J', q⟩ := hsp
      exact ⟨σ', H', J'.ofTry ok, q⟩
    | ret u =>
      obtain ⟨v, σ', H', J', r, q⟩ := hsp
      exact ⟨v, σ', H', J'.ofTry ok, r, q⟩
end
/-! ### an own error class, made -/
def spI (K : PySem.W.Frag) (f : Str) : Sp := fun vs H Q _ => ∃ (a C : Addr) (y : V), vs = [.ref a, y] ∧ OexC K C ∧ PySem.W.findIn K (.ref C) f = some none ∧ H a = some (exo a C none) ∧ ∀ dx, H dx = none → dx ≠ a → Q .non (upd (upd H dx (exd dx [(f, y)])) a (exo a C (some dx)))
theorem xinit_ok {P : Program} {w : World} {K : PySem.W.Frag} {mg : Str → Option Value} {base : Heap} {CX : CXT} {x qual x0 x1 f : Str} {params : Arguments} {body : List Stmt} {scope : Scope} {dvs : List V} {fI : Addr} {fd : FuncData} {N ps : List Str} {k : Nat} {p1 p2 p3 p4 : Pos}
    (F : FunD K x qual params body scope dvs [] fI fd) (S : FnScope N ps scope) (hN : N = [x0, x1]) (hps : ps = [x0, x1]) (hbody : body = [.Assign [.Attribute (.Name x0 p1) f p2] (.Name x1 p3) p4]) (v0 : Vis scope x0) (v1 : Vis scope x1)
    (d0 : (x0 == ("__debug__" : Str)) = false) (c0 : (x0 == ("__classdict__" : Str)) = false) (d1 : (x1 == ("__debug__" : Str)) = false) (c1 : (x1 == ("__classdict__" : Str)) = false) : FnOk P w K mg base CX (k + 1) fI fd ps (spI K f) := by
  refine F.ok S (fun vs H Q E ⟨a, C, y, e, _⟩ => by rw [e, hps]; rfl) fun cdv A outer s H vs Q E hr h => ?_
  obtain ⟨a, C, y, rfl, hC, hno, ha, hq⟩ := h
  subst hN hbody
  refine ⟨_, pss_one (ps_ost (pe_var (i := 0) rfl v0 d0 c0) (pe_var (i := 1) rfl v1 d1 c1)), ?_⟩
  refine ⟨y, rfl, .ref a, rfl, a, C, rfl, hC, hno, .inl ⟨ha, fun dx h1 h2 => hq dx h1 h2⟩⟩
section
variable {X : Cx} {p pos : Pos}
/-- C(), C's own __init__ keeping sp, its defaults dvs -/
theorem pmk_oex0 {CX : CXT} {x : Str} {C fI : Addr} {k : Nat} {fd : FuncData} {ps : List Str} {sp : Sp} {ds : List Value} {dvs : List V} (T : OexC X.K C) (iC : PySem.W.findIn X.K (.ref C) "__init__" = some (some (.ref fI))) (tI : PySem.W.typeIn X.K (.ref fI) = some (.type "function"))
    (F1 : FnOk X.prog X.w X.K X.mg X.base CX k fI fd ps sp) (hr : Room (k + 1) X.A) (hb : Binds X.K fd ps ds) (hd : Vals dvs ds) (hx : Passes CX X (fun _ _ _ => False)) (hg : Gl X x) (hm : X.mg x = some (.ref C))
    (hdb : (x == ("__debug__" : Str)) = false := by decide) : PMk X (.Call (.Name x p) [] [] pos) (tMkO C sp dvs tNil) := by
  intro pins s σ H Q I h
  obtain ⟨nm, q, N, bs, bm, sn, sub, ab, col, dd, k0, k1, k2, k3, k5, hC, hbm⟩ := T.cls
  refine wpAny_Call_Name_kw (ld_glob I hg hm ?_ hdb)
  refine PySem.W.callWith_K0 I.kIn T.kC ?_
  obtain ⟨_, q1⟩ := h
  obtain ⟨hp, g, dr, tk, os⟩ := s
  have hsz : hp.objs.size ≤ hp.objs.size + 1 := Nat.le_succ _
  have hn : H (hp.objs.size + 1) = none := I.hok.fresh hsz
  have hq := q1 (hp.objs.size + 1) hn
  have kk : ∀ b o, hp.get? b = some o → ((hp.push (PySem.W.kdv_tup [])).push (PySem.HandSPX.excO C hp.objs.size)).get? b = some o := fun b o e => Heap.get?_push_of_some _ (Heap.get?_push_of_some _ e)
  have hget : ((hp.push (PySem.W.kdv_tup [])).push (PySem.HandSPX.excO C hp.objs.size)).get? (hp.objs.size + 1) = some (PySem.HandSPX.excO C hp.objs.size) := by heap_get
  have I2 : Inv X pins σ (upd H (hp.objs.size + 1) (exo (hp.objs.size + 1) C none)) ⟨(hp.push (PySem.W.kdv_tup [])).push (PySem.HandSPX.excO C hp.objs.size), g, dr, tk, os⟩ :=
    I.laid (t' := tk) (a := hp.objs.size + 1) (o := exo (hp.objs.size + 1) C none) (h' := (hp.push (PySem.W.kdv_tup [])).push (PySem.HandSPX.excO C hp.objs.size)) kk hsz (exo_ok hget)
  have r2 : Vals (V.ref (hp.objs.size + 1) :: ([] ++ dvs)) (Value.ref (hp.objs.size + 1) :: ds) := .cons rfl hd
  have hl : (Value.ref (hp.objs.size + 1) :: ds).length = ps.length := by
    have e := r2.length
    rw [F1.len _ _ _ _ hq] at e
    exact e.symm
  refine wpAny_call (PySem.HandSPX.call_own F.excBase_ValueError (fun Y => PySem.HandSPX.refsVE_contains Y bm hbm) (I.kIn _ _ hC) (PySem.W.looks_findIn I.kIn iC) (fun self => PySem.W.bind_fn I.kIn self tI) (Nat.zero_le _)
    (codeAny_mono (F1.run _ X.stack _ _ ⟨[Value.ref (hp.objs.size + 1)], []⟩ (Value.ref (hp.objs.size + 1) :: ds) _ _ (fun _ _ _ => False) (hr.make C [] []) (I2.env0.make C [] []) (hb _ [Value.ref (hp.objs.size + 1)] I2.kIn hl) r2 hq) fun r s' hq' => ?_))
  cases r with
  | error er => exact hx pins σ _ _ er s' I2 hq'
  | ok fl =>
    cases fl with
    | ret u =>
      obtain ⟨v, H2, os2, bare2, un2, hok2, rv, ev, d, fs, ea, ed, hd1, q2⟩ := hq'
      subst ev
      obtain ⟨h2, g2, d2, t2, os'⟩ := s'
      exact ⟨rv, mk_end (raises_own T.exC T.tyC) I hsz kk un2 hok2 os2 bare2 ea ed hd1 q2⟩
    | next => exact False.elim hq'
    | brk => exact False.elim hq'
    | cont => exact False.elim hq'
end
end CL

/-! CL, part f: expressions: what the run says holds of the model -/
namespace CL
open PySem PySem.Spec PyProof.Rows L2

structure Tab where
  G : Prog
  fuel : Nat
  nm : Nms
  ca : Nat → Addr
  fa : Nat → Addr
  fdt : Nat → FuncData
  psn : Nat → List Str
def Tab.cx (T : Tab) (d : Nat) : Ctx := cxN T.G T.fuel d
/-- a def's promise: what the run says -/
def spF (K : PySem.W.Frag) (T : Tab) (run : List Val → Store → Res Val) (np : Nat) : Sp := fun vs H Q _ => vs.length = np ∧ ∃ (io : Nat → Addr) (st : Store) (us : List Val) (v : Val) (st' : Store),
  Rl K T.G.kt T.ca io st H ∧ RVs K T.G.kt io st.n H us vs ∧ run us st = .ok v st' ∧ Post K T.G.kt T.ca io st H v st' Q
/-- what must be of an own error class -/
structure XC (T : Tab) (K : PySem.W.Frag) (mg : Str → Option Value) (k : Nat) : Prop where
  mgc : mg (T.nm.cl k) = some (.ref (T.ca k))
  ox : OexC K (T.ca k)
  no : PySem.W.findIn K (.ref (T.ca k)) T.G.xf = some none
  ini : ∃ (x qual x0 x1 : Str) (params : Arguments) (body : List Stmt) (scope : Scope) (fI : Addr) (fd : FuncData) (N ps : List Str) (p1 p2 p3 p4 : Pos), PySem.W.findIn K (.ref (T.ca k)) "__init__" = some (some (.ref fI)) ∧ PySem.W.typeIn K (.ref fI) = some (.type "function") ∧
    FunD K x qual params body scope [V.int 0] [] fI fd ∧ FnScope N ps scope ∧ N = [x0, x1] ∧ ps = [x0, x1] ∧ body = [.Assign [.Attribute (.Name x0 p1) T.G.xf p2] (.Name x1 p3) p4] ∧ Vis scope x0 ∧ Vis scope x1 ∧ debB x0 = true ∧ debB x1 = true ∧
    (∃ ds, Vals [V.int 0] ds ∧ Binds K fd ps ds) ∧ Binds K fd ps []
  ec : ExcC K (T.ca k)
  kn : PySem.W.kitOne K (.type "NoneType") (.ref (T.ca k)) = some false
  kv : PySem.W.kitOne K (.ref (T.ca k)) (.type "ValueError") = some true
/-- a run that ends in an error -/
def PostX (K : PySem.W.Frag) (kt : List (List Val)) (ca io : Nat → Addr) (st : Store) (H : Hp) (k : Nat) (fs : List (Str × Val)) (st' : Store) (E : XK) : Prop :=
  ∀ (io' : Nat → Addr) (H' : Hp) (dx : Addr) (gs : List (Str × V)), Up io st.n H io' st'.n H' → Rl K kt ca io' st' H' → H' dx = some (.xd gs) → RKs K kt io' st'.n H' fs gs → E (.ref (ca k)) (some dx) H'
/-- how a run ends, against what is wished -/
def OutV (K : PySem.W.Frag) (kt : List (List Val)) (ca io : Nat → Addr) (st : Store) (H : Hp) (r : Res Val) (Q : VK) (E : XK) : Prop := match r with
  | .ok v st' => Post K kt ca io st H v st' Q
  | .ex k fs st' => PostX K kt ca io st H k fs st' E
  | .fail => False
/-- a def's promise, errors told -/
def spX (K : PySem.W.Frag) (T : Tab) (run : List Val → Store → Res Val) (np : Nat) : Sp := fun vs H Q E => vs.length = np ∧ ∃ (io : Nat → Addr) (st : Store) (us : List Val),
  Rl K T.G.kt T.ca io st H ∧ RVs K T.G.kt io st.n H us vs ∧ OutV K T.G.kt T.ca io st H (run us st) Q E
/-- what the top has left -/
structure Top (T : Tab) (K : PySem.W.Frag) (mg : Str → Option Value) : Prop where
  bf : ∀ b : Bf, mg (bfName b) = none
  isi : mg "isinstance" = none
  ty : ∀ t : Ty, tyB t = true → mg (Str.ofString (tyName t)) = none
  rng : mg "range" = none
  enu : mg "enumerate" = none
  zip : mg "zip" = none
  gl : ∀ g v, T.G.gl g = some v → ∃ u w, mg (T.nm.gl g) = some u ∧ RelV w u ∧ ∀ io n H, RV K T.G.kt io n H v w
  fn : ∀ f fd, T.G.fn f = some fd → Binds K (T.fdt f) (T.psn f) [] ∧ (T.psn f).length = fd.np ∧ (T.nm.isG f = true → mg (T.nm.fn f) = some (.ref (T.fa f)) ∧ PySem.W.keepIn K (.ref (T.fa f)) = true)
  mt : ∀ c m f, T.G.mt c m = some f → Cls K (T.ca c) ∧ Meth K (T.ca c) m (T.fa f) ∧ ∃ fd, T.G.fn f = some fd
  ini : ∀ c f, T.G.ini c = some f → mg (T.nm.cl c) = some (.ref (T.ca c)) ∧ Mk K (T.ca c) (T.fa f) ∧ ∃ fd, T.G.fn f = some fd
  fl : ∀ c f, T.G.fl c f = true → Cls K (T.ca c) ∧ NoAttr K (T.ca c) f
  xc : ∀ k, T.G.xs k k = true → XC T K mg k
  xsub : ∀ k k', T.G.xs k k = true → T.G.xs k' k' = true → PySem.W.exmOne K (.ref (T.ca k)) (.ref (T.ca k')) = some (T.G.xs k k')
  xis : ∀ k k', T.G.xs k k = true → T.G.xs k' k' = true → PySem.W.kitOne K (.ref (T.ca k)) (.ref (T.ca k')) = some (T.G.xs k k')
  ver : mg "ValueError" = none
def FnsX (T : Tab) (X : Cx) (d : Nat) : Prop := ∀ f fd, T.G.fn f = some fd → FnOk X.prog X.w X.K X.mg X.base (L2.CX X.prog X.w) d (T.fa f) (T.fdt f) (T.psn f) (spX X.K T (callN T.G T.fuel d f) (T.psn f).length)
def Fns (T : Tab) (X : Cx) (d : Nat) : Prop := ∀ f fd, T.G.fn f = some fd → FnOk X.prog X.w X.K X.mg X.base CX0 d (T.fa f) (T.fdt f) (T.psn f) (spF X.K T (callN T.G T.fuel d f) (T.psn f).length)
/-- the promise of a def that gives a tuple as it is written: it is known to the object -/
def spD (K : PySem.W.Frag) (T : Tab) (run : List Val → Store → Res Val) : Sp := fun vs H Q _ => vs = [] ∧ ∃ (io : Nat → Addr) (st : Store) (xs : List Val) (st' : Store),
  Rl K T.G.kt T.ca io st H ∧ run [] st = .ok (.tup xs) st' ∧ ∀ (io' : Nat → Addr) (H' : Hp) (a : Addr) (o : Obj) (ys : List V), Up io st.n H io' st'.n H' → Rl K T.G.kt T.ca io' st' H' → H' a = some (.frz o (.tup ys)) → o.dict = none → RVs K T.G.kt io' st'.n H' xs ys → Q (.ref a) H'
def DFns (T : Tab) (X : Cx) (d : Nat) : Prop := ∀ f, litF T.G f = true → FnOk X.prog X.w X.K X.mg X.base CX0 d (T.fa f) (T.fdt f) (T.psn f) (spD X.K T (callN T.G T.fuel d f))
structure At (T : Tab) (d : Nat) (X : Cx) (N : List Str) (sc : Scope) (ow : Str → Bool) : Prop where
  top : Top T X.K X.mg
  fns : ∀ e, e ≤ d → Fns T X e
  dfs : ∀ e, e ≤ d → DFns T X e
  fnx : ∀ e, e ≤ d → FnsX T X e
  hN : X.N = N
  nd : N.Nodup
  hsc : X.env.scope = sc
  kind : sc.kind = .function
  how : ∀ x, ow x = true → X.fn x = true
  calm : X.calm = true
  room : Room d X.A
/-- slots -/
def RS (K : PySem.W.Frag) (kt : List (List Val)) (io : Nat → Addr) (n : Nat) (H : Hp) (s : Env) (t : L2.St) : Prop :=
  s.length = t.length ∧ ∀ (i : Nat) (v : Val), s[i]? = some (some v) → ∃ w, t[i]? = some (some w) ∧ RV K kt io n H v w
theorem RS.up {K : PySem.W.Frag} {kt : List (List Val)} {io io' : Nat → Addr} {n n' : Nat} {H H' : Hp} {s : Env} {t : L2.St} (u : Up io n H io' n' H') (h : RS K kt io n H s t) : RS K kt io' n' H' s t :=
  ⟨h.1, fun i v e => let ⟨w, e', r⟩ := h.2 i v e; ⟨w, e', r.up u⟩⟩
theorem RS.set {K : PySem.W.Frag} {kt : List (List Val)} {io : Nat → Addr} {n : Nat} {H : Hp} {s : Env} {t : L2.St} (h : RS K kt io n H s t) {v : Val} {w : V} (r : RV K kt io n H v w) (i : Nat) : RS K kt io n H (s.set i (some v)) (t.set i (some w)) := by
  refine ⟨by rw [List.length_set, List.length_set]; exact h.1, fun j u e => ?_⟩
  by_cases hj : i = j
  · subst hj
    rw [List.getElem?_set] at e ⊢
    rw [← h.1]
    split at e
    · split at e
      · cases e; rename_i h1 h2; rw [if_pos rfl, if_pos h2]; exact ⟨w, rfl, r⟩
      · cases e
    · rename_i h1; exact absurd rfl h1
  · rw [List.getElem?_set_ne hj] at e ⊢
    exact h.2 j u e
theorem RS.none {K : PySem.W.Frag} {kt : List (List Val)} {io : Nat → Addr} {n : Nat} {H : Hp} {s : Env} {t : L2.St} (h : RS K kt io n H s t) (i : Nat) : RS K kt io n H (s.set i Option.none) (t.set i Option.none) := by
  refine ⟨by rw [List.length_set, List.length_set]; exact h.1, fun j u e => ?_⟩
  by_cases hj : i = j
  · subst hj
    rw [List.getElem?_set] at e
    split at e
    · split at e <;> cases e
    · rename_i h1; exact absurd rfl h1
  · rw [List.getElem?_set_ne hj] at e ⊢
    exact h.2 j u e
def PostA (K : PySem.W.Frag) (kt : List (List Val)) (ca io : Nat → Addr) (st : Store) (H : Hp) (vs : List Val) (st' : Store) (Q : List V → Hp → Prop) : Prop :=
  ∀ (io' : Nat → Addr) (H' : Hp) (ws : List V), Up io st.n H io' st'.n H' → Rl K kt ca io' st' H' → RVs K kt io' st'.n H' vs ws → Q ws H'
def PostB (K : PySem.W.Frag) (kt : List (List Val)) (ca io : Nat → Addr) (st : Store) (H : Hp) (k : Bool) (st' : Store) (Q : Bool → Hp → Prop) : Prop :=
  ∀ (io' : Nat → Addr) (H' : Hp), Up io st.n H io' st'.n H' → Rl K kt ca io' st' H' → Q k H'
theorem Post.after {K : PySem.W.Frag} {kt : List (List Val)} {ca io io1 : Nat → Addr} {st st1 st' : Store} {H H1 : Hp} {v : Val} {Q : VK} (p : Post K kt ca io st H v st' Q) (u : Up io st.n H io1 st1.n H1) : Post K kt ca io1 st1 H1 v st' Q :=
  fun io' H' w u' R r => p io' H' w (u.trans u') R r
theorem PostA.after {K : PySem.W.Frag} {kt : List (List Val)} {ca io io1 : Nat → Addr} {st st1 st' : Store} {H H1 : Hp} {v : List Val} {Q : List V → Hp → Prop} (p : PostA K kt ca io st H v st' Q) (u : Up io st.n H io1 st1.n H1) : PostA K kt ca io1 st1 H1 v st' Q :=
  fun io' H' w u' R r => p io' H' w (u.trans u') R r
theorem PostB.after {K : PySem.W.Frag} {kt : List (List Val)} {ca io io1 : Nat → Addr} {st st1 st' : Store} {H H1 : Hp} {v : Bool} {Q : Bool → Hp → Prop} (p : PostB K kt ca io st H v st' Q) (u : Up io st.n H io1 st1.n H1) : PostB K kt ca io1 st1 H1 v st' Q :=
  fun io' H' u' R => p io' H' (u.trans u') R
def aSem (X : Cx) (es : List Expr) : TA := fun σ H Q => ∀ (pos : Pos) (pins : List (Addr × Obj)) (s : Shared), Inv X pins σ H s → wpAny (model X.prog X.w) X.A (spliced (backTo pos (starEach es X.env))) (AP X pins σ Q) X.xe s
theorem pa_sem {X : Cx} {es : List Expr} : PA X es (aSem X es) := ⟨fun pos pins s σ H Q I h => h pos pins s I⟩

/-- an expression's run holds of the model -/
def SE (T : Tab) (d : Nat) (N : List Str) (e : E) : Prop := ∀ (X : Cx) (sc : Scope) (ow : Str → Bool) (p : Expr), At T d X N sc ow → chE T.nm N e sc p = true →
  ∀ (s : Env) (st : Store) (v : Val) (st' : Store) (io : Nat → Addr) (H : Hp) (t : L2.St) (Q : VK), RS X.K T.G.kt io st.n H s t → Rl X.K T.G.kt T.ca io st H → ev (T.cx d) e s st = .ok v st' →
    Post X.K T.G.kt T.ca io st H v st' Q → tSem X p t H Q
def SA (T : Tab) (d : Nat) (N : List Str) (es : Es) : Prop := ∀ (X : Cx) (sc : Scope) (ow : Str → Bool) (ps : List Expr), At T d X N sc ow → chEs T.nm N es sc ps = true →
  ∀ (s : Env) (st : Store) (vs : List Val) (st' : Store) (io : Nat → Addr) (H : Hp) (t : L2.St) (Q : List V → Hp → Prop), RS X.K T.G.kt io st.n H s t → Rl X.K T.G.kt T.ca io st H → evs (T.cx d) es s st = .ok vs st' →
    PostA X.K T.G.kt T.ca io st H vs st' Q → aSem X ps t H Q
def SB (T : Tab) (d : Nat) (N : List Str) (b : B) : Prop := ∀ (X : Cx) (sc : Scope) (ow : Str → Bool) (p : Expr), At T d X N sc ow → chB T.nm N b sc p = true →
  ∀ (s : Env) (st : Store) (k : Bool) (st' : Store) (io : Nat → Addr) (H : Hp) (t : L2.St) (Q : Bool → Hp → Prop), RS X.K T.G.kt io st.n H s t → Rl X.K T.G.kt T.ca io st H → ts (T.cx d) b s st = .ok k st' →
    PostB X.K T.G.kt T.ca io st H k st' Q → bSem X p t H Q

section
variable {T : Tab} {d : Nat} {N : List Str}
theorem chEs_star : ∀ {es : Es} {sc : Scope} {ps : List Expr}, chEs T.nm N es sc ps = true → ps.all nostar = true
  | .nil, sc, ps, h => by
    simp only [chEs] at h
    split at h
    · rfl
    · cases h
  | .cons e es, sc, ps, h => by
    simp only [chEs] at h
    split at h
    · rename_i p r
      simp only [Bool.and_eq_true] at h
      rw [List.all_cons, h.1.2, chEs_star h.2]; rfl
    · cases h
theorem sa_nil : SA T d N .nil := by
  intro X sc ow ps A hc s st vs st' io H t Q rs R e p
  simp only [chEs] at hc
  split at hc
  · simp only [evs] at e
    cases e
    intro pos pins sh I
    exact pa_nil.run pos pins sh t H Q I (p io H [] (.refl _ _ _) R .nil)
  · cases hc
theorem sa_cons {a : E} {es : Es} (ha : SE T d N a) (hs : SA T d N es) : SA T d N (.cons a es) := by
  intro X sc ow ps A hc s st vs st' io H t Q rs R e p
  simp only [chEs] at hc
  split at hc
  · rename_i q r
    simp only [Bool.and_eq_true] at hc
    simp only [evs] at e
    obtain ⟨v, st1, e1, e⟩ := bind_eq_ok.mp e
    obtain ⟨ws, st2, e2, e⟩ := bind_eq_ok.mp e
    cases e
    intro pos pins sh I
    refine (pa_cons pe_sem pa_sem (star_cons hc.1.2)).run pos pins sh t H Q I ?_
    refine ha X sc ow q A hc.1.1 s st v st1 io H t _ rs R e1 fun io1 H1 w u1 R1 r1 => ?_
    refine hs X sc ow r A hc.2 s st1 ws _ io1 H1 t _ (rs.up u1) R1 e2 fun io2 H2 w2 u2 R2 r2 => ?_
    exact p io2 H2 _ (u1.trans u2) R2 (.cons (r1.up u2) r2)
  · cases hc
theorem se_v {i : Nat} : SE T d N (.v i) := by
  intro X sc ow q A hc s st v st' io H t Q rs R e p
  simp only [chE] at hc
  split at hc
  · rename_i x pos
    unfold rdB at hc
    simp only [Bool.and_eq_true, decide_eq_true_eq] at hc
    simp only [ev] at e
    split at e
    · rename_i v' e1
      cases e
      obtain ⟨w, e2, r⟩ := rs.2 i v e1
      intro pins sh I
      exact (pe_var (by rw [A.hN]; exact hc.1.1) (by rw [A.hsc]; exact visB_ok hc.1.2) (debB_ok hc.2).1 (debB_ok hc.2).2).run pins sh t H Q I ⟨w, e2, p.here R r⟩
    · cases e
  · cases hc
theorem se_int {i : Int} : SE T d N (.int i) := by
  intro X sc ow q A hc s st v st' io H t Q rs R e p
  simp only [chE] at hc
  split at hc
  · simp only [decide_eq_true_eq] at hc
    subst hc
    simp only [ev] at e
    cases e
    intro pins sh I
    exact pe_int.run pins sh t H Q I (p.here R (.int _))
  · cases hc
theorem se_str {x : Str} : SE T d N (.str x) := by
  intro X sc ow q A hc s st v st' io H t Q rs R e p
  simp only [chE] at hc
  split at hc
  · simp only [decide_eq_true_eq] at hc
    subst hc
    simp only [ev] at e
    cases e
    intro pins sh I
    exact pe_str.run pins sh t H Q I (p.here R (.str _))
  · cases hc
theorem se_bl {b : Bool} : SE T d N (.bl b) := by
  intro X sc ow q A hc s st v st' io H t Q rs R e p
  simp only [chE] at hc
  split at hc
  · simp only [beq_iff_eq] at hc
    subst hc
    simp only [ev] at e
    cases e
    intro pins sh I
    exact pe_bl.run pins sh t H Q I (p.here R (.bl _))
  · cases hc
theorem se_non : SE T d N .non := by
  intro X sc ow q A hc s st v st' io H t Q rs R e p
  simp only [chE] at hc
  split at hc
  · simp only [ev] at e
    cases e
    intro pins sh I
    exact pe_non.run pins sh t H Q I (p.here R .non)
  · cases hc
theorem gB_ok {sc : Scope} {x y : Str} (h : gB sc x y = true) : x = y ∧ sc.names.lookup x = some .globalImplicit ∧ (x == ("__debug__" : Str)) = false := by
  unfold gB at h
  simp only [Bool.and_eq_true, decide_eq_true_eq] at h
  exact ⟨h.1.1, glB_ok h.1.2, (debB_ok h.2).1⟩
theorem At.gl {X : Cx} {sc : Scope} {ow : Str → Bool} (A : At T d X N sc ow) {x y : Str} (h : gB sc x y = true) : Gl X x := by
  show X.env.scope.names.lookup x = _
  rw [A.hsc]; exact (gB_ok h).2.1
theorem se_gl {g : Nat} : SE T d N (.gl g) := by
  intro X sc ow q A hc s st v st' io H t Q rs R e p
  simp only [chE] at hc
  split at hc
  · simp only [ev] at e
    split at e
    · rename_i v' e1
      cases e
      have e1 : T.G.gl g = some v := e1
      obtain ⟨u, w, h1, h2, h3⟩ := A.top.gl g v e1
      obtain ⟨rfl, _, hd⟩ := gB_ok hc
      intro pins sh I
      exact (pe_glob (A.gl hc) h1 h2 hd).run pins sh t H Q I (p.here R (h3 _ _ _))
    · cases e
  · cases hc
theorem se_tup {es : Es} (h : SA T d N es) : SE T d N (.tup es) := by
  intro X sc ow q A hc s st v st' io H t Q rs R e p
  simp only [chE] at hc
  split at hc
  · simp only [ev] at e
    obtain ⟨vs, st1, e1, e⟩ := bind_eq_ok.mp e
    unfold mkT at e
    split at e
    · rename_i hf
      cases e
      intro pins sh I
      refine (pe_tup pa_sem).run pins sh t H Q I ?_
      refine h X sc ow _ A hc s st vs _ io H t _ rs R e1 fun io1 H1 ws u1 R1 r1 => ⟨by rw [← r1.length]; exact fits_le hf, fun a ha => (p.after u1).tup R1 r1 a ha⟩
    · cases e
  · cases hc
theorem se_lst {es : Es} (h : SA T d N es) : SE T d N (.lst es) := by
  intro X sc ow q A hc s st v st' io H t Q rs R e p
  simp only [chE] at hc
  split at hc
  · simp only [ev] at e
    obtain ⟨vs, st1, e1, e⟩ := bind_eq_ok.mp e
    unfold mkL at e
    split at e
    · rename_i hf
      cases e
      intro pins sh I
      refine (pe_lst pa_sem).run pins sh t H Q I ?_
      refine h X sc ow _ A hc s st vs _ io H t _ rs R e1 fun io1 H1 ws u1 R1 r1 => ⟨by rw [← r1.length]; exact fits_le hf, fun a ha => (p.after u1).list R1 r1 a ha⟩
    · cases e
  · cases hc
theorem se_neg {a : E} (h : SE T d N a) : SE T d N (.neg a) := by
  intro X sc ow q A hc s st v st' io H t Q rs R e p
  simp only [chE] at hc
  split at hc
  · simp only [ev] at e
    obtain ⟨x, st1, e1, e⟩ := bind_eq_ok.mp e
    split at e
    · cases e
      intro pins sh I
      refine (pe_un un_neg pe_sem).run pins sh t H Q I ?_
      refine h X sc ow _ A hc s st _ _ io H t _ rs R e1 fun io1 H1 w u1 R1 r1 => ?_
      obtain rfl := r1.iint
      exact ⟨_, rfl, (p.after u1).here R1 (.int _)⟩
    · cases e
  · cases hc
theorem se_bin {o : Bop} {a b : E} (ha : SE T d N a) (hb : SE T d N b) : SE T d N (.bin o a b) := by
  intro X sc ow q A hc s st v st' io H t Q rs R e p
  simp only [chE] at hc
  split at hc
  · simp only [Bool.and_eq_true, decide_eq_true_eq] at hc
    obtain ⟨⟨rfl, c1⟩, c2⟩ := hc
    simp only [ev] at e
    obtain ⟨x, st1, e1, e⟩ := bind_eq_ok.mp e
    obtain ⟨y, st2, e2, e⟩ := bind_eq_ok.mp e
    intro pins sh I
    refine (pe_op op_sem pe_sem pe_sem).run pins sh t H Q I ?_
    refine ha X sc ow _ A c1 s st x st1 io H t _ rs R e1 fun io1 H1 w u1 R1 r1 => ?_
    refine hb X sc ow _ A c2 s st1 y st2 io1 H1 t _ (rs.up u1) R1 e2 fun io2 H2 w2 u2 R2 r2 => ?_
    exact bop_ok R2 (r1.up u2) r2 e (p.after (u1.trans u2))
  · cases hc
theorem At.hu {X : Cx} {sc : Scope} {ow : Str → Bool} (A : At T d X N sc ow) : X.A.units + 65 < cLine := by have := A.room.un; omega
theorem noset_in {p : Expr} (h : noset p = true) (op : CmpOp) : behindInMarks op p = false := by
  cases p <;> first | rfl | cases h
/-- a comparison's reading, as a value and as a test -/
theorem cmp_read {o : Cop} {a b : E} (ha : SE T d N a) (hb : SE T d N b) {X : Cx} {sc : Scope} {ow : Str → Bool} {q r : Expr} (A : At T d X N sc ow) (c1 : chE T.nm N a sc q = true) (c2 : chE T.nm N b sc r = true)
    {s : Env} {st : Store} {v : Val} {st' : Store} {io : Nat → Addr} {H : Hp} {t : L2.St} {Q : VK} (rs : RS X.K T.G.kt io st.n H s t) (R : Rl X.K T.G.kt T.ca io st H) (e : ev (T.cx d) (.cmp o a b) s st = .ok v st')
    (p : Post X.K T.G.kt T.ca io st H v st' Q) : tOp (oSem X (compareOp (copOf o))) (tSem X q) (tSem X r) t H Q := by
  simp only [ev] at e
  obtain ⟨x, st1, e1, e⟩ := bind_eq_ok.mp e
  obtain ⟨y, st2, e2, e⟩ := bind_eq_ok.mp e
  refine ha X sc ow _ A c1 s st x st1 io H t _ rs R e1 fun io1 H1 w u1 R1 r1 => ?_
  refine hb X sc ow _ A c2 s st1 y st2 io1 H1 t _ (rs.up u1) R1 e2 fun io2 H2 w2 u2 R2 r2 => ?_
  exact cop_ok A.hu R2 (r1.up u2) r2 e (p.after (u1.trans u2))
theorem se_cmp {o : Cop} {a b : E} (ha : SE T d N a) (hb : SE T d N b) : SE T d N (.cmp o a b) := by
  intro X sc ow q A hc s st v st' io H t Q rs R e p
  simp only [chE] at hc
  split at hc
  · simp only [Bool.and_eq_true, decide_eq_true_eq] at hc
    obtain ⟨⟨⟨rfl, c1⟩, c2⟩, c3⟩ := hc
    intro pins sh I
    exact (pe_cmpR op_sem pe_sem pe_sem (noset_in c3 _)).run pins sh t H Q I (cmp_read ha hb A c1 c2 rs R e p)
  · cases hc
theorem cop_bl {kt : List (List Val)} {o : Cop} {x y v : Val} {st st' : Store} (e : cop kt o x y st = .ok v st') : ∃ k, v = .bl k ∧ st' = st := by
  unfold cop at e
  split at e
  · split at e
    · cases e; exact ⟨_, rfl, rfl⟩
    · split at e
      · cases e; exact ⟨_, rfl, rfl⟩
      · cases e
  · split at e
    · cases e; exact ⟨_, rfl, rfl⟩
    · split at e
      · cases e; exact ⟨_, rfl, rfl⟩
      · cases e
  · obtain ⟨k, _, h, h'⟩ := okB_inv e; exact ⟨k, h, h'⟩
  · obtain ⟨k, _, h, h'⟩ := okB_inv e; exact ⟨k, h, h'⟩
  all_goals (split at e <;> cases e <;> exact ⟨_, rfl, rfl⟩)
theorem cm2_read {o o2 : Cop} {a b c : E} (ha : SE T d N a) (hb : SE T d N b) (hd : SE T d N c) {X : Cx} {sc : Scope} {ow : Str → Bool} {q r z : Expr} (A : At T d X N sc ow) (c1 : chE T.nm N a sc q = true) (c2 : chE T.nm N b sc r = true) (c3 : chE T.nm N c sc z = true)
    {s : Env} {st : Store} {v : Val} {st' : Store} {io : Nat → Addr} {H : Hp} {t : L2.St} {Q : VK} (rs : RS X.K T.G.kt io st.n H s t) (R : Rl X.K T.G.kt T.ca io st H) (e : ev (T.cx d) (.cm2 o o2 a b c) s st = .ok v st')
    (p : Post X.K T.G.kt T.ca io st H v st' Q) : tChain (oSem X (compareOp (copOf o))) (oSem X (compareOp (copOf o2))) (tSem X q) (tSem X r) (tSem X z) t H Q := by
  simp only [ev] at e
  obtain ⟨x, st1, e1, e⟩ := bind_eq_ok.mp e
  obtain ⟨y, st2, e2, e⟩ := bind_eq_ok.mp e
  obtain ⟨m, st3, e3, e⟩ := bind_eq_ok.mp e
  refine ha X sc ow _ A c1 s st x st1 io H t _ rs R e1 fun io1 H1 w u1 R1 r1 => ?_
  refine hb X sc ow _ A c2 s st1 y st2 io1 H1 t _ (rs.up u1) R1 e2 fun io2 H2 w2 u2 R2 r2 => ?_
  refine cop_ok A.hu R2 (r1.up u2) r2 e3 fun io3 H3 w3 u3 R3 r3 => ?_
  have U := (u1.trans u2).trans u3
  split at e
  · obtain rfl := r3.ibl
    refine ⟨true, rfl, ?_⟩
    rw [if_pos rfl]
    obtain ⟨f, st4, e4, e⟩ := bind_eq_ok.mp e
    refine hd X sc ow _ A c3 s st3 f st4 io3 H3 t _ (rs.up U) R3 e4 fun io4 H4 w4 u4 R4 r4 => ?_
    exact cop_ok A.hu R4 (r2.up (u3.trans u4)) r4 e (p.after (U.trans u4))
  · obtain rfl := r3.ibl
    cases e
    refine ⟨false, rfl, ?_⟩
    rw [if_neg (by decide)]
    exact (p.after U).here R3 (.bl _)
  · cases e
theorem last_of {r z : Expr} {o o' : CmpOp} (h : noset z = true) : lastMarks [o, o'] [r, z] = false := noset_in h o'
theorem se_cm2 {o o2 : Cop} {a b c : E} (ha : SE T d N a) (hb : SE T d N b) (hd : SE T d N c) : SE T d N (.cm2 o o2 a b c) := by
  intro X sc ow q A hc s st v st' io H t Q rs R e p
  simp only [chE] at hc
  split at hc
  · simp only [Bool.and_eq_true, decide_eq_true_eq] at hc
    obtain ⟨⟨⟨⟨⟨⟨rfl, rfl⟩, c1⟩, c2⟩, c3⟩, c4⟩, c5⟩ := hc
    intro pins sh I
    exact (pe_chain op_sem op_sem pe_sem pe_sem pe_sem (last_of c5)).run pins sh t H Q I (cm2_read ha hb hd A c1 c2 c3 rs R e p)
  · cases hc
theorem isN_read {a : E} (ha : SE T d N a) {X : Cx} {sc : Scope} {ow : Str → Bool} {q : Expr} (A : At T d X N sc ow) (c1 : chE T.nm N a sc q = true)
    {s : Env} {st : Store} {v : Val} {st' : Store} {io : Nat → Addr} {H : Hp} {t : L2.St} {Q : VK} (rs : RS X.K T.G.kt io st.n H s t) (R : Rl X.K T.G.kt T.ca io st H) (e : ev (T.cx d) (.isN a) s st = .ok v st')
    (p : Post X.K T.G.kt T.ca io st H v st' Q) : tIsN (tSem X q) t H Q := by
  simp only [ev] at e
  obtain ⟨x, st1, e1, e⟩ := bind_eq_ok.mp e
  cases e
  refine ha X sc ow _ A c1 s st x _ io H t _ rs R e1 fun io1 H1 w u1 R1 r1 => ?_
  have q1 := (p.after u1).here R1 (.bl _)
  cases r1 <;> exact q1
theorem noN_read {a : E} (ha : SE T d N a) {X : Cx} {sc : Scope} {ow : Str → Bool} {q : Expr} (A : At T d X N sc ow) (c1 : chE T.nm N a sc q = true)
    {s : Env} {st : Store} {v : Val} {st' : Store} {io : Nat → Addr} {H : Hp} {t : L2.St} {Q : VK} (rs : RS X.K T.G.kt io st.n H s t) (R : Rl X.K T.G.kt T.ca io st H) (e : ev (T.cx d) (.noN a) s st = .ok v st')
    (p : Post X.K T.G.kt T.ca io st H v st' Q) : tNotN (tSem X q) t H Q := by
  simp only [ev] at e
  obtain ⟨x, st1, e1, e⟩ := bind_eq_ok.mp e
  cases e
  refine ha X sc ow _ A c1 s st x _ io H t _ rs R e1 fun io1 H1 w u1 R1 r1 => ?_
  have q1 := (p.after u1).here R1 (.bl _)
  cases r1 <;> exact q1
theorem se_isN {a : E} (ha : SE T d N a) : SE T d N (.isN a) := by
  intro X sc ow q A hc s st v st' io H t Q rs R e p
  simp only [chE] at hc
  split at hc
  · intro pins sh I
    exact (pe_cmp (pc_isN pe_sem)).run pins sh t H Q I (isN_read ha A hc rs R e p)
  · cases hc
theorem se_noN {a : E} (ha : SE T d N a) : SE T d N (.noN a) := by
  intro X sc ow q A hc s st v st' io H t Q rs R e p
  simp only [chE] at hc
  split at hc
  · intro pins sh I
    exact (pe_cmp (pc_notN pe_sem)).run pins sh t H Q I (noN_read ha A hc rs R e p)
  · cases hc
end
end CL

/-! CL, part g: more expressions; tests -/
namespace CL
open PySem PySem.Spec PyProof.Rows L2
section
variable {T : Tab} {d : Nat} {N : List Str}
/-- what and, or ask of the rest, be it one expression or more -/
theorem and_rest {b : E} (hb : SE T d N b) {X : Cx} {sc : Scope} {ow : Str → Bool} {r : Expr} {t : List Expr} {pos : Pos} {op : BoolOp} (A : At T d X N sc ow)
    (c : (match t with | [] => chE T.nm N b sc r = true | _ => chE T.nm N b sc (.BoolOp op (r :: t) pos) = true))
    {s : Env} {st : Store} {v : Val} {st' : Store} {io : Nat → Addr} {H : Hp} {t' : L2.St} {Q : VK} (rs : RS X.K T.G.kt io st.n H s t') (R : Rl X.K T.G.kt T.ca io st H) (e : ev (T.cx d) b s st = .ok v st')
    (p : Post X.K T.G.kt T.ca io st H v st' Q) : tSem X (.BoolOp op (r :: t) pos) t' H Q := by
  cases t with
  | nil =>
    intro pins sh I
    exact (pe_one pe_sem).run pins sh t' H Q I (hb X sc ow r A c s st v st' io H t' Q rs R e p)
  | cons t1 t2 => exact hb X sc ow _ A c s st v st' io H t' Q rs R e p
theorem se_and {a b : E} (ha : SE T d N a) (hb : SE T d N b) : SE T d N (.and a b) := by
  intro X sc ow q A hc s st v st' io H t Q rs R e p
  simp only [ev] at e
  obtain ⟨x, st1, e1, e⟩ := bind_eq_ok.mp e
  have go : ∀ (q1 r : Expr) (u : List Expr) (pos : Pos), chE T.nm N a sc q1 = true → (match u with | [] => chE T.nm N b sc r = true | _ => chE T.nm N b sc (.BoolOp .And (r :: u) pos) = true) → tSem X (.BoolOp .And (q1 :: r :: u) pos) t H Q := by
    intro q1 r u pos c1 c2 pins sh I
    split at e
    · refine (pe_and pe_sem pe_sem).run pins sh t H Q I ?_
      refine ha X sc ow q1 A c1 s st _ st1 io H t _ rs R e1 fun io1 H1 w u1 R1 r1 => ?_
      obtain rfl := r1.ibl
      refine ⟨true, rfl, ?_⟩
      rw [if_pos rfl]
      exact and_rest hb A c2 (rs.up u1) R1 e (p.after u1)
    · refine (pe_and pe_sem pe_sem).run pins sh t H Q I ?_
      refine ha X sc ow q1 A c1 s st _ st1 io H t _ rs R e1 fun io1 H1 w u1 R1 r1 => ?_
      obtain rfl := r1.ibl
      cases e
      refine ⟨false, rfl, ?_⟩
      rw [if_neg (by decide)]
      exact (p.after u1).here R1 (.bl _)
    · rename_i i
      refine (pe_andT pe_sem pe_sem).run pins sh t H Q I ?_
      refine ha X sc ow q1 A c1 s st _ st1 io H t _ rs R e1 fun io1 H1 w u1 R1 r1 => ?_
      obtain rfl := r1.iint
      refine ⟨i != 0, rfl, ?_⟩
      split at e
      · rename_i h0
        cases e
        rw [if_neg (by simp [h0])]
        exact (p.after u1).here R1 (.int _)
      · rename_i h0
        rw [if_pos (by simpa using h0)]
        exact and_rest hb A c2 (rs.up u1) R1 e (p.after u1)
    · cases e
  simp only [chE] at hc
  split at hc
  · rw [Bool.and_eq_true] at hc; exact go _ _ [] _ hc.1 hc.2
  · rw [Bool.and_eq_true] at hc; exact go _ _ (_ :: _) _ hc.1 hc.2
  · cases hc
theorem se_or {a b : E} (ha : SE T d N a) (hb : SE T d N b) : SE T d N (.or a b) := by
  intro X sc ow q A hc s st v st' io H t Q rs R e p
  simp only [ev] at e
  obtain ⟨x, st1, e1, e⟩ := bind_eq_ok.mp e
  have go : ∀ (q1 r : Expr) (u : List Expr) (pos : Pos), chE T.nm N a sc q1 = true → (match u with | [] => chE T.nm N b sc r = true | _ => chE T.nm N b sc (.BoolOp .Or (r :: u) pos) = true) → tSem X (.BoolOp .Or (q1 :: r :: u) pos) t H Q := by
    intro q1 r u pos c1 c2 pins sh I
    split at e
    · refine (pe_or pe_sem pe_sem).run pins sh t H Q I ?_
      refine ha X sc ow q1 A c1 s st _ st1 io H t _ rs R e1 fun io1 H1 w u1 R1 r1 => ?_
      obtain rfl := r1.ibl
      cases e
      refine ⟨true, rfl, ?_⟩
      rw [if_pos rfl]
      exact (p.after u1).here R1 (.bl _)
    · refine (pe_or pe_sem pe_sem).run pins sh t H Q I ?_
      refine ha X sc ow q1 A c1 s st _ st1 io H t _ rs R e1 fun io1 H1 w u1 R1 r1 => ?_
      obtain rfl := r1.ibl
      refine ⟨false, rfl, ?_⟩
      rw [if_neg (by decide)]
      exact and_rest hb A c2 (rs.up u1) R1 e (p.after u1)
    · rename_i i
      refine (pe_orT pe_sem pe_sem).run pins sh t H Q I ?_
      refine ha X sc ow q1 A c1 s st _ st1 io H t _ rs R e1 fun io1 H1 w u1 R1 r1 => ?_
      obtain rfl := r1.iint
      refine ⟨i != 0, rfl, ?_⟩
      split at e
      · rename_i h0
        rw [if_neg (by simp [h0])]
        exact and_rest hb A c2 (rs.up u1) R1 e (p.after u1)
      · rename_i h0
        cases e
        rw [if_pos (by simpa using h0)]
        exact (p.after u1).here R1 (.int _)
    · cases e
  simp only [chE] at hc
  split at hc
  · rw [Bool.and_eq_true] at hc; exact go _ _ [] _ hc.1 hc.2
  · rw [Bool.and_eq_true] at hc; exact go _ _ (_ :: _) _ hc.1 hc.2
  · cases hc
theorem se_not {a : E} (ha : SE T d N a) : SE T d N (.not a) := by
  intro X sc ow q A hc s st v st' io H t Q rs R e p
  simp only [chE] at hc
  split at hc
  · simp only [ev] at e
    obtain ⟨x, st1, e1, e⟩ := bind_eq_ok.mp e
    split at e
    · cases e
      intro pins sh I
      refine (pe_not pe_sem).run pins sh t H Q I ?_
      refine ha X sc ow _ A hc s st _ _ io H t _ rs R e1 fun io1 H1 w u1 R1 r1 => ?_
      obtain rfl := r1.ibl
      exact ⟨_, rfl, (p.after u1).here R1 (.bl _)⟩
    · cases e
  · cases hc
theorem se_ite {c : B} {a b : E} (hc' : SB T d N c) (ha : SE T d N a) (hb : SE T d N b) : SE T d N (.ite c a b) := by
  intro X sc ow q A hc s st v st' io H t Q rs R e p
  simp only [chE] at hc
  split at hc
  · simp only [Bool.and_eq_true] at hc
    simp only [ev] at e
    obtain ⟨k, st1, e1, e⟩ := bind_eq_ok.mp e
    intro pins sh I
    refine (pe_ifExp pt_sem pe_sem pe_sem).run pins sh t H Q I ?_
    refine hc' X sc ow _ A hc.1.1 s st k st1 io H t _ rs R e1 fun io1 H1 u1 R1 => ?_
    cases k with
    | true =>
      rw [if_pos rfl]
      exact ha X sc ow _ A hc.1.2 s st1 v st' io1 H1 t Q (rs.up u1) R1 e (p.after u1)
    | false =>
      rw [if_neg (by decide)]
      exact hb X sc ow _ A hc.2 s st1 v st' io1 H1 t Q (rs.up u1) R1 e (p.after u1)
  · cases hc
theorem se_sub {a b : E} (ha : SE T d N a) (hb : SE T d N b) : SE T d N (.sub a b) := by
  intro X sc ow q A hc s st v st' io H t Q rs R e p
  simp only [chE] at hc
  split at hc
  · simp only [Bool.and_eq_true] at hc
    simp only [ev] at e
    obtain ⟨x, st1, e1, e⟩ := bind_eq_ok.mp e
    obtain ⟨y, st2, e2, e⟩ := bind_eq_ok.mp e
    intro pins sh I
    refine (pe_ix ix_sem pe_sem pe_sem (plain_ix hc.2)).run pins sh t H Q I ?_
    refine ha X sc ow _ A hc.1.1 s st x st1 io H t _ rs R e1 fun io1 H1 w u1 R1 r1 => ?_
    refine hb X sc ow _ A hc.1.2 s st1 y st2 io1 H1 t _ (rs.up u1) R1 e2 fun io2 H2 w2 u2 R2 r2 => ?_
    exact sub_ok A.hu R2 (r1.up u2) r2 e (p.after (u1.trans u2))
  · cases hc
/-- a slice's part -/
def pSem (X : Cx) (e : Option Expr) : TO := fun σ H Q => ∀ (pins : List (Addr × Obj)) (s : Shared), Inv X pins σ H s → wpAny (model X.prog X.w) X.A (evalPart e X.env) (fun u s' => ∃ o H', Inv X pins σ H' s' ∧ IsPart u o ∧ Q o H') X.xe s
theorem po_sem {X : Cx} {e : Option Expr} : PO X e (pSem X e) := ⟨fun pins s σ H Q I h => h pins s I⟩
def SO (T : Tab) (d : Nat) (N : List Str) (e : Eo) : Prop := ∀ (X : Cx) (sc : Scope) (ow : Str → Bool) (p : Option Expr), At T d X N sc ow → chO T.nm N e sc p = true →
  ∀ (s : Env) (st : Store) (v : Option Val) (o : Option Int) (st' : Store) (io : Nat → Addr) (H : Hp) (t : L2.St) (Q : Option Int → Hp → Prop), RS X.K T.G.kt io st.n H s t → Rl X.K T.G.kt T.ca io st H → evo (T.cx d) e s st = .ok v st' → part v = some o →
    (∀ (io' : Nat → Addr) (H' : Hp), Up io st.n H io' st'.n H' → Rl X.K T.G.kt T.ca io' st' H' → Q o H') → pSem X p t H Q
theorem so_no : SO T d N .no := by
  intro X sc ow q A hc s st v o st' io H t Q rs R e eo p
  simp only [chO] at hc
  split at hc
  · simp only [evo] at e
    cases e
    cases eo
    intro pins sh I
    exact po_none.run pins sh t H Q I (p io H (.refl _ _ _) R)
  · cases hc
theorem so_so {a : E} (ha : SE T d N a) : SO T d N (.so a) := by
  intro X sc ow q A hc s st v o st' io H t Q rs R e eo p
  simp only [chO] at hc
  split at hc
  · simp only [evo] at e
    obtain ⟨x, st1, e1, e⟩ := bind_eq_ok.mp e
    cases e
    intro pins sh I
    refine (po_some pe_sem).run pins sh t H Q I ?_
    refine ha X sc ow _ A hc s st x _ io H t _ rs R e1 fun io1 H1 w u1 R1 r1 => ?_
    cases r1 with
    | int i => cases eo; exact ⟨i, rfl, p io1 H1 u1 R1⟩
    | _ => cases eo
  · cases hc
theorem se_cut {a : E} {lo hi : Eo} (ha : SE T d N a) (hl : SO T d N lo) (hh : SO T d N hi) : SE T d N (.cut a lo hi) := by
  intro X sc ow q A hc s st v st' io H t Q rs R e p
  simp only [chE] at hc
  split at hc
  · simp only [Bool.and_eq_true] at hc
    simp only [ev] at e
    obtain ⟨x, st1, e1, e⟩ := bind_eq_ok.mp e
    obtain ⟨l, st2, e2, e⟩ := bind_eq_ok.mp e
    obtain ⟨h, st3, e3, e⟩ := bind_eq_ok.mp e
    have hp : ∃ ol oh, part l = some ol ∧ part h = some oh := by
      unfold cutV at e
      split at e
      · rename_i ol oh el eh; exact ⟨ol, oh, el, eh⟩
      · cases e
    obtain ⟨ol, oh, el, eh⟩ := hp
    intro pins sh I
    refine (pe_slice sl_sem pe_sem po_sem po_sem).run pins sh t H Q I ?_
    refine ha X sc ow _ A hc.1.1 s st x st1 io H t _ rs R e1 fun io1 H1 w u1 R1 r1 => ?_
    refine hl X sc ow _ A hc.1.2 s st1 l ol st2 io1 H1 t _ (rs.up u1) R1 e2 el fun io2 H2 u2 R2 => ?_
    refine hh X sc ow _ A hc.2 s st2 h oh st3 io2 H2 t _ (rs.up (u1.trans u2)) R2 e3 eh fun io3 H3 u3 R3 => ?_
    exact cut_ok R3 (r1.up (u2.trans u3)) el eh e (p.after ((u1.trans u2).trans u3))
  · cases hc
/-- a[lo:hi:k] of a list -/
def tStL (K : PySem.W.Frag) (k : Int) (te : TE) (tl th : L2.St → Hp → (Option Int → Hp → Prop) → Prop) : TE := fun σ H Q => te σ H fun x H1 => tl σ H1 fun lo H2 => th σ H2 fun hi H3 => ∃ a xs, x = .ref a ∧ SqL K H3 a xs ∧ (pickL xs lo hi k).length ≤ sizeLine ∧ ∀ p, H3 p = none → Q (.ref p) (upd H3 p (.lst (pickL xs lo hi k)))
theorem pick_toArray (its : List Value) (lo hi : Option Int) (k : Int) : slicePick its.toArray lo hi (some k) = (pickL its lo hi k).toArray := by
  unfold slicePick pickL
  have e : (fun i : Nat => its.toArray[i]?) = fun i => its[i]? := by funext i; simp
  rw [List.size_toArray, e]
theorem vals_pickN : ∀ (ix : List Nat) {xs : List V} {us : List Value}, Vals xs us → Vals (ix.filterMap (xs[·]?)) (ix.filterMap (us[·]?))
  | [], _, _, _ => .nil
  | i :: r, xs, us, h => by
    rw [List.filterMap_cons, List.filterMap_cons]
    cases e : xs[i]? with
    | none =>
      have : us[i]? = none := by
        rw [List.getElem?_eq_none_iff] at e ⊢
        rw [← h.length]; exact e
      rw [this]; exact vals_pickN r h
    | some x =>
      obtain ⟨u, e2, ru⟩ := h.get e
      rw [e2]; exact .cons ru (vals_pickN r h)
theorem vals_pick {xs : List V} {us : List Value} (h : Vals xs us) (lo hi : Option Int) (k : Int) : Vals (pickL xs lo hi k) (pickL us lo hi k) := by
  unfold pickL
  rw [h.length]
  exact vals_pickN _ h
theorem rvs_pickN {K : PySem.W.Frag} {kt : List (List Val)} {io : Nat → Addr} {n : Nat} {H : Hp} : ∀ (ix : List Nat) {xs : List CL.Val} {ys : List V}, RVs K kt io n H xs ys → RVs K kt io n H (ix.filterMap (xs[·]?)) (ix.filterMap (ys[·]?))
  | [], _, _, _ => .nil
  | i :: r, xs, ys, h => by
    rw [List.filterMap_cons, List.filterMap_cons]
    cases e : xs[i]? with
    | none =>
      have : ys[i]? = none := by
        rw [List.getElem?_eq_none_iff] at e ⊢
        rw [← h.length]; exact e
      rw [this]; exact rvs_pickN r h
    | some x =>
      obtain ⟨u, e2, ru⟩ := h.get e
      rw [e2]; exact .cons ru (rvs_pickN r h)
theorem rvs_pick {K : PySem.W.Frag} {kt : List (List Val)} {io : Nat → Addr} {n : Nat} {H : Hp} {xs : List CL.Val} {ys : List V} (h : RVs K kt io n H xs ys) (lo hi : Option Int) (k : Int) : RVs K kt io n H (pickL xs lo hi k) (pickL ys lo hi k) := by
  unfold pickL
  rw [h.length]
  exact rvs_pickN _ h
theorem pe_stepL {X : Cx} {e : Expr} {lo hi : Option Expr} {st : Expr} {k : Int} {te : TE} {tl th : L2.St → Hp → (Option Int → Hp → Prop) → Prop} {p3 pos : Pos} (he : PE X e te) (hl : PO X lo tl) (hh : PO X hi th)
    (hk : k ≠ 0) (hst : ∀ (pins : List (Addr × Obj)) (s : Shared) (σ : L2.St) (H : Hp), Inv X pins σ H s → wpAny (model X.prog X.w) X.A (eval st X.env) (fun v s' => Inv X pins σ H s' ∧ IsPart v (some k)) X.xe s)
    (htl : ∀ (a b : Addr), subscripted (.Slice lo hi (some st) p3) false (.ref a) (.ref b) = operate [.ref a, .ref b] (getItem (.ref a) (.ref b))) :
    PE X (.Subscript e (.Slice lo hi (some st) p3) pos) (tStL X.K k te tl th) := by
  refine ⟨fun pins s σ H Q I h => ?_⟩
  refine Subscript_ (thn (he.run pins s σ H _ I h) fun v s1 ⟨x, H1, I1, r1, q1⟩ => ?_)
  refine wpAny_Slice (thn (hl.run pins s1 σ H1 _ I1 q1) fun vl s2 ⟨l, H2, I2, pl, q2⟩ => ?_)
  refine thn (hh.run pins s2 σ H2 _ I2 q2) fun vu s3 ⟨u, H3, I3, pu, a, xs, ex, hx, hz3, q⟩ => ?_
  subst ex
  cases r1
  refine thn (hst pins s3 σ H3 I3) fun vs s4 ⟨I4, ps⟩ => ?_
  have I5 : Inv X pins σ H3 { s4 with heap := s4.heap.push { cls := .type "slice", data := .fields #[vl, vu, vs] } } := I4.kept (t' := s4.toks) fun b ob q => Heap.get?_push_of_some _ q
  obtain ⟨its, r, ht, hz⟩ := I5.list hx
  have hlen := r.length
  show wpAny (model X.prog X.w) X.A (subscriptTail e (.Slice lo hi (some st) p3) (.ref a) (.ref s4.heap.objs.size)) (EP X pins σ Q) X.xe { s4 with heap := s4.heap.push { cls := .type "slice", data := .fields #[vl, vu, vs] } }
  refine tail_any (ops := [.ref a, .ref s4.heap.objs.size]) ht.isList.typeIs (PySem.slot_list_getitem.lookup) ?_ (htl _ _)
  refine wpAny_getItem_list_slice ht.isList (Heap.IsSliceOf.new _ vl vu vs) pl pu ps (fun z => hk (Option.some.inj z)) ?_ (by rw [List.size_toArray]; omega)
  rw [pick_toArray]
  refine ⟨.ref _, _, I5.laid (t' := s4.toks) (o := .lst (pickL xs l u k)) (fun b ob q => Heap.get?_push_of_some _ q) (Nat.le_refl _) ?_, rfl, q _ (I5.hok.fresh (Nat.le_refl _))⟩
  exact ⟨hz3, _, 0, vals_pick r l u k, Heap.get?_push_size _ rfl⟩
theorem part_int {X : Cx} {j : Int} {m : Nat} {p : Pos} (pins : List (Addr × Obj)) (s : Shared) (σ : L2.St) (H : Hp) (I : Inv X pins σ H s) : wpAny (model X.prog X.w) X.A (eval (.Constant (.int j) m p) X.env) (fun v s' => Inv X pins σ H s' ∧ IsPart v (some j)) X.xe s := by
  have hst : PO X (some (.Constant (.int j) m p)) (tPart (tC (.int j))) := po_some pe_int
  refine thn (hst.run pins s σ H (fun o H4 => o = some j ∧ H4 = H) I ⟨_, rfl, rfl, rfl⟩) fun vs s4 ⟨o, H4, I4, ps, eo, e4⟩ => ?_
  subst eo e4
  exact ⟨I4, ps⟩
theorem part_neg {X : Cx} {j : Int} {m : Nat} {p p2 : Pos} (pins : List (Addr × Obj)) (s : Shared) (σ : L2.St) (H : Hp) (I : Inv X pins σ H s) : wpAny (model X.prog X.w) X.A (eval (.UnaryOp .USub (.Constant (.int j) m p) p2) X.env) (fun v s' => Inv X pins σ H s' ∧ IsPart v (some (-j))) X.xe s := by
  have hst : PO X (some (.UnaryOp .USub (.Constant (.int j) m p) p2)) (tPart (tUn (rU fun i => .int (-i)) (tC (.int j)))) := po_some (pe_un un_neg pe_int)
  refine thn (hst.run pins s σ H (fun o H4 => o = some (-j) ∧ H4 = H) I ⟨j, rfl, -j, rfl, rfl, rfl⟩) fun vs s4 ⟨o, H4, I4, ps, eo, e4⟩ => ?_
  subst eo e4
  exact ⟨I4, ps⟩
theorem se_cut3 {a : E} {lo hi : Eo} {k : Int} (ha : SE T d N a) (hl : SO T d N lo) (hh : SO T d N hi) : SE T d N (.cut3 a lo hi k) := by
  intro X sc ow q A hc s st v st' io H t Q rs R e p
  simp only [chE] at hc
  simp only [ev] at e
  obtain ⟨x, st1, e1, e⟩ := bind_eq_ok.mp e
  obtain ⟨l, st2, e2, e⟩ := bind_eq_ok.mp e
  obtain ⟨h, st3, e3, e⟩ := bind_eq_ok.mp e
  have hp : ∃ ol oh, part l = some ol ∧ part h = some oh := by
    unfold cut3V at e
    split at e
    · rename_i ol oh el eh; exact ⟨ol, oh, el, eh⟩
    · cases e
  obtain ⟨ol, oh, el, eh⟩ := hp
  have fin : ∀ (io3 : Nat → Addr) (H3 : Hp) (w : V), Up io st.n H io3 st3.n H3 → Rl X.K T.G.kt T.ca io3 st3 H3 → RV X.K T.G.kt io3 st3.n H3 x w →
      ∃ a xs, w = .ref a ∧ SqL X.K H3 a xs ∧ (pickL xs ol oh k).length ≤ sizeLine ∧ ∀ p, H3 p = none → Q (.ref p) (upd H3 p (.lst (pickL xs ol oh k))) := by
    intro io3 H3 w u3 R3 r3
    unfold cut3V at e
    rw [el, eh] at e
    simp only at e
    split at e
    · split at e
      · rename_i xs em
        split at e
        · rename_i hf
          cases e
          obtain ⟨rfl, hi'⟩ := r3.iref
          obtain ⟨ys, sl, rs3, _⟩ := R3.list em
          have rp := rvs_pick rs3 ol oh k
          exact ⟨_, ys, rfl, sl, by rw [← rp.length]; exact fits_le hf.2, fun q hq => (p.after u3).list R3 rp q hq⟩
        · cases e
      · cases e
    · cases e
  split at hc
  · simp only [Bool.and_eq_true, decide_eq_true_eq] at hc
    obtain ⟨⟨⟨⟨rfl, hk⟩, c1⟩, c2⟩, c3⟩ := hc
    intro pins sh I
    refine (pe_stepL pe_sem po_sem po_sem hk part_int (fun _ _ => by with_unfolding_all rfl)).run pins sh t H Q I ?_
    refine ha X sc ow _ A c1 s st x st1 io H t _ rs R e1 fun io1 H1 w u1 R1 r1 => ?_
    refine hl X sc ow _ A c2 s st1 l ol st2 io1 H1 t _ (rs.up u1) R1 e2 el fun io2 H2 u2 R2 => ?_
    refine hh X sc ow _ A c3 s st2 h oh st3 io2 H2 t _ (rs.up (u1.trans u2)) R2 e3 eh fun io3 H3 u3 R3 => ?_
    exact fin io3 H3 w ((u1.trans u2).trans u3) R3 (r1.up (u2.trans u3))
  · simp only [Bool.and_eq_true, decide_eq_true_eq] at hc
    obtain ⟨⟨⟨⟨rfl, hk⟩, c1⟩, c2⟩, c3⟩ := hc
    intro pins sh I
    refine (pe_stepL pe_sem po_sem po_sem hk part_neg (fun _ _ => by with_unfolding_all rfl)).run pins sh t H Q I ?_
    refine ha X sc ow _ A c1 s st x st1 io H t _ rs R e1 fun io1 H1 w u1 R1 r1 => ?_
    refine hl X sc ow _ A c2 s st1 l ol st2 io1 H1 t _ (rs.up u1) R1 e2 el fun io2 H2 u2 R2 => ?_
    refine hh X sc ow _ A c3 s st2 h oh st3 io2 H2 t _ (rs.up (u1.trans u2)) R2 e3 eh fun io3 H3 u3 R3 => ?_
    exact fin io3 H3 w ((u1.trans u2).trans u3) R3 (r1.up (u2.trans u3))
  · cases hc
theorem se_fld {a : E} {f : Str} (ha : SE T d N a) : SE T d N (.fld a f) := by
  intro X sc ow q A hc s st v st' io H t Q rs R e p
  simp only [chE] at hc
  split at hc
  · simp only [Bool.and_eq_true, decide_eq_true_eq] at hc
    obtain ⟨⟨rfl, c1⟩, c2⟩ := hc
    simp only [ev] at e
    obtain ⟨x, st1, e1, e⟩ := bind_eq_ok.mp e
    intro pins sh I
    refine (pe_fld pe_sem (base_of c2 _)).run pins sh t H Q I ?_
    refine ha X sc ow _ A c1 s st x st1 io H t _ rs R e1 fun io1 H1 w u1 R1 r1 => ?_
    unfold getF at e
    split at e
    · obtain ⟨rfl, hi⟩ := r1.iref
      split at e
      · rename_i c fs em
        split at e
        · rename_i hf
          split at e
          · rename_i u el
            cases e
            obtain ⟨_, _, dx, gs, h1, rk⟩ := R1.inst em
            obtain ⟨cl, na⟩ := A.top.fl c f hf
            rcases rk.lookup f with ⟨e2, _⟩ | ⟨v', w', e2, e3, rv⟩
            · rw [el] at e2; cases e2
            · rw [el] at e2; cases e2
              exact ⟨_, _, dx, gs, w', rfl, h1, cl, na, e3, (p.after u1).here R1 rv⟩
          · cases e
        · cases e
      · cases e
    · cases e
  · cases hc
/-- a call of a def of the table -/
theorem sp_call {X : Cx} {f : Nat} {io : Nat → Addr} {st st' : Store} {H : Hp} {vs : List Val} {ws : List V} {v : Val} {Q : VK} {E : XK} {d' : Nat} {fd : FDef} (tp : Top T X.K X.mg) (hf : T.G.fn f = some fd)
    (R : Rl X.K T.G.kt T.ca io st H) (r : RVs X.K T.G.kt io st.n H vs ws) (e : callN T.G T.fuel d' f vs st = .ok v st') (p : Post X.K T.G.kt T.ca io st H v st' Q) :
    spF X.K T (callN T.G T.fuel d' f) (T.psn f).length ws H Q E := by
  refine ⟨?_, io, st, vs, v, st', R, r, e, p⟩
  cases d' with
  | zero => cases e
  | succ d' =>
    rw [callN_succ, hf] at e
    simp only at e
    unfold runF at e
    split at e
    · rename_i h; rw [← r.length, h]; exact (tp.fn f fd hf).2.1.symm
    · cases e
theorem call_fn {f : Nat} {vs : List Val} {st st' : Store} {v : Val} {d' : Nat} (e : callN T.G T.fuel d' f vs st = .ok v st') : ∃ fd, T.G.fn f = some fd := by
  cases d' with
  | zero => cases e
  | succ d' =>
    rw [callN_succ] at e
    split at e
    · rename_i fd h; exact ⟨fd, h⟩
    · cases e
theorem se_call {f : Nat} {es : Es} (hs : SA T d N es) : SE T d N (.call f es) := by
  intro X sc ow q A hc s st v st' io H t Q rs R e p
  simp only [chE] at hc
  split at hc
  · rename_i x p1 ps pos
    simp only [Bool.and_eq_true] at hc
    obtain ⟨⟨c1, c2⟩, c3⟩ := hc
    simp only [ev] at e
    obtain ⟨vs, st1, e1, e⟩ := bind_eq_ok.mp e
    have e : callN T.G T.fuel d f vs st1 = .ok v st' := e
    obtain ⟨fd, hf⟩ := call_fn e
    obtain ⟨hb, hl, hg⟩ := A.top.fn f fd hf
    obtain ⟨hm, hk⟩ := hg c2
    obtain ⟨rfl, _, hd⟩ := gB_ok c1
    have F := A.fns d (Nat.le_refl _) f fd hf
    have st_ := chEs_star c3
    intro pins sh I
    have read := hs X sc ow ps A c3 s st vs st1 io H t (fun ws H1 => spF X.K T (callN T.G T.fuel d f) (T.psn f).length (ws ++ []) H1 Q E0) rs R e1 fun io1 H1 ws u1 R1 r1 => by
      simp only [List.append_nil]
      exact sp_call A.top hf R1 r1 e (p.after u1)
    cases ps with
    | nil =>
      have r2 := read pos pins sh I
      refine (pe_call0 F A.room (A.gl c1) hm hk hb .nil pass0 hd).run pins sh t H Q I ?_
      cases es with
      | nil =>
        simp only [evs] at e1
        cases e1
        show spF _ _ _ _ ([] ++ []) H Q E0
        exact sp_call A.top hf R .nil e p
      | cons a b => simp [chEs] at c3
    | cons p2 ps =>
      rw [List.all_cons, Bool.and_eq_true] at st_
      exact (pe_call F A.room (A.gl c1) hm hk hb .nil pass0 pa_sem hd (star_cons st_.1) (star_any st_.2)).run pins sh t H Q I read
  · cases hc
theorem se_make {c : Nat} {es : Es} (hs : SA T d N es) : SE T d N (.make c es) := by
  intro X sc ow q A hc s st v st' io H t Q rs R e p
  simp only [chE] at hc
  split at hc
  · rename_i x p1 ps pos
    simp only [Bool.and_eq_true] at hc
    obtain ⟨c1, c3⟩ := hc
    simp only [ev] at e
    obtain ⟨vs, st1, e1, e⟩ := bind_eq_ok.mp e
    split at e
    · rename_i f hi
      obtain ⟨u, st2, e2, e⟩ := bind_eq_ok.mp e
      split at e
      · cases e
        cases d with
        | zero => cases e2
        | succ d =>
          have e2 : callN T.G T.fuel d f (.ref st1.n :: vs) (st1.new (.ins c [])) = .ok .non st' := e2
          have hi : T.G.ini c = some f := hi
          obtain ⟨hm, M, fd, hf⟩ := A.top.ini c f hi
          obtain ⟨hb, hl, _⟩ := A.top.fn f fd hf
          obtain ⟨rfl, _, hd⟩ := gB_ok c1
          have F := A.fns d (Nat.le_succ _) f fd hf
          have st_ := chEs_star c3
          have made : ∀ (io1 : Nat → Addr) (H1 : Hp) (ws : List V), Up io st.n H io1 st1.n H1 → Rl X.K T.G.kt T.ca io1 st1 H1 → RVs X.K T.G.kt io1 st1.n H1 vs ws → ∀ a dx, H1 a = none → H1 dx = none → dx ≠ a →
              spF X.K T (callN T.G T.fuel d f) (T.psn f).length (.ref a :: (ws ++ [])) (upd (upd H1 dx (.own a)) a (.ins (T.ca c) dx [])) (fun v H2 => v = .non ∧ Q (.ref a) H2) E0 := by
            intro io1 H1 ws u1 R1 r1 a dx ha hdx hne
            rw [List.append_nil]
            -- the dict's own place is laid first: nothing of the store
            have uo : Up io1 st1.n H1 io1 st1.n (upd H1 dx (.own a)) := ⟨Nat.le_refl _, fun _ _ => rfl, .new _ hdx⟩
            have Ro : Rl X.K T.G.kt T.ca io1 st1 (upd H1 dx (.own a)) := ⟨fun i hi => by
              obtain ⟨o, eo, ro⟩ := R1.ob i hi
              refine ⟨o, eo, ro.up uo fun hr => ?_⟩
              rw [hr] at ro
              obtain ⟨y, ey, _⟩ := ro.mutO
              exact upd_ne (ne_of_none ey hdx), R1.no, R1.inj⟩
            have ha' : upd H1 dx (.own a) a = none := by rw [upd_ne (Ne.symm hne)]; exact ha
            have un := Up.new (io := io1) (st := st1) (.ins (T.ca c) dx []) ha'
            have Rn := Ro.new (o := .ins c []) (u := .ins (T.ca c) dx []) ha' (.ins upd_same .nil)
            refine sp_call A.top hf Rn ?_ e2 fun io2 H2 w u2 R2 r2 => ?_
            · refine .cons ?_ (r1.up (uo.trans un))
              have h : RV X.K T.G.kt (ioNew io1 st1.n a) (st1.n + 1) (upd (upd H1 dx (.own a)) a (.ins (T.ca c) dx [])) (.ref st1.n) (.ref (ioNew io1 st1.n a st1.n)) := .ref (Nat.lt_succ_self _)
              rw [ioNew_at] at h; exact h
            · obtain rfl := r2.inon
              refine ⟨rfl, p io2 H2 _ ((u1.trans (uo.trans un)).trans u2) R2 ?_⟩
              have h : RV X.K T.G.kt io2 st'.n H2 (.ref st1.n) (.ref (io2 st1.n)) := .ref (Nat.lt_of_lt_of_le (Nat.lt_succ_self _) u2.le)
              rw [u2.io _ (Nat.lt_succ_self _), ioNew_at] at h; exact h
          intro pins sh I
          have read := hs X sc ow ps A c3 s st vs st1 io H t (fun ws H1 => ∀ a dx, H1 a = none → H1 dx = none → dx ≠ a →
              spF X.K T (callN T.G T.fuel d f) (T.psn f).length (.ref a :: (ws ++ [])) (upd (upd H1 dx (.own a)) a (.ins (T.ca c) dx [])) (fun v H2 => v = .non ∧ Q (.ref a) H2) E0) rs R e1 made
          cases ps with
          | nil =>
            refine (pe_make0 M F A.room (A.gl c1) hm hb .nil pass0 hd).run pins sh t H Q I ?_
            cases es with
            | nil =>
              simp only [evs] at e1
              cases e1
              exact made io H [] (.refl _ _ _) R .nil
            | cons a b => simp [chEs] at c3
          | cons p2 ps =>
            rw [List.all_cons, Bool.and_eq_true] at st_
            exact (pe_make M F A.room (A.gl c1) hm hb .nil pass0 pa_sem hd (star_cons st_.1) (star_any st_.2)).run pins sh t H Q I read
      · cases e
    · cases e
  · cases hc
end
end CL

/-! CL, part h: methods, built-ins, dict displays, tests -/
namespace CL
open PySem PySem.Spec PyProof.Rows L2
section
variable {T : Tab} {d : Nat} {N : List Str}
theorem se_met {a : E} {m : Str} {es : Es} (ha : SE T d N a) (hs : SA T d N es) : SE T d N (.met a m es) := by
  intro X sc ow q A hc s st v st' io H t Q rs R e p
  simp only [chE] at hc
  split at hc
  · rename_i q1 g ap ps pos
    simp only [Bool.and_eq_true, decide_eq_true_eq] at hc
    obtain ⟨⟨⟨⟨⟨rfl, c1⟩, c2⟩, c3⟩, c4⟩, c5⟩ := hc
    simp only [ev] at e
    obtain ⟨x, st1, e1, e⟩ := bind_eq_ok.mp e
    split at e
    · rename_i i
      split at e
      · rename_i k fs em
        split at e
        · rename_i hl
          split at e
          · rename_i f hm
            obtain ⟨vs, st2, e2, e⟩ := bind_eq_ok.mp e
            have e : callN T.G T.fuel d f (.ref i :: vs) st2 = .ok v st' := e
            have hm : T.G.mt k m = some f := hm
            obtain ⟨cl, mm, fd, hf⟩ := A.top.mt k m f hm
            obtain ⟨hb, _, _⟩ := A.top.fn f fd hf
            have F := A.fns d (Nat.le_refl _) f fd hf
            have st_ := chEs_star c5
            have he := meth_eval (o := q1) (m := m) (apos := ap) (pos := pos) (es := ps) (env := X.env) c2 st_ c3 (by omega)
            have fin : ∀ (io1 : Nat → Addr) (H1 : Hp) (w : V), Up io st.n H io1 st1.n H1 → Rl X.K T.G.kt T.ca io1 st1 H1 → RV X.K T.G.kt io1 st1.n H1 (.ref i) w → ∃ b dx gs, w = .ref b ∧ H1 b = some (.ins (T.ca k) dx gs) ∧ gs.lookup m = none ∧
                aSem X ps t H1 fun ws H2 => spF X.K T (callN T.G T.fuel d f) (T.psn f).length (w :: (ws ++ [])) H2 Q E0 := by
              intro io1 H1 w u1 R1 r1
              obtain ⟨rfl, hi⟩ := r1.iref
              obtain ⟨_, _, dx, gs, h1, rk⟩ := R1.inst em
              have hg : gs.lookup m = none := by
                rcases rk.lookup m with ⟨_, z⟩ | ⟨v', w', z, _, _⟩
                · exact z
                · rw [hl] at z; cases z
              refine ⟨_, dx, gs, rfl, h1, hg, ?_⟩
              refine hs X sc ow ps A c5 s st1 vs st2 io1 H1 t _ (rs.up u1) R1 e2 fun io2 H2 ws u2 R2 r2 => ?_
              simp only [List.append_nil]
              exact sp_call A.top hf R2 (.cons (r1.up u2) r2) e (p.after (u1.trans u2))
            intro pins sh I
            cases ps with
            | nil =>
              refine (pe_meth0 (pl := do return (← importBound q1 X.env).getD true) pe_sem cl mm F A.room hb .nil pass0 he).run pins sh t H Q I ?_
              refine ha X sc ow q1 A c1 s st _ st1 io H t _ rs R e1 fun io1 H1 w u1 R1 r1 => ?_
              obtain ⟨b, dx, gs, rfl, h1, h2, h3⟩ := fin io1 H1 w u1 R1 r1
              refine ⟨b, dx, gs, rfl, h1, h2, ?_⟩
              cases es with
              | nil =>
                simp only [evs] at e2
                cases e2
                show spF _ _ _ _ (.ref b :: ([] ++ [])) H1 Q E0
                exact sp_call A.top hf R1 (.cons r1 .nil) e (p.after u1)
              | cons a b => simp [chEs] at c5
            | cons p2 ps =>
              rw [List.all_cons, Bool.and_eq_true] at st_
              refine (pe_meth (pl := do return (← importBound q1 X.env).getD true) pe_sem cl mm F A.room hb .nil pass0 pa_sem (star_cons st_.1) (star_any st_.2) he).run pins sh t H Q I ?_
              exact ha X sc ow q1 A c1 s st _ st1 io H t _ rs R e1 fun io1 H1 w u1 R1 r1 => fin io1 H1 w u1 R1 r1
          · cases e
        · cases e
      · cases e
    · cases e
  · cases hc
theorem bm_slot (b : Bm) : Slot "list" (bmName b) (bmId b) ∧ typeOf (.builtin (bmId b)) = pure (.type "method_descriptor") := by
  cases b
  · exact ⟨PySem.F.slot_list_append, PySem.F.type_list_append⟩
  · exact ⟨PySem.F.slot_list_pop, PySem.F.type_list_pop⟩
  · exact ⟨PySem.F.slot_list_count, PySem.F.type_list_count⟩
  · exact ⟨PySem.F.slot_list_index, PySem.F.type_list_index⟩
  · exact ⟨PySem.F.slot_list_extend, PySem.F.type_list_extend⟩
theorem se_bm {b : Bm} {a : E} {es : Es} (ha : SE T d N a) (hs : SA T d N es) : SE T d N (.bm b a es) := by
  intro X sc ow q A hc s st v st' io H t Q rs R e p
  simp only [chE] at hc
  split at hc
  · rename_i q1 g ap ps pos
    simp only [Bool.and_eq_true, decide_eq_true_eq] at hc
    obtain ⟨⟨⟨⟨⟨rfl, c1⟩, c2⟩, c3⟩, c4⟩, c5⟩ := hc
    simp only [ev] at e
    obtain ⟨x, st1, e1, e⟩ := bind_eq_ok.mp e
    split at e
    · rename_i i
      split at e
      · rename_i xs em
        obtain ⟨vs, st2, e2, e⟩ := bind_eq_ok.mp e
        obtain ⟨sl, ty⟩ := bm_slot b
        have st_ := chEs_star c5
        intro pins sh I
        have ty1 : ∀ (io1 : Nat → Addr) (H1 : Hp) (w : V), Rl X.K T.G.kt T.ca io1 st1 H1 → RV X.K T.G.kt io1 st1.n H1 (.ref i) w → tyV X.K "list" w H1 := by
          intro io1 H1 w R1 r1
          obtain ⟨rfl, hi⟩ := r1.iref
          obtain ⟨ys, s1, _, _⟩ := R1.list em
          exact .inl ⟨rfl, ys, s1⟩
        cases ps with
        | nil =>
          refine (pe_bm0 PySem.F.plainAttrs_list sl ty mt_sem pe_sem (base_of c2 _) c3).run pins sh t H Q I ?_
          refine ha X sc ow q1 A c1 s st _ st1 io H t _ rs R e1 fun io1 H1 w u1 R1 r1 => ⟨ty1 io1 H1 w R1 r1, ?_⟩
          cases es with
          | nil =>
            simp only [evs] at e2
            cases e2
            exact bm_ok A.hu R1 r1 .nil e (p.after u1)
          | cons a b => simp [chEs] at c5
        | cons p2 ps =>
          have st2_ := st_
          rw [List.all_cons, Bool.and_eq_true] at st2_
          refine (pe_bm PySem.F.plainAttrs_list sl ty mt_sem pe_sem pa_sem (base_of c2 _) ?_ c3 (star_cons st2_.1) (star_any st2_.2)).run pins sh t H Q I ?_
          · rw [(star_map st_).1, (star_map (pos := pos) st_).2.2]
            show (true && true && decide ((p2 :: ps).length + 0 + 0 < 30)) = true
            simp only [Bool.true_and, decide_eq_true_eq]; omega
          · refine ha X sc ow q1 A c1 s st _ st1 io H t _ rs R e1 fun io1 H1 w u1 R1 r1 => ⟨ty1 io1 H1 w R1 r1, ?_⟩
            refine hs X sc ow _ A c5 s st1 vs st2 io1 H1 t _ (rs.up u1) R1 e2 fun io2 H2 ws u2 R2 r2 => ?_
            exact bm_ok A.hu R2 (r1.up u2) r2 e (p.after (u1.trans u2))
      · cases e
    · cases e
  · cases hc
theorem strs_ok {K : PySem.W.Frag} {kt : List (List Val)} {io : Nat → Addr} {n : Nat} {H : Hp} : ∀ {xs : List Val} {ys : List V} {ws : List Str}, RVs K kt io n H xs ys → strsO xs = some ws → ys = ws.map V.str
  | [], _, ws, .nil, e => by cases e; rfl
  | x :: xs, _, ws, .cons r rs, e => by
    cases x with
    | str z =>
      simp only [strsO] at e
      split at e
      · rename_i us eu
        cases e
        obtain rfl := r.istr
        rw [strs_ok rs eu]; rfl
      · cases e
    | _ => simp [strsO] at e
theorem strs_rvs {K : PySem.W.Frag} {kt : List (List Val)} {io : Nat → Addr} {n : Nat} {H : Hp} : ∀ ws : List Str, RVs K kt io n H (ws.map .str) (ws.map V.str)
  | [] => .nil
  | w :: r => .cons (.str w) (strs_rvs r)
theorem se_sm {m : Sm} {a e0 : E} (ha : SE T d N a) (he : SE T d N e0) : SE T d N (.sm m a e0) := by
  intro X sc ow q A hc s st v st' io H t Q rs R e p
  simp only [chE] at hc
  split at hc
  · rename_i q1 g ap r1 pos
    simp only [Bool.and_eq_true, decide_eq_true_eq] at hc
    obtain ⟨⟨⟨⟨⟨rfl, c1⟩, c2⟩, c3⟩, c4⟩, c5⟩ := hc
    simp only [ev] at e
    obtain ⟨x, st1, e1, e⟩ := bind_eq_ok.mp e
    split at e
    · rename_i z
      obtain ⟨y, st2, e2, e⟩ := bind_eq_ok.mp e
      have star : starEach [r1] X.env = [(false, eval r1 X.env)] := by rw [star_cons c5]; rfl
      intro pins sh I
      cases m with
      | join =>
        simp only [smt, smJoin] at e
        split at e
        · rename_i i
          split at e
          · rename_i ys em
            split at e
            · rename_i ws ew
              split at e
              · rename_i hz
                cases e
                refine (pe_m1 PySem.F.slot_str_join PySem.F.type_str_join mt_join pe_sem pe_sem star (base_of c2 _) c3).run pins sh t H Q I ?_
                refine ha X sc ow q1 A c1 s st _ st1 io H t _ rs R e1 fun io1 H1 w u1 R1 r1 => ?_
                obtain rfl := r1.istr
                refine ⟨⟨_, rfl⟩, ?_⟩
                refine he X sc ow _ A c4 s st1 _ _ io1 H1 t _ (rs.up u1) R1 e2 fun io2 H2 w2 u2 R2 r2 => ?_
                obtain ⟨rfl, hi⟩ := r2.iref
                obtain ⟨zs, sl, rz, _⟩ := R2.list em
                have := strs_ok rz ew
                subst this
                exact ⟨_, _, ws, rfl, rfl, .inl sl, hz, (p.after (u1.trans u2)).here R2 (.str _)⟩
              · cases e
            · cases e
          · cases e
        · cases e
      | split =>
        simp only [smt, smSplit] at e
        split at e
        · rename_i w
          split at e
          · rename_i hz
            refine (pe_m1 PySem.F.slot_str_split PySem.F.type_str_split mt_split pe_sem pe_sem star (base_of c2 _) c3).run pins sh t H Q I ?_
            refine ha X sc ow q1 A c1 s st _ st1 io H t _ rs R e1 fun io1 H1 w1 u1 R1 r1 => ?_
            obtain rfl := r1.istr
            refine ⟨⟨_, rfl⟩, ?_⟩
            refine he X sc ow _ A c4 s st1 _ _ io1 H1 t _ (rs.up u1) R1 e2 fun io2 H2 w2 u2 R2 r2 => ?_
            obtain rfl := r2.istr
            cases e
            exact ⟨_, _, rfl, rfl, hz.1, hz.2, fun q hq => (p.after (u1.trans u2)).list R2 (strs_rvs _) q hq⟩
          · cases e
        · cases e
      | starts =>
        simp only [smt, smStarts] at e
        split at e
        · rename_i w
          cases e
          refine (pe_m1 PySem.F.slot_str_startswith PySem.F.type_str_startswith mt_startswith pe_sem pe_sem star (base_of c2 _) c3).run pins sh t H Q I ?_
          refine ha X sc ow q1 A c1 s st _ st1 io H t _ rs R e1 fun io1 H1 w1 u1 R1 r1 => ?_
          obtain rfl := r1.istr
          refine ⟨⟨_, rfl⟩, ?_⟩
          refine he X sc ow _ A c4 s st1 _ _ io1 H1 t _ (rs.up u1) R1 e2 fun io2 H2 w2 u2 R2 r2 => ?_
          obtain rfl := r2.istr
          exact ⟨_, _, rfl, rfl, (p.after (u1.trans u2)).here R2 (.bl _)⟩
        · cases e
    · cases e
  · cases hc
theorem se_get2 {a k f : E} (ha : SE T d N a) (hk : SE T d N k) (hf : SE T d N f) : SE T d N (.get2 a k f) := by
  intro X sc ow q A hc s st v st' io H t Q rs R e p
  simp only [chE] at hc
  split at hc
  · rename_i q1 g ap p1 p2 pos
    simp only [Bool.and_eq_true, decide_eq_true_eq] at hc
    obtain ⟨⟨⟨⟨⟨⟨⟨rfl, c1⟩, c2⟩, c3⟩, c4⟩, c5⟩, c6⟩, c7⟩ := hc
    simp only [ev] at e
    obtain ⟨x, st1, e1, e⟩ := bind_eq_ok.mp e
    split at e
    · rename_i i
      split at e
      · rename_i kvs em
        obtain ⟨y, st2, e2, e⟩ := bind_eq_ok.mp e
        obtain ⟨z, st3, e3, e⟩ := bind_eq_ok.mp e
        split at e
        · rename_i o ed
          cases e
          have sa : ([p1, p2] : List Expr).all nostar = true := by rw [List.all_cons, c5, List.all_cons, c7]; rfl
          have hu := A.hu
          intro pins sh I
          refine (pe_dget2 (by omega) pe_sem pe_sem pe_sem ⟨base_of c2 _, ?_, c3, ?_⟩).run pins sh t H Q I ?_
          · rw [(star_map sa).1, (star_map (pos := pos) sa).2.2]; rfl
          · rw [(star_map sa).1, star_cons c5, star_cons c7]; rfl
          · refine ha X sc ow q1 A c1 s st _ st1 io H t _ rs R e1 fun io1 H1 w u1 R1 r1 => ?_
            obtain ⟨rfl, hi⟩ := r1.iref
            obtain ⟨kws, rd, _, _⟩ := R1.dictK em
            refine ⟨_, rfl, .inl ⟨kws, rd⟩, ?_⟩
            refine hk X sc ow p1 A c4 s st1 y st2 io1 H1 t _ (rs.up u1) R1 e2 fun io2 H2 w2 u2 R2 r2 => ?_
            refine hf X sc ow p2 A c6 s st2 z _ io2 H2 t _ (rs.up (u1.trans u2)) R2 e3 fun io3 H3 w3 u3 R3 r3 => ?_
            obtain ⟨rw', g, rr⟩ := dget_ok R3 rfl (r2.up u3) ed
            obtain ⟨eq, _⟩ := (r1.up (u2.trans u3)).iref
            injection eq with eq
            rw [← eq] at g
            refine ⟨rw', g, ?_⟩
            refine p io3 H3 _ (u1.trans (u2.trans u3)) R3 ?_
            cases o with
            | none => cases rw' with
              | none => exact r3
              | some _ => cases rr
            | some v1 => cases rw' with
              | none => cases rr
              | some _ => exact rr
        · cases e
      · cases e
    · cases e
  · cases hc
theorem bf_some {b : Bf} {st st' : Store} {v : Val} (e : bfn b [] st = .ok v st') : False := by
  unfold bfn at e
  cases b <;> cases e
theorem bf_boot (b : Bf) : bootBuiltins (bfName b) = some (bfVal b) ∧ bfName b ≠ "__name__" := by
  cases b <;> exact ⟨by decide +kernel, by decide⟩
theorem bf_val (b : Bf) : (∃ id, bfVal b = .builtin id) ∨ ∃ n, bfVal b = .type n := by cases b <;> first | exact .inl ⟨_, rfl⟩ | exact .inr ⟨_, rfl⟩
theorem se_bf {b : Bf} {es : Es} (hs : SA T d N es) : SE T d N (.bf b es) := by
  intro X sc ow q A hc s st v st' io H t Q rs R e p
  simp only [chE] at hc
  split at hc
  · rename_i x p1 ps pos
    rw [Bool.and_eq_true] at hc
    obtain ⟨c1, c2⟩ := hc
    simp only [ev] at e
    obtain ⟨vs, st1, e1, e⟩ := bind_eq_ok.mp e
    obtain ⟨rfl, _, hd⟩ := gB_ok c1
    have st_ := chEs_star c2
    obtain ⟨b1, b2⟩ := bf_boot b
    have read := hs X sc ow ps A c2 s st vs st1 io H t (fun ws H1 => cSem X (bfVal b) ws H1 Q) rs R e1 fun io1 H1 ws u1 R1 r1 => bf_ok A.calm R1 r1 e (p.after u1)
    cases ps with
    | nil =>
      cases es with
      | nil =>
        simp only [evs] at e1
        cases e1
        exact (bf_some e).elim
      | cons a b => simp [chEs] at c2
    | cons p2 ps =>
      rw [List.all_cons, Bool.and_eq_true] at st_
      intro pins sh I
      rcases bf_val b with ⟨id, hv⟩ | ⟨n, hv⟩
      · rw [hv] at b1 read
        exact (pe_callB call_sem (A.gl c1) (A.top.bf b) b1 pa_sem b2 hd (star_cons st_.1) (star_any st_.2)).run pins sh t H Q I read
      · rw [hv] at b1 read
        exact (pe_callTy call_sem (A.gl c1) (A.top.bf b) b1 pa_sem b2 hd (star_cons st_.1) (star_any st_.2)).run pins sh t H Q I read
  · cases hc
theorem ty_boot (t : Ty) (h : tyB t = true) : bootBuiltins (Str.ofString (tyName t)) = some (.type (tyName t)) ∧ (Str.ofString (tyName t)) ≠ "__name__" := by
  cases t <;> first | exact ⟨by decide +kernel, by decide⟩ | cases h
theorem se_isi {a : E} {y : Ty} (ha : SE T d N a) : SE T d N (.isi a y) := by
  intro X sc ow q A hc s st v st' io H t Q rs R e p
  simp only [chE] at hc
  split at hc
  · rename_i x p1 q1 z p2 pos
    simp only [Bool.and_eq_true] at hc
    obtain ⟨⟨⟨⟨c1, c2⟩, c3⟩, c4⟩, c5⟩ := hc
    simp only [ev] at e
    obtain ⟨u, st1, e1, e⟩ := bind_eq_ok.mp e
    obtain ⟨k, e2, rfl, rfl⟩ := okB_inv e
    obtain ⟨rfl, _, hd⟩ := gB_ok c1
    obtain ⟨rfl, _, hd2⟩ := gB_ok c2
    obtain ⟨b1, b2⟩ := ty_boot y c3
    intro pins sh I
    refine (pe_callB (x := "isinstance") (id := "isinstance") call_sem (A.gl c1) A.top.isi (by decide +kernel) (pa_cons pe_sem (pa_cons (pe_bltn (A.gl c2) (A.top.ty y c3) b1 (v := .ty (tyName y)) rfl b2 hd2) pa_nil (by rfl)) (star_cons c5)) (by decide) hd (star_cons c5) (by rfl)).run pins sh t H Q I ?_
    refine ha X sc ow q1 A c4 s st u _ io H t _ rs R e1 fun io1 H1 w u1 R1 r1 => ?_
    refine isi_ok R1 r1 ?_ e2 ((p.after u1).here R1 (.bl _))
    cases y <;> first | exact trivial | cases c3
  · cases hc

/-! ### dict displays -/
def SPp (T : Tab) (d : Nat) (N : List Str) (ps : Ps) : Prop := ∀ (X : Cx) (sc : Scope) (ow : Str → Bool) (ks : List (Option Expr)) (vs : List Expr) (pos : Pos), At T d X N sc ow → chPs T.nm N ps sc ks vs = true →
  ∃ trs, PPs X pos ks vs trs ∧ ks.all (·.isSome) = true ∧ ks.length = vs.length ∧
  ∀ (s : Env) (st : Store) (rs : List (Val × Val)) (st' : Store) (io : Nat → Addr) (H : Hp) (t : L2.St) (Q : List (V × V) → Hp → Prop), RS X.K T.G.kt io st.n H s t → Rl X.K T.G.kt T.ca io st H → evp (T.cx d) ps s st = .ok rs st' →
    (∀ (io' : Nat → Addr) (H' : Hp) (ws : List (V × V)), Up io st.n H io' st'.n H' → Rl X.K T.G.kt T.ca io' st' H' → Paired (fun (p : Val × Val) (q : V × V) => RV X.K T.G.kt io' st'.n H' p.1 q.1 ∧ RV X.K T.G.kt io' st'.n H' p.2 q.2) rs ws → Q ws H') → tPairs trs t H Q
theorem sp_nil : SPp T d N .nil := by
  intro X sc ow ks vs pos A hc
  simp only [chPs] at hc
  split at hc
  · refine ⟨[], pps_nil, rfl, rfl, fun s st rs st' io H t Q r R e p => ?_⟩
    simp only [evp] at e
    cases e
    exact p io H [] (.refl _ _ _) R .nil
  · cases hc
theorem Paired.imp2 {α β : Type} {F G : α → β → Prop} {l1 : List α} {l2 : List β} (h : Paired F l1 l2) (f : ∀ a b, F a b → G a b) : Paired G l1 l2 := L2.Paired.mapP h f
theorem sp_cons {k v : E} {ps : Ps} (hk : SE T d N k) (hv : SE T d N v) (hp : SPp T d N ps) : SPp T d N (.cons k v ps) := by
  intro X sc ow ks vs pos A hc
  simp only [chPs] at hc
  split at hc
  · simp only [Bool.and_eq_true] at hc
    obtain ⟨trs, h1, h2, h3, h4⟩ := hp X sc ow _ _ pos A hc.2
    refine ⟨_, pps_cons pe_sem pe_sem h1, by rw [List.all_cons, h2]; rfl, by rw [List.length_cons, List.length_cons, h3], fun s st rs st' io H t Q r R e p => ?_⟩
    simp only [evp] at e
    obtain ⟨x, st1, e1, e⟩ := bind_eq_ok.mp e
    obtain ⟨y, st2, e2, e⟩ := bind_eq_ok.mp e
    obtain ⟨z, st3, e3, e⟩ := bind_eq_ok.mp e
    cases e
    refine hk X sc ow _ A hc.1.1 s st x st1 io H t _ r R e1 fun io1 H1 w u1 R1 r1 => ?_
    refine hv X sc ow _ A hc.1.2 s st1 y st2 io1 H1 t _ (r.up u1) R1 e2 fun io2 H2 w2 u2 R2 r2 => ?_
    refine h4 s st2 z _ io2 H2 t _ (r.up (u1.trans u2)) R2 e3 fun io3 H3 w3 u3 R3 r3 => ?_
    exact p io3 H3 _ ((u1.trans u2).trans u3) R3 (.cons ⟨r1.up (u2.trans u3), r2.up u3⟩ r3)
  · cases hc
theorem keyed_ok {K : PySem.W.Frag} {kt : List (List Val)} {io : Nat → Addr} {n : Nat} {H : Hp} : ∀ {rs : List (Val × Val)} {ws : List (V × V)} {kvs : List (Key × Val)},
    Paired (fun (p : Val × Val) (q : V × V) => RV K kt io n H p.1 q.1 ∧ RV K kt io n H p.2 q.2) rs ws → keyed rs = some kvs → ∃ kws : List (Key × V), ws = kws.map (fun kv => (kV kv.1, kv.2)) ∧ RKs K kt io n H kvs kws
  | _, _, _, .nil, e => by cases e; exact ⟨[], rfl, .nil⟩
  | (k, v) :: _, _, _, .cons h t, e => by
    unfold keyed at e
    split at e
    · rename_i k' r e1 e2
      cases e
      obtain ⟨kws, rfl, q⟩ := keyed_ok t e2
      have hk := key1_kV h.1 e1
      refine ⟨(k', _) :: kws, ?_, .cons h.2 q⟩
      rw [List.map_cons, ← hk]
    · cases e
theorem se_dic {ps : Ps} (hp : SPp T d N ps) : SE T d N (.dic ps) := by
  intro X sc ow q A hc s st v st' io H t Q rs R e p
  simp only [chE] at hc
  split at hc
  · rename_i ks vs pos
    simp only [Bool.and_eq_true, decide_eq_true_eq] at hc
    obtain ⟨trs, h1, h2, h3, h4⟩ := hp X sc ow ks vs pos A hc.1
    simp only [ev] at e
    obtain ⟨rr, st1, e1, e⟩ := bind_eq_ok.mp e
    split at e
    · rename_i kvs ek
      split at e
      · rename_i hz
        obtain ⟨z, st2, e2, e⟩ := bind_eq_ok.mp e
        obtain ⟨hr, rfl, rfl⟩ := wr_inv e2
        cases e
        intro pins sh I
        by_cases h0 : ks = []
        · subst h0
          cases ps with
          | cons _ _ _ => simp [chPs] at hc
          | nil =>
            have hv : vs = [] := by cases vs with
              | nil => rfl
              | cons _ _ => simp at h3
            subst hv
            simp only [evp] at e1
            cases e1
            cases ek
            refine pe_dnewK.run pins sh t H Q I fun a ha => ?_
            have R2 := R.new (o := .dK []) (u := .dK []) ha (.dK upd_same .nil)
            have hi : st.n < (st.new (.dK [])).n := Nat.lt_succ_self _
            have p2 := p.after (io1 := ioNew io st.n a) (st1 := st.new (.dK [])) (Up.new (.dK []) ha)
            have := p2.wrote (u := .dK []) (w := .ref a) R2 hi hr fun up => ⟨.dK upd_same .nil, by
              have h : RV X.K T.G.kt (ioNew io st.n a) (st.n + 1) (upd (upd H a (.dK [])) (ioNew io st.n a st.n) (.dK [])) (.ref st.n) (.ref (ioNew io st.n a st.n)) := .ref (Nat.lt_succ_self _)
              have h2 := h
              rw [show (V.ref (ioNew io st.n a st.n)) = V.ref a by rw [ioNew_at]] at h2
              exact h2⟩
            rw [ioNew_at, upd_upd] at this
            exact this
        · refine (pe_disp h1 h2 h3 h0 hc.2).run pins sh t H Q I fun a ha => ?_
          have R1 := R.new (o := .dK []) (u := .dK []) ha (.dK upd_same .nil)
          have u1 := Up.new (io := io) (st := st) (.dK []) ha
          refine h4 s (st.new (.dK [])) rr st1 (ioNew io st.n a) _ t _ (rs.up u1) R1 e1 fun io2 H2 ws u2 R2 r2 => ?_
          obtain ⟨kws, rfl, rk⟩ := keyed_ok r2 ek
          have ha2 : io2 st.n = a := by rw [u2.io _ (Nat.lt_succ_self _), ioNew_at]
          obtain ⟨kw0, _, q0, hl0⟩ := R2.dictK hz.1
          have hl1 := hl0 hr
          rw [ha2] at hl1
          cases q0
          refine ⟨hl1, kws, rfl, by rw [← rk.length]; exact hz.2, ?_⟩
          have hi : st.n < st1.n := Nat.lt_of_lt_of_le (Nat.lt_succ_self _) u2.le
          have := (p.after (u1.trans u2)).wrote (u := .dK (mergeK [] kws)) (w := .ref a) R2 hi hr fun up => ⟨.dK upd_same ((rk.merge .nil).up up), by
            have h : RV X.K T.G.kt io2 st1.n (upd H2 (io2 st.n) (.dK (mergeK [] kws))) (.ref st.n) (.ref (io2 st.n)) := .ref hi
            have h2 := h
            rw [show (V.ref (io2 st.n)) = V.ref a by rw [ha2]] at h2
            exact h2⟩
          rw [ha2] at this
          exact this
      · cases e
    · cases e
  · cases hc

/-! ### tests -/
theorem okO_inv {o : Option Bool} {k : Bool} {st st' : Store} (h : okO o st = .ok k st') : o = some k ∧ st' = st := by
  cases o with
  | none => cases h
  | some j => cases h; exact ⟨rfl, rfl⟩
theorem tru_bl {st : Store} {j k : Bool} (h : tru st (.bl j) = some k) : j = k := by cases h; rfl
/-- a test by the reading of its value, which is a truth -/
theorem post_bl {X : Cx} {io : Nat → Addr} {st st1 st' : Store} {H : Hp} {v : Val} {k : Bool} {Q : Bool → Hp → Prop} (e2 : okO (tru st1 v) st1 = .ok k st') (hb : ∃ j, v = .bl j) (p : PostB X.K T.G.kt T.ca io st H k st' Q) :
    Post X.K T.G.kt T.ca io st H v st1 (fun x H' => ∃ c, x = .bl c ∧ Q c H') := by
  intro io1 H1 w u1 R1 r1
  obtain ⟨j, rfl⟩ := hb
  obtain ⟨e3, rfl⟩ := okO_inv e2
  obtain rfl := tru_bl e3
  obtain rfl := r1.ibl
  exact ⟨_, rfl, p io1 H1 u1 R1⟩
theorem ev_cmp_bl {o : Cop} {a b : E} {s : Env} {st st' : Store} {v : Val} (e : ev (T.cx d) (.cmp o a b) s st = .ok v st') : ∃ j, v = .bl j := by
  simp only [ev] at e
  obtain ⟨x, st1, e1, e⟩ := bind_eq_ok.mp e
  obtain ⟨y, st2, e2, e⟩ := bind_eq_ok.mp e
  obtain ⟨k, h, _⟩ := cop_bl e
  exact ⟨k, h⟩
theorem ev_cm2_bl {o o2 : Cop} {a b c : E} {s : Env} {st st' : Store} {v : Val} (e : ev (T.cx d) (.cm2 o o2 a b c) s st = .ok v st') : ∃ j, v = .bl j := by
  simp only [ev] at e
  obtain ⟨x, st1, e1, e⟩ := bind_eq_ok.mp e
  obtain ⟨y, st2, e2, e⟩ := bind_eq_ok.mp e
  obtain ⟨z, st3, e3, e⟩ := bind_eq_ok.mp e
  split at e
  · obtain ⟨u, st4, e4, e⟩ := bind_eq_ok.mp e
    obtain ⟨k, h, _⟩ := cop_bl e
    exact ⟨k, h⟩
  · cases e; exact ⟨_, rfl⟩
  · cases e

theorem sb_cmp {o : Cop} {a b : E} (ha : SE T d N a) (hb : SE T d N b) : SB T d N (.of (.cmp o a b)) := by
  intro X sc ow q A hc s st k st' io H t Q rs R e p
  simp only [chB, Bool.and_eq_true] at hc
  replace hc := hc.1
  simp only [chE] at hc
  split at hc
  · simp only [Bool.and_eq_true, decide_eq_true_eq] at hc
    obtain ⟨⟨⟨rfl, c1⟩, c2⟩, c3⟩ := hc
    simp only [ts] at e
    obtain ⟨v, st1, e1, e2⟩ := bind_eq_ok.mp e
    intro pins sh I
    exact (pt_cmpR op_sem pe_sem pe_sem (noset_in c3 _)).run pins sh t H Q I (cmp_read ha hb A c1 c2 rs R e1 (post_bl e2 (ev_cmp_bl e1) p))
  · cases hc
theorem sb_cm2 {o o2 : Cop} {a b c : E} (ha : SE T d N a) (hb : SE T d N b) (hd : SE T d N c) : SB T d N (.of (.cm2 o o2 a b c)) := by
  intro X sc ow q A hc s st k st' io H t Q rs R e p
  simp only [chB, Bool.and_eq_true] at hc
  replace hc := hc.1
  simp only [chE] at hc
  split at hc
  · simp only [Bool.and_eq_true, decide_eq_true_eq] at hc
    obtain ⟨⟨⟨⟨⟨⟨rfl, rfl⟩, c1⟩, c2⟩, c3⟩, c4⟩, c5⟩ := hc
    simp only [ts] at e
    obtain ⟨v, st1, e1, e2⟩ := bind_eq_ok.mp e
    intro pins sh I
    exact (pt_chain op_sem op_sem pe_sem pe_sem pe_sem (last_of c5)).run pins sh t H Q I (cm2_read ha hb hd A c1 c2 c3 rs R e1 (post_bl e2 (ev_cm2_bl e1) p))
  · cases hc
theorem sb_isN {a : E} (ha : SE T d N a) : SB T d N (.of (.isN a)) := by
  intro X sc ow q A hc s st k st' io H t Q rs R e p
  simp only [chB, Bool.and_eq_true] at hc
  replace hc := hc.1
  simp only [chE] at hc
  split at hc
  · simp only [ts] at e
    obtain ⟨v, st1, e1, e2⟩ := bind_eq_ok.mp e
    have hb : ∃ j, v = .bl j := by
      simp only [ev] at e1
      obtain ⟨x, st2, _, e4⟩ := bind_eq_ok.mp e1
      cases e4; exact ⟨_, rfl⟩
    intro pins sh I
    exact (pt_cmp (pc_isN pe_sem)).run pins sh t H Q I (isN_read ha A hc rs R e1 (post_bl e2 hb p))
  · cases hc
theorem sb_noN {a : E} (ha : SE T d N a) : SB T d N (.of (.noN a)) := by
  intro X sc ow q A hc s st k st' io H t Q rs R e p
  simp only [chB, Bool.and_eq_true] at hc
  replace hc := hc.1
  simp only [chE] at hc
  split at hc
  · simp only [ts] at e
    obtain ⟨v, st1, e1, e2⟩ := bind_eq_ok.mp e
    have hb : ∃ j, v = .bl j := by
      simp only [ev] at e1
      obtain ⟨x, st2, _, e4⟩ := bind_eq_ok.mp e1
      cases e4; exact ⟨_, rfl⟩
    intro pins sh I
    exact (pt_cmp (pc_notN pe_sem)).run pins sh t H Q I (noN_read ha A hc rs R e1 (post_bl e2 hb p))
  · cases hc
theorem sb_plain {a : E} (ha : SE T d N a) (hp : isCmp a = false) : SB T d N (.of a) := by
  intro X sc ow q A hc s st k st' io H t Q rs R e p
  simp only [chB, Bool.and_eq_true] at hc
  obtain ⟨c1, c2⟩ := hc
  have c2 : plainT q = true := by
    rw [Bool.or_eq_true] at c2
    rcases c2 with c2 | c2
    · exact c2
    · rw [hp] at c2; cases c2
  simp only [ts] at e
  obtain ⟨v, st1, e1, e2⟩ := bind_eq_ok.mp e
  obtain ⟨e3, rfl⟩ := okO_inv e2
  intro pins sh I
  refine (pt_truth pe_sem (plain_true c2)).run pins sh t H Q I ?_
  exact ha X sc ow q A c1 s st v _ io H t _ rs R e1 fun io1 H1 w u1 R1 r1 => ⟨k, tru_ok R1 r1 e3, p io1 H1 u1 R1⟩
theorem sb_yes : SB T d N .yes := by
  intro X sc ow q A hc
  simp [chB] at hc
theorem sb_not {a : B} (ha : SB T d N a) : SB T d N (.not a) := by
  intro X sc ow q A hc s st k st' io H t Q rs R e p
  simp only [chB] at hc
  split at hc
  · simp only [ts] at e
    obtain ⟨j, st1, e1, e2⟩ := bind_eq_ok.mp e
    cases e2
    intro pins sh I
    refine (pt_not pt_sem).run pins sh t H Q I ?_
    exact ha X sc ow _ A hc s st j _ io H t _ rs R e1 fun io1 H1 u1 R1 => p io1 H1 u1 R1
  · cases hc
/-- the rest of a chain of tests -/
def wSem (X : Cx) (e : Expr) : TT := fun σ H Q => ∀ (whole : Sem Value) (pins : List (Addr × Obj)) (s : Shared), Inv X pins σ H s → wpAny (model X.prog X.w) X.A (isTrue e X.env whole) (TP X pins σ Q) X.xe s
theorem pw_sem {X : Cx} {e : Expr} : PW X e (wSem X e) := ⟨fun wh pins s σ H Q I h => h wh pins s I⟩
theorem bool_whole {X : Cx} {op : BoolOp} {es : List Expr} {pos : Pos} {σ : L2.St} {H : Hp} {Q : Bool → Hp → Prop} (h : bSem X (.BoolOp op es pos) σ H Q) : wSem X (.BoolOp op es pos) σ H Q := fun _ pins s I => h pins s I
theorem rest_and {b : B} (hb : SB T d N b) {X : Cx} {sc : Scope} {ow : Str → Bool} {r : Expr} {t : List Expr} {pos : Pos} (A : At T d X N sc ow)
    (c : (match t with | [] => chB T.nm N b sc r = true | _ => chB T.nm N b sc (.BoolOp .And (r :: t) pos) = true))
    {s : Env} {st : Store} {k : Bool} {st' : Store} {io : Nat → Addr} {H : Hp} {t' : L2.St} {Q : Bool → Hp → Prop} (rs : RS X.K T.G.kt io st.n H s t') (R : Rl X.K T.G.kt T.ca io st H) (e : ts (T.cx d) b s st = .ok k st')
    (p : PostB X.K T.G.kt T.ca io st H k st' Q) : wSem X (.BoolOp .And (r :: t) pos) t' H Q := by
  cases t with
  | nil =>
    intro wh pins sh I
    exact (pw_and1 pt_sem).run wh pins sh t' H Q I (hb X sc ow r A c s st k st' io H t' Q rs R e p)
  | cons t1 t2 => exact bool_whole (hb X sc ow _ A c s st k st' io H t' Q rs R e p)
theorem rest_or {b : B} (hb : SB T d N b) {X : Cx} {sc : Scope} {ow : Str → Bool} {r : Expr} {t : List Expr} {pos : Pos} (A : At T d X N sc ow)
    (c : (match t with | [] => chB T.nm N b sc r = true | _ => chB T.nm N b sc (.BoolOp .Or (r :: t) pos) = true))
    {s : Env} {st : Store} {k : Bool} {st' : Store} {io : Nat → Addr} {H : Hp} {t' : L2.St} {Q : Bool → Hp → Prop} (rs : RS X.K T.G.kt io st.n H s t') (R : Rl X.K T.G.kt T.ca io st H) (e : ts (T.cx d) b s st = .ok k st')
    (p : PostB X.K T.G.kt T.ca io st H k st' Q) : wSem X (.BoolOp .Or (r :: t) pos) t' H Q := by
  cases t with
  | nil =>
    intro wh pins sh I
    exact (pw_or1 pt_sem).run wh pins sh t' H Q I (hb X sc ow r A c s st k st' io H t' Q rs R e p)
  | cons t1 t2 => exact bool_whole (hb X sc ow _ A c s st k st' io H t' Q rs R e p)
theorem sb_and {a b : B} (ha : SB T d N a) (hb : SB T d N b) : SB T d N (.and a b) := by
  intro X sc ow q A hc s st k st' io H t Q rs R e p
  simp only [ts] at e
  obtain ⟨j, st1, e1, e⟩ := bind_eq_ok.mp e
  have go : ∀ (q1 r : Expr) (u : List Expr) (pos : Pos), chB T.nm N a sc q1 = true → (match u with | [] => chB T.nm N b sc r = true | _ => chB T.nm N b sc (.BoolOp .And (r :: u) pos) = true) → bSem X (.BoolOp .And (q1 :: r :: u) pos) t H Q := by
    intro q1 r u pos c1 c2 pins sh I
    refine (PW.pt (pw_and pt_sem pw_sem)).run pins sh t H Q I ?_
    refine ha X sc ow q1 A c1 s st j st1 io H t _ rs R e1 fun io1 H1 u1 R1 => ?_
    cases j with
    | true =>
      rw [if_pos rfl] at e ⊢
      exact rest_and hb A c2 (rs.up u1) R1 e (p.after u1)
    | false =>
      rw [if_neg (by decide)] at e ⊢
      cases e
      exact p io1 H1 u1 R1
  simp only [chB] at hc
  split at hc
  · rw [Bool.and_eq_true] at hc; exact go _ _ [] _ hc.1 hc.2
  · rw [Bool.and_eq_true] at hc; exact go _ _ (_ :: _) _ hc.1 hc.2
  · cases hc
theorem sb_or {a b : B} (ha : SB T d N a) (hb : SB T d N b) : SB T d N (.or a b) := by
  intro X sc ow q A hc s st k st' io H t Q rs R e p
  simp only [ts] at e
  obtain ⟨j, st1, e1, e⟩ := bind_eq_ok.mp e
  have go : ∀ (q1 r : Expr) (u : List Expr) (pos : Pos), chB T.nm N a sc q1 = true → (match u with | [] => chB T.nm N b sc r = true | _ => chB T.nm N b sc (.BoolOp .Or (r :: u) pos) = true) → bSem X (.BoolOp .Or (q1 :: r :: u) pos) t H Q := by
    intro q1 r u pos c1 c2 pins sh I
    refine (PW.pt (pw_or pt_sem pw_sem)).run pins sh t H Q I ?_
    refine ha X sc ow q1 A c1 s st j st1 io H t _ rs R e1 fun io1 H1 u1 R1 => ?_
    cases j with
    | true =>
      rw [if_pos rfl] at e ⊢
      cases e
      exact p io1 H1 u1 R1
    | false =>
      rw [if_neg (by decide)] at e ⊢
      exact rest_or hb A c2 (rs.up u1) R1 e (p.after u1)
  simp only [chB] at hc
  split at hc
  · rw [Bool.and_eq_true] at hc; exact go _ _ [] _ hc.1 hc.2
  · rw [Bool.and_eq_true] at hc; exact go _ _ (_ :: _) _ hc.1 hc.2
  · cases hc
end
end CL

/-! CL, part i: what is walked; targets; comprehensions -/
namespace CL
open PySem PySem.Spec PyProof.Rows L2

structure Wlk (K : PySem.W.Frag) (kt : List (List Val)) (ca io0 : Nat → Addr) (n0 : Nat) (H0 : Hp) (J : It) (xs : List Val) (w : Watch) : Prop where
  go : ∀ (i : Nat) (io : Nat → Addr) (st : Store) (H : Hp), Up io0 n0 H0 io st.n H → Rl K kt ca io st H → st.sees w = true → i < xs.length → J.go i H
  stop : ∀ (io : Nat → Addr) (st : Store) (H : Hp), Up io0 n0 H0 io st.n H → Rl K kt ca io st H → st.sees w = true → J.stop xs.length H
  yld : ∀ (i : Nat) (v : Val) (io : Nat → Addr) (st : Store) (H : Hp) (x : V) (H' : Hp), Up io0 n0 H0 io st.n H → Rl K kt ca io st H → st.sees w = true → xs[i]? = some v → J.yld i H x H' →
    Up io st.n H io st.n H' ∧ Rl K kt ca io st H' ∧ RV K kt io st.n H' v x
def wkSem (X : Cx) (tg it : Expr) : TI := fun σ H R => ∀ (pins : List (Addr × Obj)) (s : Shared), Inv X pins σ H s → wpAny (model X.prog X.w) X.A (eval it X.env) (fun v s1 => wpAny (model X.prog X.w) X.A (pyIter v) (PIE X pins σ tg R) X.xe s1) X.xe s
theorem pi_sem {X : Cx} {tg it : Expr} : PI X tg it (wkSem X tg it) := ⟨fun pins s σ H R I h => h pins s I⟩
def SI (T : Tab) (d : Nat) (N : List Str) (w : I) : Prop := ∀ (X : Cx) (sc : Scope) (ow : Str → Bool) (tg it : Expr), At T d X N sc ow → chI T.nm N w sc tg it = true →
  ∀ (s : Env) (st : Store) (p : List Val × Watch) (st' : Store) (io : Nat → Addr) (H : Hp) (t : L2.St) (R : It → Hp → Prop), RS X.K T.G.kt io st.n H s t → Rl X.K T.G.kt T.ca io st H → evw (T.cx d) w s st = .ok p st' →
    (∀ (io' : Nat → Addr) (H' : Hp) (J : It), Up io st.n H io' st'.n H' → Rl X.K T.G.kt T.ca io' st' H' → Wlk X.K T.G.kt T.ca io' st'.n H' J p.1 p.2 → R J H') → wkSem X tg it t H R

section
variable {K : PySem.W.Frag} {kt : List (List Val)} {ca io0 : Nat → Addr} {n0 : Nat} {H0 : Hp}
theorem sees1 {st : Store} {i : Nat} {xs : List Val} {w : Watch} (h : st.sees ((i, xs) :: w) = true) : st.m i = some (.lst xs) ∧ st.sees w = true := by
  unfold Store.sees at h
  rw [Bool.and_eq_true, decide_eq_true_eq] at h
  exact h
/-- a tuple laid: the store is as it was -/
theorem Rl.laid {io : Nat → Addr} {st : Store} {H : Hp} (R : Rl K kt ca io st H) {a : Addr} {ys : List V} (ha : H a = none) : Up io st.n H io st.n (upd H a (.tup ys)) ∧ Rl K kt ca io st (upd H a (.tup ys)) := by
  have up : Up io st.n H io st.n (upd H a (.tup ys)) := ⟨Nat.le_refl _, fun _ _ => rfl, .new _ ha⟩
  refine ⟨up, fun i hi => ?_, R.no, R.inj⟩
  obtain ⟨q, e, rq⟩ := R.ob i hi
  refine ⟨q, e, rq.up up fun hr => ?_⟩
  rw [hr] at rq
  obtain ⟨x, ex, _⟩ := rq.mutO
  exact upd_ne (ne_of_none ex ha)
theorem Rl.laidO {io : Nat → Addr} {st : Store} {H : Hp} (R : Rl K kt ca io st H) {a : Addr} (o : HO) (ha : H a = none) : Up io st.n H io st.n (upd H a o) ∧ Rl K kt ca io st (upd H a o) := by
  have up : Up io st.n H io st.n (upd H a o) := ⟨Nat.le_refl _, fun _ _ => rfl, .new _ ha⟩
  refine ⟨up, fun i hi => ?_, R.no, R.inj⟩
  obtain ⟨q, e, rq⟩ := R.ob i hi
  refine ⟨q, e, rq.up up fun hr => ?_⟩
  rw [hr] at rq
  obtain ⟨x, ex, _⟩ := rq.mutO
  exact upd_ne (ne_of_none ex ha)
theorem wlk_list {i : Nat} {xs : List Val} (hi : i < n0) : Wlk K kt ca io0 n0 H0 (Itl K (io0 i)) xs [(i, xs)] := by
  refine ⟨fun j io st H u R h hj => ?_, fun io st H u R h => ?_, fun j v io st H x H' u R h e y => ?_⟩
  · obtain ⟨ys, sl, rs, _⟩ := R.list (sees1 h).1
    rw [u.io i hi] at sl
    obtain ⟨w, ew, _⟩ := rs.get (List.getElem?_eq_getElem hj)
    exact ⟨ys, w, sl, ew⟩
  · obtain ⟨ys, sl, rs, _⟩ := R.list (sees1 h).1
    rw [u.io i hi] at sl
    exact ⟨ys, sl, by rw [rs.length]; exact Nat.le_refl _⟩
  · obtain ⟨ys, sl, rs, _⟩ := R.list (sees1 h).1
    rw [u.io i hi] at sl
    obtain ⟨rfl, q⟩ := y
    obtain ⟨w, ew, r⟩ := rs.get e
    have := q ys sl
    rw [ew] at this; cases this
    exact ⟨.refl _ _ _, R, r⟩
theorem wlk_tup {a : Addr} {xs : List Val} {ys : List V} (s : SqT K H0 a ys) (rs : RVs K kt io0 n0 H0 xs ys) : Wlk K kt ca io0 n0 H0 (Itt K a) xs [] := by
  refine ⟨fun j io st H u R h hj => ?_, fun io st H u R h => ?_, fun j v io st H x H' u R h e y => ?_⟩
  · obtain ⟨w, ew, _⟩ := rs.get (List.getElem?_eq_getElem hj)
    exact ⟨ys, w, u.ext.sqT s, ew⟩
  · exact ⟨ys, u.ext.sqT s, by rw [rs.length]; exact Nat.le_refl _⟩
  · obtain ⟨rfl, q⟩ := y
    obtain ⟨w, ew, r⟩ := rs.get e
    have := q ys (u.ext.sqT s)
    rw [ew] at this; cases this
    exact ⟨.refl _ _ _, R, r.up u⟩
theorem rangeL_len : ∀ (n : Nat) (lo : Int), (rangeL lo n).length = n
  | 0, _ => rfl
  | n + 1, lo => by unfold rangeL; rw [List.length_cons, rangeL_len n]
theorem rangeL_get : ∀ (n : Nat) (lo : Int) (i : Nat), i < n → (rangeL lo n)[i]? = some (.int (lo + i))
  | 0, _, _, h => absurd h (Nat.not_lt_zero _)
  | n + 1, lo, 0, _ => by unfold rangeL; simp
  | n + 1, lo, i + 1, h => by
    unfold rangeL
    rw [List.getElem?_cons_succ, rangeL_get n (lo + 1) i (by omega)]
    congr 2; push_cast; omega
theorem wlk_range {lo : Int} {n : Nat} : Wlk K kt ca io0 n0 H0 (Itr lo n) (rangeL lo n) [] := by
  refine ⟨fun j io st H u R h hj => ?_, fun io st H u R h => ?_, fun j v io st H x H' u R h e y => ?_⟩
  · rw [rangeL_len] at hj; exact hj
  · rw [rangeL_len]; exact Nat.le_refl _
  · obtain ⟨rfl, rfl⟩ := y
    have hj : j < n := by
      have := (List.getElem?_eq_some_iff.mp e).1
      rw [rangeL_len] at this; exact this
    rw [rangeL_get n lo j hj] at e
    cases e
    exact ⟨.refl _ _ _, R, .int _⟩
theorem rangeC_len : ∀ (n : Nat) (lo c : Int), (rangeC lo c n).length = n
  | 0, _, _ => rfl
  | n + 1, lo, c => by unfold rangeC; rw [List.length_cons, rangeC_len n]
theorem rangeC_get : ∀ (n : Nat) (lo c : Int) (i : Nat), i < n → (rangeC lo c n)[i]? = some (.int (lo + i * c))
  | 0, _, _, _, h => absurd h (Nat.not_lt_zero _)
  | n + 1, lo, c, 0, _ => by unfold rangeC; simp
  | n + 1, lo, c, i + 1, h => by
    unfold rangeC
    rw [List.getElem?_cons_succ, rangeC_get n (lo + c) c i (by omega)]
    congr 2
    rw [Int.natCast_add, Int.natCast_one, Int.add_mul, Int.one_mul]; omega
theorem wlk_rangeC {lo c : Int} {n : Nat} : Wlk K kt ca io0 n0 H0 (Itc lo c n) (rangeC lo c n) [] := by
  refine ⟨fun j io st H u R h hj => ?_, fun io st H u R h => ?_, fun j v io st H x H' u R h e y => ?_⟩
  · rw [rangeC_len] at hj; exact hj
  · rw [rangeC_len]; exact Nat.le_refl _
  · obtain ⟨rfl, rfl⟩ := y
    have hj : j < n := by
      have := (List.getElem?_eq_some_iff.mp e).1
      rw [rangeC_len] at this; exact this
    rw [rangeC_get n lo c j hj] at e
    cases e
    exact ⟨.refl _ _ _, R, .int _⟩
theorem enumL_len : ∀ (xs : List Val) (k : Int), (enumL k xs).length = xs.length
  | [], _ => rfl
  | x :: r, k => by unfold enumL; rw [List.length_cons, List.length_cons, enumL_len r]
theorem enumL_get : ∀ (xs : List Val) (k : Int) (i : Nat), (enumL k xs)[i]? = (xs[i]?).map fun x => .tup [.int (k + i), x]
  | [], _, _ => by unfold enumL; simp
  | x :: r, k, 0 => by unfold enumL; simp
  | x :: r, k, i + 1 => by
    unfold enumL
    rw [List.getElem?_cons_succ, List.getElem?_cons_succ, enumL_get r (k + 1) i]
    congr 2; funext y; congr 3; push_cast; omega
theorem wlk_enum {i : Nat} {xs : List Val} (hi : i < n0) : Wlk K kt ca io0 n0 H0 (Ite K (io0 i)) (enumL 0 xs) [(i, xs)] := by
  refine ⟨fun j io st H u R h hj => ?_, fun io st H u R h => ?_, fun j v io st H x H' u R h e y => ?_⟩
  · obtain ⟨ys, sl, rs, _⟩ := R.list (sees1 h).1
    rw [u.io i hi] at sl
    rw [enumL_len] at hj
    obtain ⟨w, ew, _⟩ := rs.get (List.getElem?_eq_getElem hj)
    exact ⟨ys, w, sl, ew⟩
  · obtain ⟨ys, sl, rs, _⟩ := R.list (sees1 h).1
    rw [u.io i hi] at sl
    rw [enumL_len]
    exact ⟨ys, sl, by rw [rs.length]; exact Nat.le_refl _⟩
  · obtain ⟨ys, sl, rs, _⟩ := R.list (sees1 h).1
    rw [u.io i hi] at sl
    rw [enumL_get] at e
    cases ex : xs[j]? with
    | none => rw [ex] at e; cases e
    | some z =>
      rw [ex] at e; cases e
      obtain ⟨a, x', rfl, ha, rfl, q⟩ := y
      obtain ⟨w, ew, r⟩ := rs.get ex
      have := q ys sl
      rw [ew] at this; cases this
      obtain ⟨u1, R1⟩ := R.laid (ys := [.int (j : Nat), _]) ha
      refine ⟨u1, R1, .tup (.inl upd_same) (.cons ?_ (.cons (r.up u1) .nil))⟩
      rw [Int.zero_add]; exact .int _
theorem wlk_enumT {a : Addr} {xs : List Val} {ys : List V} (sq : SqT K H0 a ys) (rs : RVs K kt io0 n0 H0 xs ys) : Wlk K kt ca io0 n0 H0 (IteM false K a) (enumL 0 xs) [] := by
  refine ⟨fun j io st H u R h hj => ?_, fun io st H u R h => ?_, fun j v io st H x H' u R h e y => ?_⟩
  · rw [enumL_len] at hj
    obtain ⟨w, ew, _⟩ := rs.get (List.getElem?_eq_getElem hj)
    exact ⟨ys, w, u.ext.sqT sq, ew⟩
  · rw [enumL_len]
    exact ⟨ys, u.ext.sqT sq, rs.length.symm⟩
  · rw [enumL_get] at e
    cases ex : xs[j]? with
    | none => rw [ex] at e; cases e
    | some z =>
      rw [ex] at e; cases e
      obtain ⟨a', x', rfl, ha, rfl, q⟩ := y
      obtain ⟨w, ew, r⟩ := rs.get ex
      have := q ys (u.ext.sqT sq)
      rw [ew] at this; cases this
      obtain ⟨u1, R1⟩ := R.laid (ys := [.int (j : Nat), _]) ha
      refine ⟨u1, R1, .tup (.inl upd_same) (.cons ?_ (.cons (r.up (u.trans u1)) .nil))⟩
      rw [Int.zero_add]; exact .int _
theorem zipL_len : ∀ (xs ys : List Val), (zipL xs ys).length = min xs.length ys.length
  | [], ys => by unfold zipL; simp
  | x :: r, [] => by unfold zipL; simp
  | x :: r, y :: t => by unfold zipL; rw [List.length_cons, List.length_cons, List.length_cons, zipL_len r t]; omega
theorem zipL_get : ∀ (xs ys : List Val) (i : Nat) (v : Val), (zipL xs ys)[i]? = some v → ∃ x y, xs[i]? = some x ∧ ys[i]? = some y ∧ v = .tup [x, y]
  | [], ys, i, v, h => by unfold zipL at h; simp at h
  | x :: r, [], i, v, h => by unfold zipL at h; simp at h
  | x :: r, y :: t, 0, v, h => by unfold zipL at h; simp at h; exact ⟨x, y, rfl, rfl, h.symm⟩
  | x :: r, y :: t, i + 1, v, h => by
    unfold zipL at h
    rw [List.getElem?_cons_succ] at h
    obtain ⟨a, b, h1, h2, h3⟩ := zipL_get r t i v h
    exact ⟨a, b, by rw [List.getElem?_cons_succ]; exact h1, by rw [List.getElem?_cons_succ]; exact h2, h3⟩
theorem wlk_zip {i k : Nat} {xs ys : List Val} (hi : i < n0) (hk : k < n0) : Wlk K kt ca io0 n0 H0 (Itz K (io0 i) (io0 k)) (zipL xs ys) [(i, xs), (k, ys)] := by
  refine ⟨fun j io st H u R h hj => ?_, fun io st H u R h => ?_, fun j v io st H x H' u R h e y => ?_⟩
  · obtain ⟨us, sl, rs, _⟩ := R.list (sees1 h).1
    obtain ⟨vs, sl2, rs2, _⟩ := R.list (sees1 (sees1 h).2).1
    rw [u.io i hi] at sl
    rw [u.io k hk] at sl2
    rw [zipL_len] at hj
    obtain ⟨w, ew, _⟩ := rs.get (List.getElem?_eq_getElem (show j < xs.length by omega))
    obtain ⟨w2, ew2, _⟩ := rs2.get (List.getElem?_eq_getElem (show j < ys.length by omega))
    exact ⟨us, vs, w, w2, sl, sl2, ew, ew2⟩
  · obtain ⟨us, sl, rs, _⟩ := R.list (sees1 h).1
    obtain ⟨vs, sl2, rs2, _⟩ := R.list (sees1 (sees1 h).2).1
    rw [u.io i hi] at sl
    rw [u.io k hk] at sl2
    refine ⟨us, vs, sl, sl2, ?_⟩
    rw [zipL_len, rs.length, rs2.length]; omega
  · obtain ⟨us, sl, rs, _⟩ := R.list (sees1 h).1
    obtain ⟨vs, sl2, rs2, _⟩ := R.list (sees1 (sees1 h).2).1
    rw [u.io i hi] at sl
    rw [u.io k hk] at sl2
    obtain ⟨z, z2, h1, h2, rfl⟩ := zipL_get _ _ _ _ e
    obtain ⟨a, x', y', rfl, ha, rfl, q, q2⟩ := y
    obtain ⟨w, ew, r⟩ := rs.get h1
    obtain ⟨w2, ew2, r2⟩ := rs2.get h2
    have := q us sl
    rw [ew] at this; cases this
    have := q2 vs sl2
    rw [ew2] at this; cases this
    obtain ⟨u1, R1⟩ := R.laid (ys := [_, _]) ha
    exact ⟨u1, R1, .tup (.inl upd_same) (.cons (r.up u1) (.cons (r2.up u1) .nil))⟩
theorem wlk_zipT {a b : Addr} {xs ys : List Val} {us vs : List V} (s : SqT K H0 a us) (rs : RVs K kt io0 n0 H0 xs us) (s2 : SqT K H0 b vs) (rs2 : RVs K kt io0 n0 H0 ys vs) : Wlk K kt ca io0 n0 H0 (RZ.ItzT K a b) (zipL xs ys) [] := by
  refine ⟨fun j io st H u R h hj => ?_, fun io st H u R h => ?_, fun j v io st H x H' u R h e y => ?_⟩
  · rw [zipL_len] at hj
    obtain ⟨w, ew, _⟩ := rs.get (List.getElem?_eq_getElem (show j < xs.length by omega))
    obtain ⟨w2, ew2, _⟩ := rs2.get (List.getElem?_eq_getElem (show j < ys.length by omega))
    exact ⟨us, vs, w, w2, u.ext.sqT s, u.ext.sqT s2, ew, ew2⟩
  · refine ⟨us, vs, u.ext.sqT s, u.ext.sqT s2, ?_⟩
    rw [zipL_len, rs.length, rs2.length]; omega
  · obtain ⟨z, z2, h1, h2, rfl⟩ := zipL_get _ _ _ _ e
    obtain ⟨a', x', y', rfl, ha, rfl, q, q2⟩ := y
    obtain ⟨w, ew, r⟩ := rs.get h1
    obtain ⟨w2, ew2, r2⟩ := rs2.get h2
    have := q us (u.ext.sqT s)
    rw [ew] at this; cases this
    have := q2 vs (u.ext.sqT s2)
    rw [ew2] at this; cases this
    obtain ⟨u1, R1⟩ := R.laid (ys := [_, _]) ha
    exact ⟨u1, R1, .tup (.inl upd_same) (.cons (r.up (u.trans u1)) (.cons (r2.up (u.trans u1)) .nil))⟩
theorem wlk_str {z : Str} : Wlk K kt ca io0 n0 H0 (Its z) (z.cps.toList.map fun c => .str ⟨#[c]⟩) [] := by
  refine ⟨fun j io st H u R h hj => ?_, fun io st H u R h => ?_, fun j v io st H x H' u R h e y => ?_⟩
  · rw [List.length_map, Array.length_toList] at hj; exact hj
  · rw [List.length_map, Array.length_toList]; exact Nat.le_refl _
  · obtain ⟨rfl, c, ec, rfl⟩ := y
    rw [List.getElem?_map, Array.getElem?_toList, ec] at e
    cases e
    exact ⟨.refl _ _ _, R, .str _⟩
end

section
variable {T : Tab} {d : Nat} {N : List Str}
theorem si_of {a : E} (ha : SE T d N a) : SI T d N (.of a) := by
  intro X sc ow tg it A hc s st q st' io H t Rr rs R e p
  simp only [chI] at hc
  simp only [evw] at e
  obtain ⟨v, st1, e1, e⟩ := bind_eq_ok.mp e
  have main := ha X sc ow it A hc s st v st1 io H t
  unfold walkOf at e
  intro pins sh I
  split at e
  · cases e
    refine (pi_tup pe_sem).run pins sh t H Rr I ?_
    refine main _ rs R e1 fun io1 H1 w u1 R1 r1 => ?_
    obtain ⟨a1, ys, rfl, sq, r⟩ := r1.itup
    exact ⟨a1, rfl, ⟨ys, sq.sqT⟩, p io1 H1 _ u1 R1 (wlk_tup sq.sqT r)⟩
  · cases e
    refine (pi_str pe_sem).run pins sh t H Rr I ?_
    refine main _ rs R e1 fun io1 H1 w u1 R1 r1 => ?_
    obtain rfl := r1.istr
    exact ⟨_, rfl, p io1 H1 _ u1 R1 wlk_str⟩
  · split at e
    · rename_i i xs em
      cases e
      refine (pi_list pe_sem).run pins sh t H Rr I ?_
      refine main _ rs R e1 fun io1 H1 w u1 R1 r1 => ?_
      obtain ⟨rfl, hi⟩ := r1.iref
      obtain ⟨ys, sl, r, _⟩ := R1.list em
      exact ⟨_, rfl, ⟨ys, sl⟩, p io1 H1 _ u1 R1 (wlk_list hi)⟩
    · cases e
  · cases e
theorem small62_ok {i : Int} (h : small62 i = true) : -(2 ^ 62) ≤ i ∧ i < 2 ^ 62 := by
  unfold small62 at h
  rw [Bool.and_eq_true, decide_eq_true_eq, decide_eq_true_eq] at h
  exact h
theorem small24_ok {i j : Int} (h : small24 i j = true) : RgOk i j := by
  unfold small24 at h
  rw [Bool.and_eq_true, Bool.and_eq_true, decide_eq_true_eq] at h
  exact ⟨(small62_ok h.1.1).1, (small62_ok h.1.1).2, (small62_ok h.1.2).1, (small62_ok h.1.2).2, h.2⟩
theorem rangeL_rv {K : PySem.W.Frag} {kt : List (List Val)} {io : Nat → Addr} {m : Nat} {H : Hp} : ∀ (n : Nat) (lo : Int), RVs K kt io m H (rangeL lo n) ((List.range n).map fun i => V.int (lo + (i : Nat)))
  | 0, _ => .nil
  | n + 1, lo => by
    rw [List.range_succ_eq_map, List.map_cons, List.map_map]
    unfold rangeL
    have h := rangeL_rv (K := K) (kt := kt) (io := io) (m := m) (H := H) n (lo + 1)
    have e : ((fun i : Nat => V.int (lo + 1 + (i : Nat)))) = ((fun i : Nat => V.int (lo + (i : Nat))) ∘ Nat.succ) := by
      funext i
      show V.int _ = V.int _
      congr 1
      have : ((Nat.succ i : Nat) : Int) = (i : Int) + 1 := by push_cast; rfl
      rw [this]; omega
    rw [e] at h
    exact .cons (by rw [show lo + ((0 : Nat) : Int) = lo by simp]; exact .int lo) h
theorem se_lrg1 {a : E} (ha : SE T d N a) : SE T d N (.lrg1 a) := by
  intro X sc ow q A hc s st v st' io H t Q rs R e p
  simp only [chE] at hc
  split at hc
  · rename_i x p1 y p2 q1 pos2 pos
    simp only [Bool.and_eq_true] at hc
    obtain ⟨⟨⟨c1, c2⟩, c3⟩, c4⟩ := hc
    simp only [ev] at e
    obtain ⟨u, st1, e1, e⟩ := bind_eq_ok.mp e
    split at e
    · split at e
      · rename_i hs
        cases e
        have g1 := A.gl c1
        have g2 := A.gl c2
        obtain ⟨rfl, _, _⟩ := gB_ok c1
        obtain ⟨rfl, _, _⟩ := gB_ok c2
        intro pins sh I
        refine (pe_listRg A.calm g1 (A.top.bf .list) (prg_1 g2 A.top.rng pe_sem (star_cons c4)) (star_cons rfl)).run pins sh t H Q I ?_
        refine ha X sc ow _ A c3 s st _ st1 io H t _ rs R e1 fun io1 H1 w u1 R1 r1 => ?_
        obtain rfl := r1.iint
        refine ⟨_, rfl, small24_ok hs, fun l hl => ?_⟩
        refine (p.after u1).list R1 ?_ l hl
        unfold rgV
        rw [Int.sub_zero]
        exact rangeL_rv _ _
      · cases e
    · cases e
  · cases hc
theorem litF_ok {G : Prog} {f : Nat} (h : litF G f = true) : ∃ fd, G.fn f = some fd ∧ litB fd.body = true ∧ fd.np = 0 := by
  unfold litF at h
  split at h
  · rename_i fd e
    rw [Bool.and_eq_true, decide_eq_true_eq] at h
    exact ⟨fd, e, h.1, h.2⟩
  · cases h
theorem se_dcall {f : Nat} : SE T d N (.dcall f) := by
  intro X sc ow q A hc s st v st' io H t Q rs R e p
  simp only [chE] at hc
  split at hc
  · rename_i x p1 y p2 pos2 pos
    simp only [Bool.and_eq_true] at hc
    obtain ⟨⟨c1, c2⟩, c3⟩ := hc
    simp only [ev] at e
    split at e
    · rename_i hlit
      obtain ⟨u, st1, e1, e⟩ := bind_eq_ok.mp e
      have e1 : callN T.G T.fuel d f [] st = .ok u st1 := e1
      unfold dictT at e
      cases u with
      | tup xs =>
        dsimp only at e
        split at e
        · rename_i kvs eb
          cases e
          obtain ⟨fd, hf, _, _⟩ := litF_ok hlit
          obtain ⟨hb, hl, hg⟩ := A.top.fn f fd hf
          obtain ⟨hm, hk⟩ := hg c3
          have g1 := A.gl c1
          have g2 := A.gl c2
          obtain ⟨rfl, _, hd1⟩ := gB_ok c1
          obtain ⟨rfl, _, hd2⟩ := gB_ok c2
          have F := A.dfs d (Nat.le_refl _) f hlit
          obtain ⟨b1, b2⟩ := bf_boot .dict
          intro pins sh I
          refine (pe_callTy (call_dictT A.calm) g1 (A.top.bf .dict) b1 (pa_cons (pe_call0 F A.room g2 hm hk hb .nil pass0 hd2) pa_nil (star_cons rfl)) b2 hd1 (star_cons rfl) (star_any rfl)).run pins sh t H Q I ?_
          refine ⟨rfl, io, st, xs, st1, R, e1, fun io1 H1 a o ys u1 R1 h1 h2 r1 => ?_⟩
          obtain ⟨ps, kws, rfl, hp, hk2⟩ := pairs_okV r1 eb
          exact ⟨a, o, ps, kws, rfl, h1, h2, hp, fun q hq => (p.after u1).made (u := .dK (mergeK [] kws)) R1 (fun a ha => .dK upd_same ((RKs.merge hk2 .nil).up (Up.new _ ha))) q hq⟩
        · cases e
      | _ => cases e
    · cases e
  · cases hc
theorem uniqI_mem : ∀ (is : List Int) (k : Int), k ∈ uniqI is ↔ k ∈ is
  | [], k => by simp [uniqI]
  | x :: r, k => by
    have ih := uniqI_mem r k
    unfold uniqI
    split
    · rename_i h
      rw [ih, List.mem_cons]
      exact ⟨.inr, fun z => z.elim (fun e => by rw [e]; exact h) id⟩
    · rw [List.mem_cons, List.mem_cons, ih]
theorem uniqI_nodup : ∀ is : List Int, (uniqI is).Nodup
  | [] => by simp [uniqI]
  | x :: r => by
    unfold uniqI
    split
    · exact uniqI_nodup r
    · rename_i h
      exact List.nodup_cons.mpr ⟨fun z => h ((uniqI_mem r x).mp z), uniqI_nodup r⟩
theorem uniq_sset {ns is : List Int} (h1 : ns.Pairwise (· < ·)) (h2 : ∀ k, k ∈ ns ↔ k ∈ is) : ns = (uniqI is).mergeSort (fun i j => decide (i ≤ j)) := by
  refine sort_uniq ?_ (h1.imp fun h => Int.le_of_lt h)
  have nd1 : ns.Nodup := h1.imp fun h => Int.ne_of_lt h
  have nd2 : (uniqI is).Nodup := uniqI_nodup is
  refine (List.perm_ext_iff_of_nodup nd1 nd2).mpr fun k => ?_
  rw [h2 k, uniqI_mem]
theorem se_sset {a : E} (ha : SE T d N a) : SE T d N (.sset a) := by
  intro X sc ow q A hc s st v st' io H t Q rs R e p
  simp only [chE] at hc
  split at hc
  · rename_i x p1 y p2 q1 pos2 pos
    simp only [Bool.and_eq_true] at hc
    obtain ⟨⟨⟨c1, c2⟩, c3⟩, c4⟩ := hc
    simp only [ev] at e
    obtain ⟨u, st1, e1, e⟩ := bind_eq_ok.mp e
    unfold ssetV at e
    split at e
    · split at e
      · rename_i is eb
        split at e
        · rename_i hlen
          cases e
          have g1 := A.gl c1
          have g2 := A.gl c2
          obtain ⟨rfl, _, hd1⟩ := gB_ok c1
          obtain ⟨rfl, _, hd2⟩ := gB_ok c2
          obtain ⟨b1, b2⟩ := bf_boot .sorted
          obtain ⟨b3, b4⟩ := bf_boot .set
          intro pins sh I
          refine (pe_callB (cr_sortedSet A.calm) g1 (A.top.bf .sorted) b1 (pa_cons (pe_callTy (cr_setT A.calm) g2 (A.top.bf .set) b3 (pa_cons pe_sem pa_nil (star_cons c4)) b4 hd2 (star_cons c4) (star_any rfl)) pa_nil (star_cons rfl)) b2 hd1 (star_cons rfl) (star_any rfl)).run pins sh t H Q I ?_
          refine ha X sc ow _ A c3 s st _ st1 io H t _ rs R e1 fun io1 H1 w u1 R1 r1 => ?_
          obtain ⟨l, ys, rfl, sq, rs1⟩ := r1.itup
          obtain rfl := ints_ok rs1 eb
          refine ⟨l, is, rfl, sq.sqT, by have : (64 : Nat) < scanBound := by decide
                                         omega, fun q c hcl hq => ?_⟩
          refine ⟨q, _, c, rfl, upd_same, by omega, fun ns' q2 h1 h2 h3 hq2 => ?_⟩
          obtain ⟨u2, R2⟩ := R1.laidO (SetO X.w q (fun j => decide (j ∈ is)) c) hq
          rw [uniq_sset (is := is) h1 (fun k => by rw [h2 k, decide_eq_true_eq])]
          exact ((p.after u1).after u2).list R2 (ints_rvs _) q2 hq2
        · cases e
      · cases e
    · cases e
  · cases hc
theorem se_lrg2 {a b : E} (ha : SE T d N a) (hb : SE T d N b) : SE T d N (.lrg2 a b) := by
  intro X sc ow q A hc s st v st' io H t Q rs R e p
  simp only [chE] at hc
  split at hc
  · simp only [Bool.and_eq_true] at hc
    obtain ⟨⟨⟨⟨⟨c1, c2⟩, c3⟩, c4⟩, c5⟩, c6⟩ := hc
    simp only [ev] at e
    obtain ⟨u, st1, e1, e⟩ := bind_eq_ok.mp e
    obtain ⟨u2, st2, e2, e⟩ := bind_eq_ok.mp e
    split at e
    · split at e
      · rename_i hs
        cases e
        have g1 := A.gl c1
        have g2 := A.gl c2
        obtain ⟨rfl, _, _⟩ := gB_ok c1
        obtain ⟨rfl, _, _⟩ := gB_ok c2
        intro pins sh I
        refine (pe_listRg A.calm g1 (A.top.bf .list) (prg_2 g2 A.top.rng pe_sem pe_sem (star_cons c4) (star_cons c6) (by rw [star_cons c6]; rfl)) (star_cons rfl)).run pins sh t H Q I ?_
        refine ha X sc ow _ A c3 s st _ st1 io H t _ rs R e1 fun io1 H1 w u1 R1 r1 => ?_
        refine hb X sc ow _ A c5 s st1 _ _ io1 H1 t _ (rs.up u1) R1 e2 fun io2 H2 w2 u2 R2 r2 => ?_
        obtain rfl := r1.iint
        obtain rfl := r2.iint
        refine ⟨_, _, rfl, rfl, small24_ok hs, fun l hl => ?_⟩
        refine (p.after (u1.trans u2)).list R2 ?_ l hl
        exact rangeL_rv _ _
      · cases e
    · cases e
  · cases hc
theorem se_lzip {a b : E} (ha : SE T d N a) (hb : SE T d N b) : SE T d N (.lzip a b) := by
  intro X sc ow q A hc s st v st' io H t Q rs R e p
  simp only [chE] at hc
  split at hc
  · simp only [Bool.and_eq_true] at hc
    obtain ⟨⟨⟨⟨⟨c1, c2⟩, c3⟩, c4⟩, c5⟩, c6⟩ := hc
    simp only [ev] at e
    obtain ⟨u, st1, e1, e⟩ := bind_eq_ok.mp e
    obtain ⟨u2, st2, e2, e⟩ := bind_eq_ok.mp e
    split at e
    · rename_i xs ys ex ey
      cases e
      have g1 := A.gl c1
      have g2 := A.gl c2
      obtain ⟨rfl, _, _⟩ := gB_ok c1
      obtain ⟨rfl, _, _⟩ := gB_ok c2
      intro pins sh I
      refine (pe_lzip g1 (A.top.bf .list) g2 A.top.zip pe_sem pe_sem (star_cons rfl) (star_cons c4) (star_cons c6) (by rw [star_cons c6]; rfl)).run pins sh t H Q I ?_
      refine ha X sc ow _ A c3 s st _ st1 io H t _ rs R e1 fun io1 H1 w u1 R1 r1 => ?_
      refine hb X sc ow _ A c5 s st1 _ _ io1 H1 t _ (rs.up u1) R1 e2 fun io2 H2 w2 u2 R2 r2 => ?_
      exact zip_ok A.calm R2 (r1.up u2) r2 ex ey (p.after (u1.trans u2))
    · cases e
  · cases hc
theorem se_dzip {a b : E} (ha : SE T d N a) (hb : SE T d N b) : SE T d N (.dzip a b) := by
  intro X sc ow q A hc s st v st' io H t Q rs R e p
  simp only [chE] at hc
  split at hc
  · simp only [Bool.and_eq_true] at hc
    obtain ⟨⟨⟨⟨⟨c1, c2⟩, c3⟩, c4⟩, c5⟩, c6⟩ := hc
    simp only [ev] at e
    obtain ⟨u, st1, e1, e⟩ := bind_eq_ok.mp e
    obtain ⟨u2, st2, e2, e⟩ := bind_eq_ok.mp e
    split at e
    · split at e
      · rename_i xs ys ex ey
        split at e
        · rename_i kvs ek
          cases e
          have g1 := A.gl c1
          have g2 := A.gl c2
          obtain ⟨rfl, _, _⟩ := gB_ok c1
          obtain ⟨rfl, _, _⟩ := gB_ok c2
          intro pins sh I
          refine (pe_dzip g1 (A.top.bf .dict) g2 A.top.zip pe_sem pe_sem (star_cons rfl) (star_cons c4) (star_cons c6) (by rw [star_cons c6]; rfl)).run pins sh t H Q I ?_
          refine ha X sc ow _ A c3 s st _ st1 io H t _ rs R e1 fun io1 H1 w u1 R1 r1 => ?_
          refine hb X sc ow _ A c5 s st1 _ _ io1 H1 t _ (rs.up u1) R1 e2 fun io2 H2 w2 u2 R2 r2 => ?_
          exact dz_ok A.calm R2 (r1.up u2) r2 ex ey ek (p.after (u1.trans u2))
        · cases e
      · cases e
    · cases e
  · cases hc
theorem si_rg1 {a : E} (ha : SE T d N a) : SI T d N (.rg1 a) := by
  intro X sc ow tg it A hc s st q st' io H t Rr rs R e p
  simp only [chI] at hc
  split at hc
  · simp only [Bool.and_eq_true] at hc
    obtain ⟨⟨c1, c2⟩, c3⟩ := hc
    simp only [evw] at e
    obtain ⟨v, st1, e1, e⟩ := bind_eq_ok.mp e
    split at e
    · split at e
      · rename_i hs
        cases e
        have g := A.gl c1
        obtain ⟨rfl, _, _⟩ := gB_ok c1
        intro pins sh I
        refine (pi_range1 g A.top.rng (pa_cons pe_sem pa_nil (star_cons c3)) (star_cons c3)).run pins sh t H Rr I ?_
        refine ha X sc ow _ A c2 s st _ _ io H t _ rs R e1 fun io1 H1 w u1 R1 r1 => ?_
        obtain rfl := r1.iint
        exact ⟨_, rfl, (small62_ok hs).1, (small62_ok hs).2, p io1 H1 _ u1 R1 wlk_range⟩
      · cases e
    · cases e
  · cases hc
theorem si_rg2 {a b : E} (ha : SE T d N a) (hb : SE T d N b) : SI T d N (.rg2 a b) := by
  intro X sc ow tg it A hc s st q st' io H t Rr rs R e p
  simp only [chI] at hc
  split at hc
  · simp only [Bool.and_eq_true] at hc
    obtain ⟨⟨⟨⟨c1, c2⟩, c3⟩, c4⟩, c5⟩ := hc
    simp only [evw] at e
    obtain ⟨v, st1, e1, e⟩ := bind_eq_ok.mp e
    obtain ⟨v2, st2, e2, e⟩ := bind_eq_ok.mp e
    split at e
    · split at e
      · rename_i hs
        cases e
        rw [Bool.and_eq_true] at hs
        have g := A.gl c1
        obtain ⟨rfl, _, _⟩ := gB_ok c1
        intro pins sh I
        refine (pi_range2 g A.top.rng (pa_cons pe_sem (pa_cons pe_sem pa_nil (star_cons c5)) (star_cons c3)) (by rw [star_cons c3, star_cons c5]; rfl) (star_cons c5)).run pins sh t H Rr I ?_
        refine ha X sc ow _ A c2 s st _ st1 io H t _ rs R e1 fun io1 H1 w u1 R1 r1 => ?_
        refine hb X sc ow _ A c4 s st1 _ _ io1 H1 t _ (rs.up u1) R1 e2 fun io2 H2 w2 u2 R2 r2 => ?_
        obtain rfl := r1.iint
        obtain rfl := r2.iint
        exact ⟨_, _, rfl, ⟨(small62_ok hs.1).1, (small62_ok hs.1).2, (small62_ok hs.2).1, (small62_ok hs.2).2⟩, p io2 H2 _ (u1.trans u2) R2 wlk_range⟩
      · cases e
    · cases e
  · cases hc
theorem si_rg3 {a b k : E} (ha : SE T d N a) (hb : SE T d N b) (hk : SE T d N k) : SI T d N (.rg3 a b k) := by
  intro X sc ow tg it A hc s st q st' io H t Rr rs R e p
  simp only [chI] at hc
  split at hc
  · simp only [Bool.and_eq_true] at hc
    obtain ⟨⟨⟨⟨⟨⟨c1, c2⟩, c3⟩, c4⟩, c5⟩, c6⟩, c7⟩ := hc
    simp only [evw] at e
    obtain ⟨v, st1, e1, e⟩ := bind_eq_ok.mp e
    obtain ⟨v2, st2, e2, e⟩ := bind_eq_ok.mp e
    obtain ⟨v3, st3, e3, e⟩ := bind_eq_ok.mp e
    split at e
    · split at e
      · rename_i hs
        cases e
        unfold rgC at hs
        simp only [Bool.and_eq_true, decide_eq_true_eq] at hs
        obtain ⟨⟨⟨h1, h2⟩, h3⟩, h4⟩ := hs
        have g := A.gl c1
        obtain ⟨rfl, _, _⟩ := gB_ok c1
        intro pins sh I
        refine (pi_range3 g A.top.rng (pa_cons pe_sem (pa_cons pe_sem (pa_cons pe_sem pa_nil (star_cons c7)) (star_cons c5)) (star_cons c3)) (star_cons c3) (by rw [star_cons c5, star_cons c7]; rfl)).run pins sh t H Rr I ?_
        refine ha X sc ow _ A c2 s st _ st1 io H t _ rs R e1 fun io1 H1 w u1 R1 r1 => ?_
        refine hb X sc ow _ A c4 s st1 _ _ io1 H1 t _ (rs.up u1) R1 e2 fun io2 H2 w2 u2 R2 r2 => ?_
        refine hk X sc ow _ A c6 s st2 _ _ io2 H2 t _ (rs.up (u1.trans u2)) R2 e3 fun io3 H3 w3 u3 R3 r3 => ?_
        obtain rfl := r1.iint
        obtain rfl := r2.iint
        obtain rfl := r3.iint
        exact ⟨_, _, _, _, rfl, ⟨h1, h2, h3, h4⟩, p io3 H3 _ (u1.trans (u2.trans u3)) R3 wlk_rangeC⟩
      · cases e
    · cases e
  · cases hc
theorem tup_of {tg : Expr} (h : tupB tg = true) : ∃ es k pos, tg = .Tuple es k pos := by
  cases tg <;> first | exact ⟨_, _, _, rfl⟩ | cases h
theorem si_enu {a : E} (ha : SE T d N a) : SI T d N (.enu a) := by
  intro X sc ow tg it A hc s st q st' io H t Rr rs R e p
  simp only [chI] at hc
  split at hc
  · simp only [Bool.and_eq_true] at hc
    obtain ⟨⟨⟨c1, c2⟩, c3⟩, c4⟩ := hc
    obtain ⟨es, k, tp, rfl⟩ := tup_of c4
    simp only [evw] at e
    obtain ⟨v, st1, e1, e⟩ := bind_eq_ok.mp e
    split at e
    · rename_i xs
      cases e
      have g := A.gl c1
      obtain ⟨rfl, _, _⟩ := gB_ok c1
      intro pins sh I
      refine (pi_enumM g A.top.enu (pa_cons pe_sem pa_nil (star_cons c3)) (star_cons c3)).run pins sh t H Rr I ?_
      refine ha X sc ow _ A c2 s st _ _ io H t _ rs R e1 fun io1 H1 w u1 R1 r1 => ?_
      obtain ⟨a1, ys, rfl, sq, r⟩ := r1.itup
      exact ⟨false, _, ys, rfl, sq.sqT, p io1 H1 _ u1 R1 (wlk_enumT sq.sqT r)⟩
    · split at e
      · rename_i i xs em
        cases e
        have g := A.gl c1
        obtain ⟨rfl, _, _⟩ := gB_ok c1
        intro pins sh I
        refine (pi_enum g A.top.enu (pa_cons pe_sem pa_nil (star_cons c3)) (star_cons c3)).run pins sh t H Rr I ?_
        refine ha X sc ow _ A c2 s st _ _ io H t _ rs R e1 fun io1 H1 w u1 R1 r1 => ?_
        obtain ⟨rfl, hi⟩ := r1.iref
        obtain ⟨ys, sl, r, _⟩ := R1.list em
        exact ⟨_, ys, rfl, sl, p io1 H1 _ u1 R1 (wlk_enum hi)⟩
      · cases e
    · cases e
  · cases hc
section
variable {K : PySem.W.Frag} {kt : List (List Val)} {ca io0 : Nat → Addr} {n0 : Nat} {H0 : Hp}
/-- a value that is walked, as it stands later -/
theorem src_later {io : Nat → Addr} {st : Store} {H : Hp} {x : Val} {xs : List Val} {w : V} (R : Rl K kt ca io st H) (r : RV K kt io st.n H x w) (e : itemsOf x st = some xs) :
    ∃ (k : Bool) (a : Addr), w = .ref a ∧ (∃ us, SqK k K H a us) ∧ ∀ (io' : Nat → Addr) (st' : Store) (H' : Hp), Up io st.n H io' st'.n H' → Rl K kt ca io' st' H' → st'.sees (wOf x xs) = true → ∃ us, SqK k K H' a us ∧ RVs K kt io' st'.n H' xs us := by
  cases x with
  | tup ys =>
    cases e
    obtain ⟨a, us, rfl, sq, rs⟩ := r.itup
    exact ⟨false, a, rfl, ⟨us, sq.sqT⟩, fun io' st' H' u _ _ => ⟨us, u.ext.sqT sq.sqT, rs.up u⟩⟩
  | ref i =>
    obtain ⟨rfl, hi⟩ := r.iref
    have em : st.m i = some (.lst xs) := by
      have e : st.lst i = some xs := e
      unfold Store.lst at e
      split at e
      · cases e; assumption
      · cases e
    obtain ⟨us, sl, _, _⟩ := R.list em
    refine ⟨true, io i, rfl, ⟨us, sl⟩, fun io' st' H' u R' h => ?_⟩
    obtain ⟨us, sl, rs, _⟩ := R'.list (sees1 h).1
    rw [u.io i hi] at sl
    exact ⟨us, sl, rs⟩
  | _ => cases e
theorem sees_app {st : Store} : ∀ {w v : Watch}, st.sees (w ++ v) = true → st.sees w = true ∧ st.sees v = true
  | [], _, h => ⟨rfl, h⟩
  | (i, xs) :: r, v, h => by
    rw [List.cons_append, Store.sees, Bool.and_eq_true] at h
    have := sees_app h.2
    exact ⟨by rw [Store.sees, Bool.and_eq_true]; exact ⟨h.1, this.1⟩, this.2⟩
theorem wlk_zipM {k l : Bool} {a b : Addr} {xs ys : List Val} {w v : Watch}
    (s1 : ∀ (io' : Nat → Addr) (st' : Store) (H' : Hp), Up io0 n0 H0 io' st'.n H' → Rl K kt ca io' st' H' → st'.sees w = true → ∃ us, SqK k K H' a us ∧ RVs K kt io' st'.n H' xs us)
    (s2 : ∀ (io' : Nat → Addr) (st' : Store) (H' : Hp), Up io0 n0 H0 io' st'.n H' → Rl K kt ca io' st' H' → st'.sees v = true → ∃ us, SqK l K H' b us ∧ RVs K kt io' st'.n H' ys us) : Wlk K kt ca io0 n0 H0 (ItM k l K a b) (zipL xs ys) (w ++ v) := by
  refine ⟨fun j io st H u R h hj => ?_, fun io st H u R h => ?_, fun j v io st H x H' u R h e y => ?_⟩
  · obtain ⟨us, sl, rs⟩ := s1 io st H u R (sees_app h).1
    obtain ⟨vs, sl2, rs2⟩ := s2 io st H u R (sees_app h).2
    rw [zipL_len] at hj
    obtain ⟨w, ew, _⟩ := rs.get (List.getElem?_eq_getElem (show j < xs.length by omega))
    obtain ⟨w2, ew2, _⟩ := rs2.get (List.getElem?_eq_getElem (show j < ys.length by omega))
    exact ⟨us, vs, w, w2, sl, sl2, ew, ew2⟩
  · obtain ⟨us, sl, rs⟩ := s1 io st H u R (sees_app h).1
    obtain ⟨vs, sl2, rs2⟩ := s2 io st H u R (sees_app h).2
    refine ⟨us, vs, sl, sl2, ?_⟩
    rw [zipL_len, rs.length, rs2.length]
  · obtain ⟨us, sl, rs⟩ := s1 io st H u R (sees_app h).1
    obtain ⟨vs, sl2, rs2⟩ := s2 io st H u R (sees_app h).2
    obtain ⟨z, z2, h1, h2, rfl⟩ := zipL_get _ _ _ _ e
    obtain ⟨a, x', y', rfl, ha, rfl, q, q2⟩ := y
    obtain ⟨w, ew, r⟩ := rs.get h1
    obtain ⟨w2, ew2, r2⟩ := rs2.get h2
    have := q us sl
    rw [ew] at this; cases this
    have := q2 vs sl2
    rw [ew2] at this; cases this
    obtain ⟨u1, R1⟩ := R.laid (ys := [_, _]) ha
    exact ⟨u1, R1, .tup (.inl upd_same) (.cons (r.up u1) (.cons (r2.up u1) .nil))⟩
end
theorem si_zip {a b : E} (ha : SE T d N a) (hb : SE T d N b) : SI T d N (.zip a b) := by
  intro X sc ow tg it A hc s st q st' io H t Rr rs R e p
  simp only [chI] at hc
  split at hc
  · simp only [Bool.and_eq_true] at hc
    obtain ⟨⟨⟨⟨⟨c1, c2⟩, c3⟩, c4⟩, c5⟩, c6⟩ := hc
    obtain ⟨es, k, tp, rfl⟩ := tup_of c6
    simp only [evw] at e
    obtain ⟨v, st1, e1, e⟩ := bind_eq_ok.mp e
    obtain ⟨v2, st2, e2, e⟩ := bind_eq_ok.mp e
    have g := A.gl c1
    obtain ⟨rfl, _, _⟩ := gB_ok c1
    intro pins sh I
    refine (pi_zipM g A.top.zip (pa_cons pe_sem (pa_cons pe_sem pa_nil (star_cons c5)) (star_cons c3)) (star_cons c3) (star_any (by simp [c5]))).run pins sh t H Rr I ?_
    refine ha X sc ow _ A c2 s st _ st1 io H t _ rs R e1 fun io1 H1 w u1 R1 r1 => ?_
    refine hb X sc ow _ A c4 s st1 _ _ io1 H1 t _ (rs.up u1) R1 e2 fun io2 H2 w2 u2 R2 r2 => ?_
    split at e
    · rename_i em em2
      cases e
      obtain ⟨k1, a1, e3, ⟨us, sl⟩, g1⟩ := src_later R2 (r1.up u2) em
      obtain ⟨k2, a2, e4, ⟨vs, sl2⟩, g2⟩ := src_later R2 r2 em2
      exact ⟨k1, k2, a1, a2, us, vs, by rw [e3, e4], sl, sl2, p io2 H2 _ (u1.trans u2) R2 (wlk_zipM g1 g2)⟩
    · cases e
  · cases hc

/-! ### targets -/
def setAllV : List Nat → List V → L2.St → L2.St
  | i :: is, v :: vs, s => setAllV is vs (s.set i (some v))
  | _, _, s => s
def setTgV (t : Tg) (w : V) (ws : List V) (s : L2.St) : L2.St := match t with
  | .one i => s.set i (some w)
  | .many is => setAllV is ws s
def tgIx : Tg → List Nat
  | .one i => [i]
  | .many is => is
theorem setAll_rs {K : PySem.W.Frag} {kt : List (List Val)} {io : Nat → Addr} {n : Nat} {H : Hp} : ∀ {is : List Nat} {vs : List Val} {ws : List V} {s s' : Env} {t : L2.St}, RS K kt io n H s t → RVs K kt io n H vs ws → setAll is vs s = some s' → RS K kt io n H s' (setAllV is ws t) ∧ is.length = ws.length
  | [], [], _, s, s', t, r, .nil, e => by cases e; exact ⟨r, rfl⟩
  | i :: is, v :: vs, _, s, s', t, r, .cons a b, e => by
    obtain ⟨h1, h2⟩ := setAll_rs (r.set a i) b e
    exact ⟨h1, by rw [List.length_cons, List.length_cons, h2]⟩
  | [], v :: vs, _, s, s', t, r, .cons a b, e => by cases e
  | i :: is, [], _, s, s', t, r, .nil, e => by cases e
/-- names stored one after another -/
theorem names_pgs {X : Cx} {sc : Scope} {ow : Str → Bool} (A : At T d X N sc ow) : ∀ {is : List Nat} {es : List Expr}, namesB N sc ow is es = true → ∃ g, PGs X es g ∧ (assignEach es X.env).length = is.length ∧ (assignEach es X.env).findIdx? (·.1) = none ∧
    ∀ (ws : List V) (t : L2.St) (H : Hp) (Q : L2.St → Hp → Prop), is.length = ws.length → Q (setAllV is ws t) H → g ws t H Q
  | [], [], _ => ⟨_, pgs_nil, rfl, rfl, fun ws t H Q hl q => by
      cases ws with
      | nil => exact ⟨rfl, q⟩
      | cons _ _ => cases hl⟩
  | i :: is, .Name x pos :: es, h => by
    unfold namesB at h
    rw [Bool.and_eq_true] at h
    obtain ⟨g, h1, h2, h3, h4⟩ := names_pgs A h.2
    have hs := h.1
    unfold stB at hs
    rw [Bool.and_eq_true, decide_eq_true_eq] at hs
    obtain ⟨l1, l2⟩ := locB_ok hs.2
    have pn : PG X (.Name x pos) (gName i) := pg_name (by rw [A.hN]; exact A.nd) (by rw [A.hN]; exact hs.1) (by rw [A.hsc]; exact l1) (by rw [A.hsc]; exact l2.imp (A.how x) id)
    refine ⟨_, pgs_cons pn h1 (by rfl), ?_, ?_, fun ws t H Q hl q => ?_⟩
    · show ((false, _) :: assignEach es X.env).length = _
      rw [List.length_cons, List.length_cons, h2]
    · show ((false, assign (.Name x pos) X.env) :: assignEach es X.env).findIdx? (·.1) = none
      rw [List.findIdx?_cons, h3]; rfl
    · cases ws with
      | nil => cases hl
      | cons w ws => exact ⟨w, ws, rfl, h4 ws _ H Q (by simpa using hl) q⟩
  | [], _ :: _, h => by unfold namesB at h; cases h
  | _ :: _, [], h => by unfold namesB at h; cases h
theorem tg_pg {X : Cx} {sc : Scope} {ow : Str → Bool} (A : At T d X N sc ow) {tt : Tg} {tg : Expr} (h : tgB N sc ow tt tg = true) : ∃ g, PG X tg g ∧
    ∀ (v : Val) (s s' : Env) (io : Nat → Addr) (n : Nat) (H : Hp) (w : V) (t : L2.St) (Q : L2.St → Hp → Prop), RS X.K T.G.kt io n H s t → RV X.K T.G.kt io n H v w → setTg tt v s = some s' →
      (∀ ws, RS X.K T.G.kt io n H s' (setTgV tt w ws t) → Q (setTgV tt w ws t) H) → g w t H Q := by
  cases tt with
  | one i =>
    cases tg with
    | Name x pos =>
      unfold tgB at h
      unfold stB at h
      rw [Bool.and_eq_true, decide_eq_true_eq] at h
      obtain ⟨l1, l2⟩ := locB_ok h.2
      refine ⟨_, pg_name (by rw [A.hN]; exact A.nd) (by rw [A.hN]; exact h.1) (by rw [A.hsc]; exact l1) (by rw [A.hsc]; exact l2.imp (A.how x) id), fun v s s' io n H w t Q rs r e q => ?_⟩
      cases e
      exact q [] (rs.set r i)
    | _ => cases h
  | many is =>
    cases tg with
    | Tuple es k pos =>
      unfold tgB at h
      obtain ⟨g, h1, h2, h3, h4⟩ := names_pgs A h
      refine ⟨_, pg_tup A.calm h1 h2 h3, fun v s s' io n H w t Q rs r e q => ?_⟩
      unfold setTg at e
      cases r with
      | tup sq rr =>
        obtain ⟨z, hl⟩ := setAll_rs rs rr e
        exact ⟨_, _, rfl, sq.sqT, hl.symm, h4 _ t H Q hl (q _ z)⟩
      | _ => cases e
    | _ => cases h
end
end CL

/-! CL, part j: comprehensions; statements -/
namespace CL
open PySem PySem.Spec PyProof.Rows L2
section
variable {T : Tab} {d : Nat} {N : List Str}
theorem wipe_get {s : L2.St} {i : Nat} : ∀ {vs : List Nat}, (L2.wipe s vs)[i]? = if i ∈ vs then (if i < s.length then some none else none) else s[i]?
  | [] => by simp [L2.wipe]
  | v :: vs => by
    unfold L2.wipe
    rw [List.getElem?_set, wipe_get (vs := vs), wipe_length]
    by_cases h : v = i
    · subst h; simp
    · have : ¬ i = v := fun z => h z.symm
      simp [h, this]
theorem setAllV_get : ∀ {is : List Nat} {ws : List V} {s : L2.St} {j : Nat}, j ∉ is → (setAllV is ws s)[j]? = s[j]?
  | [], ws, s, j, _ => by cases ws <;> rfl
  | i :: is, [], s, j, _ => rfl
  | i :: is, w :: ws, s, j, h => by
    simp only [List.mem_cons, not_or] at h
    show (setAllV is ws (s.set i (some w)))[j]? = _
    rw [setAllV_get h.2, List.getElem?_set_ne (fun z => h.1 z.symm)]
theorem setAllV_len : ∀ {is : List Nat} {ws : List V} {s : L2.St}, (setAllV is ws s).length = s.length
  | [], ws, s => by cases ws <;> rfl
  | i :: is, [], s => rfl
  | i :: is, w :: ws, s => by
    show (setAllV is ws (s.set i (some w))).length = _
    rw [setAllV_len, List.length_set]
theorem setTgV_get {tt : Tg} {w : V} {ws : List V} {s : L2.St} {j : Nat} (h : j ∉ tgIx tt) : (setTgV tt w ws s)[j]? = s[j]? := by
  cases tt with
  | one i =>
    have : ¬ i = j := fun z => h (by simp [tgIx, z])
    show (s.set i (some w))[j]? = _
    rw [List.getElem?_set_ne this]
  | many is => exact setAllV_get h
theorem setTgV_len {tt : Tg} {w : V} {ws : List V} {s : L2.St} : (setTgV tt w ws s).length = s.length := by
  cases tt with
  | one i => exact List.length_set
  | many is => exact setAllV_len
theorem wipe_set {tt : Tg} {w : V} {ws : List V} {s : L2.St} {vs : List Nat} (h : ∀ i ∈ tgIx tt, i ∈ vs) : L2.wipe (setTgV tt w ws (L2.wipe s vs)) vs = L2.wipe s vs := by
  apply List.ext_getElem?
  intro i
  rw [wipe_get, wipe_get, setTgV_len, wipe_length]
  by_cases hi : i ∈ vs
  · simp [hi]
  · rw [if_neg hi, if_neg hi, setTgV_get (fun z => hi (h i z)), wipe_get, if_neg hi]
theorem names_own {sc : Scope} {ow : Str → Bool} : ∀ {is : List Nat} {es : List Expr}, namesB N sc ow is es = true → ∀ i ∈ is, ∃ x, N[i]? = some x
  | [], _, _, i, h => absurd h (by simp)
  | i :: is, .Name x pos :: es, h, j, hj => by
    unfold namesB at h
    rw [Bool.and_eq_true] at h
    have hs := h.1
    unfold stB at hs
    rw [Bool.and_eq_true, decide_eq_true_eq] at hs
    rcases List.mem_cons.mp hj with rfl | hj
    · exact ⟨x, hs.1⟩
    · exact names_own h.2 j hj
  | i :: is, [], h, _, _ => by unfold namesB at h; cases h
theorem tg_own {sc : Scope} {ow : Str → Bool} {tt : Tg} {tg : Expr} (h : tgB N sc ow tt tg = true) : ∀ i ∈ tgIx tt, i ∈ (tgOwn N tt).map (·.2) := by
  cases tt with
  | one i =>
    cases tg with
    | Name x pos =>
      unfold tgB at h
      unfold stB at h
      rw [Bool.and_eq_true, decide_eq_true_eq] at h
      intro j hj
      have : j = i := by simpa [tgIx] using hj
      subst this
      simp [tgOwn, h.1]
    | _ => cases h
  | many is =>
    cases tg with
    | Tuple es k pos =>
      unfold tgB at h
      intro j hj
      have hj : j ∈ is := hj
      obtain ⟨x, hx⟩ := names_own h j hj
      rw [List.mem_map]
      refine ⟨(x, j), ?_, rfl⟩
      show (x, j) ∈ is.filterMap _
      rw [List.mem_filterMap]
      exact ⟨j, hj, by rw [hx]⟩
    | _ => cases h
/-- the context of a comprehension's block -/
theorem At.blk {X : Cx} {sc scope : Scope} {ow : Str → Bool} {own : List (Str × Nat)} (A : At T d X N sc ow) (hb : blkC N sc scope own = true) (s : Shared) (H : Hp) (C : Addr) (cl : List (Str × Addr)) (fp : List Addr) :
    At T d (X.blk s H scope (compEnvC scope cl C X.env) fp) N (relS scope sc) (fun x => scope.names.lookup x == some .cell) := by
  refine ⟨A.top, A.fns, A.dfs, A.fnx, A.hN, A.nd, ?_, ?_, fun x h => h, A.calm, A.room⟩
  · show relabel scope X.env = relS scope sc
    rw [← A.hsc]; rfl
  · exact (blkOk_by hb).kind
def wipeE (s : Env) : List Nat → Env
  | [] => s
  | v :: vs => (wipeE s vs).set v none
theorem wipeE_len (s : Env) : ∀ vs, (wipeE s vs).length = s.length
  | [] => rfl
  | v :: vs => by unfold wipeE; rw [List.length_set, wipeE_len s vs]
theorem wipeE_get {s : Env} {i : Nat} : ∀ {vs : List Nat}, (wipeE s vs)[i]? = if i ∈ vs then (if i < s.length then some none else none) else s[i]?
  | [] => by simp [wipeE]
  | v :: vs => by
    unfold wipeE
    rw [List.getElem?_set, wipeE_get (vs := vs), wipeE_len]
    by_cases h : v = i
    · subst h; simp
    · have : ¬ i = v := fun z => h z.symm
      simp [h, this]
theorem set_agree {s u : Env} {i : Nat} {is : List Nat} {o : Option Val} (hl : s.length = u.length) (h : ∀ j, j ∉ i :: is → s[j]? = u[j]?) : ∀ j, j ∉ is → (s.set i o)[j]? = (u.set i o)[j]? := by
  intro j hj
  by_cases e : i = j
  · subst e; rw [List.getElem?_set, List.getElem?_set, hl]
    split
    · split
      · rfl
      · rename_i h1 h2; rfl
    · rename_i h1; exact absurd rfl h1
  · rw [List.getElem?_set_ne e, List.getElem?_set_ne e]
    exact h j (by simp only [List.mem_cons, not_or]; exact ⟨fun z => e z.symm, hj⟩)
theorem setAll_agree : ∀ {is : List Nat} {vs : List Val} {s u s' : Env}, setAll is vs s = some s' → s.length = u.length → (∀ j, j ∉ is → s[j]? = u[j]?) → setAll is vs u = some s'
  | [], [], s, u, s', e, hl, h => by
    cases e
    show some u = some s
    congr 1
    exact (List.ext_getElem? fun j => h j (by simp)).symm
  | i :: is, v :: vs, s, u, s', e, hl, h => by
    have e : setAll is vs (s.set i (some v)) = some s' := e
    show setAll is vs (u.set i (some v)) = some s'
    exact setAll_agree e (by rw [List.length_set, List.length_set, hl]) (set_agree hl h)
  | [], _ :: _, _, _, _, e, _, _ => by cases e
  | _ :: _, [], _, _, _, e, _, _ => by cases e
theorem setTg_agree {tt : Tg} {v : Val} {s u s' : Env} (e : setTg tt v s = some s') (hl : s.length = u.length) (h : ∀ j, j ∉ tgIx tt → s[j]? = u[j]?) : setTg tt v u = some s' := by
  cases tt with
  | one i =>
    cases e
    show some (u.set i (some v)) = some (s.set i (some v))
    congr 1
    exact (List.ext_getElem? fun j => set_agree (is := []) hl h j (by simp)).symm
  | many is =>
    unfold setTg at e ⊢
    cases v with
    | tup xs => exact setAll_agree e hl h
    | _ => cases e
theorem rs_wipe {K : PySem.W.Frag} {kt : List (List Val)} {io : Nat → Addr} {n : Nat} {H : Hp} {s : Env} {t : L2.St} {tt : Tg} {v : Val} {s' : Env} {vs : List Nat} (hv : ∀ i ∈ vs, i ∈ tgIx tt) (rs : RS K kt io n H s t) (e : setTg tt v s = some s') :
    RS K kt io n H (wipeE s vs) (L2.wipe t vs) ∧ setTg tt v (wipeE s vs) = some s' := by
  refine ⟨⟨by rw [wipeE_len, wipe_length, rs.1], fun i u h => ?_⟩, setTg_agree e (wipeE_len _ _).symm fun j hj => ?_⟩
  · rw [wipeE_get] at h
    rw [wipe_get]
    by_cases hi : i ∈ vs
    · rw [if_pos hi] at h
      split at h <;> cases h
    · rw [if_neg hi] at h ⊢
      exact rs.2 i u h
  · rw [wipeE_get, if_neg (fun z => hj (hv j z))]
theorem own_ix {N : List Str} {tt : Tg} : ∀ i ∈ (tgOwn N tt).map (·.2), i ∈ tgIx tt := by
  intro i hi
  obtain ⟨⟨x, j⟩, h, rfl⟩ := List.mem_map.mp hi
  cases tt with
  | one k =>
    unfold tgOwn at h
    simp only at h
    split at h
    · simp at h; simp [tgIx, h.2]
    · simp at h
  | many is =>
    have h : (x, j) ∈ is.filterMap _ := h
    rw [List.mem_filterMap] at h
    obtain ⟨k, hk, e⟩ := h
    split at e
    · cases e; exact hk
    · cases e
theorem lcLoop_inv {D : Nat} {w : Watch} {f : Val → Store → Res (Option Val)} {x : Val} {r : List Val} {st st' : Store} {v : Val} (e : lcLoop D w f (x :: r) st = .ok v st') :
    st.sees w = true ∧ ∃ o st1, f x st = .ok o st1 ∧ ((o = none ∧ lcLoop D w f r st1 = .ok v st') ∨ ∃ y st2 z, o = some y ∧ bmt .append (.ref D) [y] st1 = .ok z st2 ∧ lcLoop D w f r st2 = .ok v st') := by
  unfold lcLoop at e
  split at e
  · rename_i h
    refine ⟨h, ?_⟩
    obtain ⟨o, st1, e1, e⟩ := bind_eq_ok.mp e
    refine ⟨o, st1, e1, ?_⟩
    cases o with
    | none => exact .inl ⟨rfl, e⟩
    | some y =>
      obtain ⟨z, st2, e2, e⟩ := bind_eq_ok.mp e
      exact .inr ⟨y, st2, z, rfl, e2, e⟩
  · cases e
theorem append_inv {D : Nat} {y z : Val} {st st' : Store} (e : bmt .append (.ref D) [y] st = .ok z st') : ∃ xs, st.m D = some (.lst xs) ∧ xs.length < sizeLine ∧ st.ro D = false ∧ st' = st.set D (.lst (xs ++ [y])) := by
  unfold bmt at e
  simp only at e
  cases hm : st.m D with
  | none => rw [hm] at e; cases e
  | some o =>
    rw [hm] at e
    cases o with
    | lst xs =>
      simp only at e
      split at e
      · rename_i hz
        obtain ⟨hr, _, rfl⟩ := wr_inv e
        exact ⟨xs, rfl, hz, hr, rfl⟩
      · cases e
    | _ => cases e
def gtSem (X : Cx) (tg : Expr) : TG := fun v σ H Q => ∀ (pins : List (Addr × Obj)) (s : Shared) (u : Value), Inv X pins σ H s → RelV v u → wpAny (model X.prog X.w) X.A (assign tg X.env u) (fun _ s' => ∃ σ' H', Inv X pins σ' H' s' ∧ Q σ' H') X.xe s
theorem pg_sem {X : Cx} {tg : Expr} : PG X tg (gtSem X tg) := ⟨fun pins s σ H v u Q I r h => h pins s u I r⟩
theorem tg_sem {X : Cx} {sc : Scope} {ow : Str → Bool} (A : At T d X N sc ow) {tt : Tg} {tg : Expr} (h : tgB N sc ow tt tg = true)
    {v : Val} {s s' : Env} {io : Nat → Addr} {n : Nat} {H : Hp} {w : V} {t : L2.St} {Q : L2.St → Hp → Prop} (rs : RS X.K T.G.kt io n H s t) (r : RV X.K T.G.kt io n H v w) (e : setTg tt v s = some s')
    (q : ∀ ws, RS X.K T.G.kt io n H s' (setTgV tt w ws t) → Q (setTgV tt w ws t) H) : gtSem X tg w t H Q := by
  obtain ⟨g, h1, h2⟩ := tg_pg A h
  intro pins sh u I ru
  exact h1.run pins sh t H w u Q I ru (h2 v s s' io n H w t Q rs r e q)
def tsSem (X : Cx) (ifs : List Expr) : TT := fun σ H Q => ∀ (pins : List (Addr × Obj)) (s : Shared), Inv X pins σ H s →
    wpAny (model X.prog X.w) X.A (forIn ifs true fun c r => if r = true then do let ok ← isTrue c X.env (eval c X.env); pure (ForInStep.yield ok) else pure (ForInStep.yield r)) (TP X pins σ Q) X.xe s
theorem tests_ok {c : B} (hb : SB T d N c) {X : Cx} {sc : Scope} {ow : Str → Bool} (A : At T d X N sc ow) {ifs : List Expr} (h : ifsB (fun q => chB T.nm N c sc q) (isYes c) ifs = true)
    {s : Env} {st : Store} {k : Bool} {st' : Store} {io : Nat → Addr} {H : Hp} {t : L2.St} {Q : Bool → Hp → Prop} (rs : RS X.K T.G.kt io st.n H s t) (R : Rl X.K T.G.kt T.ca io st H) (e : ts (T.cx d) c s st = .ok k st')
    (p : PostB X.K T.G.kt T.ca io st H k st' Q) : tsSem X ifs t H Q := by
  intro pins sh I
  cases ifs with
  | nil =>
    cases c with
    | yes =>
      simp only [ts] at e
      cases e
      exact pts_nil.run pins sh t H Q I (p io H (.refl _ _ _) R)
    | _ => cases h
  | cons q r =>
    cases r with
    | nil => exact (pts_one pt_sem).run pins sh t H Q I (hb X sc ow q A h s st k st' io H t Q rs R e p)
    | cons _ _ => cases h
/-- a comprehension's reading -/
theorem lc_read {tt : Tg} {w : I} {c : B} {a : E} (hw : SI T d N w) (hb : SB T d N c) (ha : SE T d N a) {X : Cx} {sc : Scope} {ow : Str → Bool} (A : At T d X N sc ow) {pe tg it : Expr} {ifs : List Expr} {scope : Scope}
    (c1 : chI T.nm N w sc tg it = true) (c2 : blkC N sc scope (tgOwn N tt) = true) (c3 : tgB N (relS scope sc) (fun x => scope.names.lookup x == some .cell) tt tg = true)
    (c4 : ifsB (fun q => chB T.nm N c (relS scope sc) q) (isYes c) ifs = true) (c5 : chE T.nm N a (relS scope sc) pe = true) :
    ∃ g tb te, (∀ (s : Shared) (H : Hp) (C : Addr) (cl : List (Str × Addr)) (fp : List Addr), PG (X.blk s H scope (compEnvC scope cl C X.env) fp) tg g) ∧
      (∀ (s : Shared) (H : Hp) (C : Addr) (cl : List (Str × Addr)) (fp : List Addr), PTs (X.blk s H scope (compEnvC scope cl C X.env) fp) ifs tb) ∧
      (∀ (s : Shared) (H : Hp) (C : Addr) (cl : List (Str × Addr)) (fp : List Addr), PE (X.blk s H scope (compEnvC scope cl C X.env) fp) pe te) ∧
      ∀ (s : Env) (st : Store) (v : Val) (st' : Store) (io : Nat → Addr) (H : Hp) (t : L2.St) (Q : VK), RS X.K T.G.kt io st.n H s t → Rl X.K T.G.kt T.ca io st H → ev (T.cx d) (.lc tt w c a) s st = .ok v st' →
        Post X.K T.G.kt T.ca io st H v st' Q → tLc (wkSem X tg it) g tb te ((tgOwn N tt).map (·.2)) t H Q := by
  refine ⟨fun v σ H Q => ∀ (s : Shared) (H0 : Hp) (C : Addr) (cl : List (Str × Addr)) (fp : List Addr), gtSem (X.blk s H0 scope (compEnvC scope cl C X.env) fp) tg v σ H Q,
    fun σ H Q => ∀ (s : Shared) (H0 : Hp) (C : Addr) (cl : List (Str × Addr)) (fp : List Addr), tsSem (X.blk s H0 scope (compEnvC scope cl C X.env) fp) ifs σ H Q,
    fun σ H Q => ∀ (s : Shared) (H0 : Hp) (C : Addr) (cl : List (Str × Addr)) (fp : List Addr), tSem (X.blk s H0 scope (compEnvC scope cl C X.env) fp) pe σ H Q,
    fun s H C cl fp => ⟨fun pins sh σ H v u Q I r h => h s _ C cl fp pins sh u I r⟩, fun s H C cl fp => ⟨fun pins sh σ H Q I h => h s _ C cl fp pins sh I⟩, fun s H C cl fp => ⟨fun pins sh σ H Q I h => h s _ C cl fp pins sh I⟩, ?_⟩
  intro s st v st' io H t Q rs R e p
  simp only [ev] at e
  obtain ⟨q, st1, e1, e⟩ := bind_eq_ok.mp e
  refine hw X sc ow tg it A c1 s st q st1 io H t _ rs R e1 fun io1 H1 J u1 R1 wl D hD => ?_
  have Rn := R1.new (o := .lst []) (u := .lst []) hD (.lst upd_same .nil)
  have un := Up.new (io := io1) (st := st1) (.lst []) hD
  generalize hf : onLc tt (fun s st => ts (T.cx d) c s st) (fun s st => ev (T.cx d) a s st) s = f at e
  refine ⟨fun i m H' => m = q.1.length - i ∧ i ≤ q.1.length ∧ ∃ (io2 : Nat → Addr) (st2 : Store), Up (ioNew io1 st1.n D) (st1.n + 1) (upd H1 D (.lst [])) io2 st2.n H' ∧ Rl X.K T.G.kt T.ca io2 st2 H' ∧ lcLoop st1.n q.2 f (q.1.drop i) st2 = .ok v st',
    ⟨_, rfl, Nat.zero_le _, _, _, .refl _ _ _, Rn, by rw [List.drop_zero]; exact e⟩, ?_⟩
  rintro i m H2 ⟨rfl, hi, io2, st2, u2, R2, e2⟩
  have U2 := un.trans u2
  by_cases hlt : i < q.1.length
  · rw [List.drop_eq_getElem_cons hlt] at e2
    obtain ⟨hse, o, st3, e3, e4⟩ := lcLoop_inv e2
    refine .inr ⟨wl.go i io2 st2 H2 U2 R2 hse hlt, fun H' => ∃ (io3 : Nat → Addr) (st3 : Store), Up (ioNew io1 st1.n D) (st1.n + 1) (upd H1 D (.lst [])) io3 st3.n H' ∧ Rl X.K T.G.kt T.ca io3 st3 H' ∧ lcLoop st1.n q.2 f (q.1.drop (i + 1)) st3 = .ok v st',
      fun H' ⟨io3, st3, a1, a2, a3⟩ => ⟨q.1.length - (i + 1), by omega, rfl, hlt, io3, st3, a1, a2, a3⟩, fun x H3 hy => ?_⟩
    obtain ⟨u3, R3, r3⟩ := wl.yld i _ io2 st2 H2 x H3 U2 R2 hse (List.getElem?_eq_getElem hlt) hy
    rw [← hf] at e3
    unfold onLc at e3
    split at e3
    · cases e3
    · rename_i s' es
      obtain ⟨b, st4, e5, e6⟩ := bind_eq_ok.mp e3
      have U3 := U2.trans u3
      obtain ⟨rw1, rw2⟩ := rs_wipe (vs := (tgOwn N tt).map (·.2)) own_ix (rs.up (u1.trans U3)) es
      intro sh0 H00 C0 cl0 fp0
      refine tg_sem (A.blk c2 sh0 H00 C0 cl0 fp0) c3 rw1 r3 rw2 fun ws rs3 => ⟨wipe_set (tg_own c3), ?_⟩
      intro sh1 H01 C1 cl1 fp1
      refine tests_ok hb (A.blk c2 sh1 H01 C1 cl1 fp1) c4 rs3 R3 e5 fun io4 H4 u4 R4 => ?_
      cases b with
      | false =>
        rw [if_neg (by decide)] at e6 ⊢
        cases e6
        rcases e4 with ⟨_, e4⟩ | ⟨_, _, _, z, _⟩
        · exact ⟨io4, _, u2.trans (u3.trans u4), R4, e4⟩
        · cases z
      | true =>
        rw [if_pos rfl] at e6 ⊢
        obtain ⟨y, st5, e7, e8⟩ := bind_eq_ok.mp e6
        cases e8
        intro sh2 H02 C2 cl2 fp2
        refine ha _ _ _ pe (A.blk c2 sh2 H02 C2 cl2 fp2) c5 s' st4 y _ io4 H4 _ _ (rs3.up u4) R4 e7 fun io5 H5 w5 u5 R5 r5 => ?_
        rcases e4 with ⟨z, _⟩ | ⟨y', st6, z6, z, e8, e9⟩
        · cases z
        · cases z
          obtain ⟨acc, hm, hz, hr, rfl⟩ := append_inv e8
          have hD5 : st1.n < _ := Nat.lt_of_lt_of_le (Nat.lt_succ_self _) (u2.trans (u3.trans (u4.trans u5))).le
          have ioD : io5 st1.n = D := by rw [(u2.trans (u3.trans (u4.trans u5))).io _ (Nat.lt_succ_self _), ioNew_at]
          obtain ⟨ys, _, rl, hl⟩ := R5.list hm
          have hl5 := hl hr
          have up := Up.wr (io := io5) (st := st3) (.lst (ys ++ [w5])) hl5 trivial
          have R6 := R5.wr (u := .lst (ys ++ [w5])) hD5 hr (.lst upd_same ((rl.append (.cons r5 .nil)).up up))
          rw [ioD] at hl5 up R6
          exact ⟨ys, hl5, by rw [← rl.length]; exact hz, io5, st3.set st1.n (.lst (acc ++ [y])), (u2.trans (u3.trans (u4.trans u5))).trans up, R6, e9⟩
  · have hi' : i = q.1.length := by omega
    subst hi'
    rw [List.drop_length] at e2
    unfold lcLoop at e2
    split at e2
    · rename_i hse
      cases e2
      refine .inl ⟨wl.stop io2 _ H2 U2 R2 hse, p io2 H2 _ (u1.trans U2) R2 ?_⟩
      have ioD : io2 st1.n = D := by rw [u2.io _ (Nat.lt_succ_self _), ioNew_at]
      have h : RV X.K T.G.kt io2 st'.n H2 (.ref st1.n) (.ref (io2 st1.n)) := .ref (Nat.lt_of_lt_of_le (Nat.lt_succ_self _) u2.le)
      rw [ioD] at h; exact h
    · cases e2
theorem lc_ch {tt : Tg} {w : I} {c : B} {a : E} {sc : Scope} {p : Expr} (hc : chE T.nm N (.lc tt w c a) sc p = true) : ∃ pe tg it ifs scope pos, p = .ListComp pe [⟨tg, it, ifs, 0⟩] scope pos ∧ chI T.nm N w sc tg it = true ∧ noset it = true ∧ blkC N sc scope (tgOwn N tt) = true ∧
    tgB N (relS scope sc) (fun x => scope.names.lookup x == some .cell) tt tg = true ∧ ifsB (fun q => chB T.nm N c (relS scope sc) q) (isYes c) ifs = true ∧ chE T.nm N a (relS scope sc) pe = true := by
  simp only [chE] at hc
  split at hc
  · rename_i pe tg it ifs scope pos
    simp only [Bool.and_eq_true] at hc
    obtain ⟨⟨⟨⟨⟨c1, c2⟩, c3⟩, c4⟩, c5⟩, c6⟩ := hc
    exact ⟨pe, tg, it, ifs, scope, pos, rfl, c1, c2, c3, c4, c5, c6⟩
  · cases hc
theorem se_lc {tt : Tg} {w : I} {c : B} {a : E} (hw : SI T d N w) (hb : SB T d N c) (ha : SE T d N a) : SE T d N (.lc tt w c a) := by
  intro X sc ow q A hc s st v st' io H t Q rs R e p
  obtain ⟨pe, tg, it, ifs, scope, pos, rfl, c1, c2, c3, c4, c5, c6⟩ := lc_ch hc
  obtain ⟨g, tb, te, h1, h2, h3, h4⟩ := lc_read hw hb ha A c1 c3 c4 c5 c6
  intro pins sh I
  exact (pe_lc A.calm (by rw [A.hN]; exact A.nd) pi_sem (by rw [A.hN, A.hsc]; exact blkOk_by c3) h1 h2 h3 (folded c2)).run pins sh t H Q I (h4 s st v st' io H t Q rs R e p)
end
end CL

/-! CL, part k: statements -/
namespace CL
open PySem PySem.Spec PyProof.Rows L2
def PostF (K : PySem.W.Frag) (kt : List (List Val)) (ca io : Nat → Addr) (st : Store) (H : Hp) (fl : Fl) (st' : Store) (D : Ends) : Prop := match fl with
  | .nx s => ∀ (io' : Nat → Addr) (H' : Hp) (t : L2.St), Up io st.n H io' st'.n H' → Rl K kt ca io' st' H' → RS K kt io' st'.n H' s t → D.nx t H'
  | .rt v => ∀ (io' : Nat → Addr) (H' : Hp) (w : V), Up io st.n H io' st'.n H' → Rl K kt ca io' st' H' → RV K kt io' st'.n H' v w → D.rt w H'
  | .bk s => ∀ (io' : Nat → Addr) (H' : Hp) (t : L2.St), Up io st.n H io' st'.n H' → Rl K kt ca io' st' H' → RS K kt io' st'.n H' s t → D.bk t H'
  | .ct s => ∀ (io' : Nat → Addr) (H' : Hp) (t : L2.St), Up io st.n H io' st'.n H' → Rl K kt ca io' st' H' → RS K kt io' st'.n H' s t → D.ct t H'
theorem PostF.after {K : PySem.W.Frag} {kt : List (List Val)} {ca io io1 : Nat → Addr} {st st1 st' : Store} {H H1 : Hp} {fl : Fl} {D : Ends} (p : PostF K kt ca io st H fl st' D) (u : Up io st.n H io1 st1.n H1) : PostF K kt ca io1 st1 H1 fl st' D := by
  cases fl with
  | nx s => exact fun io' H' t u' R r => p io' H' t (u.trans u') R r
  | rt s => exact fun io' H' t u' R r => p io' H' t (u.trans u') R r
  | bk s => exact fun io' H' t u' R r => p io' H' t (u.trans u') R r
  | ct s => exact fun io' H' t u' R r => p io' H' t (u.trans u') R r
def xSem (X : Cx) (p : Stmt) : TS := fun D σ H => ∀ (pins : List (Addr × Obj)) (s : Shared), Inv X pins σ H s → wpAny (model X.prog X.w) X.A (PySem.exec p X.env) (L2.SP X pins D) X.xe s
theorem ps_sem {X : Cx} {p : Stmt} : PS X p (xSem X p) := ⟨fun pins s σ H D I h => h pins s I⟩
def xsSem (X : Cx) (ps : List Stmt) : TS := fun D σ H => ∀ (pins : List (Addr × Obj)) (s : Shared), Inv X pins σ H s → wpAny (model X.prog X.w) X.A (PySem.execs ps X.env) (L2.SP X pins D) X.xe s
theorem pss_sem {X : Cx} {ps : List Stmt} : PSs X ps (xsSem X ps) := ⟨fun pins s σ H D I h => h pins s I⟩
structure AtS (T : Tab) (d : Nat) (X : Cx) (N : List Str) (sc : Scope) (ow : Str → Bool) : Prop extends At T d X N sc ow where
  own : PassesOwn (model X.prog X.w) X.A X.env X.xe
  stk : X.stack = X.env :: X.outer
  frm : X.env.frame = some X.env.locals
  ex0 : X.ex = []
def SS (T : Tab) (d : Nat) (N : List Str) (x : S) : Prop := ∀ (X : Cx) (sc : Scope) (ow : Str → Bool) (p : Stmt), AtS T d X N sc ow → chS T.nm N sc ow x p = true →
  ∀ (s : Env) (st : Store) (fl : Fl) (st' : Store) (io : Nat → Addr) (H : Hp) (t : L2.St) (D : Ends), RS X.K T.G.kt io st.n H s t → Rl X.K T.G.kt T.ca io st H → exec (T.cx d) x s st = .ok fl st' →
    PostF X.K T.G.kt T.ca io st H fl st' D → xSem X p D t H
def SSs (T : Tab) (d : Nat) (N : List Str) (x : Ss) : Prop := ∀ (X : Cx) (sc : Scope) (ow : Str → Bool) (ps : List Stmt), AtS T d X N sc ow → chSs T.nm N sc ow x ps = true →
  ∀ (s : Env) (st : Store) (fl : Fl) (st' : Store) (io : Nat → Addr) (H : Hp) (t : L2.St) (D : Ends), RS X.K T.G.kt io st.n H s t → Rl X.K T.G.kt T.ca io st H → execs (T.cx d) x s st = .ok fl st' →
    PostF X.K T.G.kt T.ca io st H fl st' D → xsSem X ps D t H
section
variable {T : Tab} {d : Nat} {N : List Str}
theorem nolc_or {e : E} {sc : Scope} {p : Expr} (h : chE T.nm N e sc p = true) : nolc p = true ∨ ∃ tt w c a, e = .lc tt w c a := by
  cases p with
  | ListComp _ _ _ _ => cases e <;> first | (simp [chE, nolc] at h; done) | exact .inr ⟨_, _, _, _, rfl⟩
  | SetComp _ _ _ _ => cases e <;> (simp [chE, nolc] at h)
  | DictComp _ _ _ _ _ => cases e <;> (simp [chE, nolc] at h)
  | _ => exact .inl rfl
/-! ### one target -/
theorem stB_ok {X : Cx} {sc : Scope} {ow : Str → Bool} (A : At T d X N sc ow) {i : Nat} {x : Str} (h : stB N sc ow i x = true) : X.N[i]? = some x ∧ Loc X.env.scope x ∧ (X.fn x = true ∨ X.env.scope.names.lookup x = some .local) := by
  unfold stB at h
  rw [Bool.and_eq_true, decide_eq_true_eq] at h
  obtain ⟨l1, l2⟩ := locB_ok h.2
  rw [A.hN, A.hsc]
  exact ⟨h.1, l1, l2.imp (A.how x) id⟩
theorem At.nodup {X : Cx} {sc : Scope} {ow : Str → Bool} (A : At T d X N sc ow) : X.N.Nodup := by rw [A.hN]; exact A.nd
theorem swap_lc {elt : Expr} {gs : List Comprehension} {scope : Scope} {pos py : Pos} {y : Str} {l : Nat} {env : PySem.Env} (hk : env.scope.kind = .function) :
    swapsWith (.ListComp elt gs scope pos) (some (.Name y py)) l env = pure (lcSw env.scope y py (.ListComp elt gs scope pos)) := by
  have hb : env.blockKind = .function := by unfold PySem.Env.blockKind; rw [hk]; rfl
  unfold swapsWith lcSw
  simp only [hb, Expr.pos, PySem.Env.kindOf]
  rfl
def PostN (K : PySem.W.Frag) (kt : List (List Val)) (ca io : Nat → Addr) (st : Store) (H : Hp) (s' : Env) (st' : Store) (Q : L2.St → Hp → Prop) : Prop :=
  ∀ (io' : Nat → Addr) (H' : Hp) (t : L2.St), Up io st.n H io' st'.n H' → Rl K kt ca io' st' H' → RS K kt io' st'.n H' s' t → Q t H'
theorem sub_asg {X : Cx} {o i : Expr} {pos : Pos} (h : noslice i = true) : ∀ v, assign (.Subscript o i pos) X.env v = (do
      let ov ← holding [v] (eval o X.env)
      let iv ← holding [v, ov] (eval i X.env)
      standAt pos
      holding [v, ov, iv] (setItem ov iv v)
      release [v, ov, iv] []) := fun v => by
  cases i <;> first | rfl | cases h
theorem asg1_sub {a b : E} (ha : SE T d N a) (hb : SE T d N b) {X : Cx} {sc : Scope} {ow : Str → Bool} (A : At T d X N sc ow) {q r : Expr} {pos : Pos} (c1 : chE T.nm N a sc q = true) (c2 : chE T.nm N b sc r = true) (c3 : noslice r = true)
    {v : Val} {s s' : Env} {st st' : Store} {io : Nat → Addr} {H : Hp} {w : V} {t : L2.St} {Q : L2.St → Hp → Prop} (rs : RS X.K T.G.kt io st.n H s t) (R : Rl X.K T.G.kt T.ca io st H) (rv : RV X.K T.G.kt io st.n H v w) (e : asg1 (T.cx d) (.sub a b) v s st = .ok s' st')
    (p : PostN X.K T.G.kt T.ca io st H s' st' Q) : gtSem X (.Subscript q r pos) w t H Q := by
  unfold asg1 at e
  simp only at e
  obtain ⟨x, st1, e1, e⟩ := bind_eq_ok.mp e
  obtain ⟨y, st2, e2, e⟩ := bind_eq_ok.mp e
  obtain ⟨z, st3, e3, e⟩ := bind_eq_ok.mp e
  cases e
  intro pins sh u I ru
  refine (pg_sub pe_sem pe_sem set_sem (sub_asg c3)).run pins sh t H w u Q I ru ?_
  refine ha X sc ow _ A c1 s st x st1 io H t _ rs R e1 fun io1 H1 w1 u1 R1 r1 => ?_
  refine hb X sc ow _ A c2 s st1 y st2 io1 H1 t _ (rs.up u1) R1 e2 fun io2 H2 w2 u2 R2 r2 => ?_
  refine put_ok A.hu R2 (r1.up u2) r2 (rv.up (u1.trans u2)) e3 fun H3 u3 R3 => ?_
  exact p io2 H3 t ((u1.trans u2).trans u3) R3 (rs.up ((u1.trans u2).trans u3))
theorem asg1_one {X : Cx} {sc : Scope} {ow : Str → Bool} (A : At T d X N sc ow) {i : Nat} {x : Str} {pos : Pos} (c1 : stB N sc ow i x = true)
    {v : Val} {s s' : Env} {st st' : Store} {io : Nat → Addr} {H : Hp} {w : V} {t : L2.St} {Q : L2.St → Hp → Prop} (rs : RS X.K T.G.kt io st.n H s t) (R : Rl X.K T.G.kt T.ca io st H) (rv : RV X.K T.G.kt io st.n H v w) (e : asg1 (T.cx d) (.one i) v s st = .ok s' st')
    (p : PostN X.K T.G.kt T.ca io st H s' st' Q) : gtSem X (.Name x pos) w t H Q := by
  cases e
  obtain ⟨h1, h2, h3⟩ := stB_ok A c1
  intro pins sh u I ru
  exact (pg_name A.nodup h1 h2 h3).run pins sh t H w u Q I ru (p io H _ (.refl _ _ _) R (rs.set rv i))
/-! ### x = e -/
theorem ss_asg_one {i : Nat} {a : E} (ha : SE T d N a) (hl : ∀ tt w c b, a = .lc tt w c b → SI T d N w ∧ SB T d N c ∧ SE T d N b) : SS T d N (.asg (.one i) a) := by
  intro X sc ow q A hc s st fl st' io H t D rs R e p
  simp only [chS] at hc
  split at hc
  · rename_i tg v pos
    rw [Bool.and_eq_true] at hc
    obtain ⟨c1, c2⟩ := hc
    split at c2
    · rename_i x px
      simp only [exec, noex_eq_ok] at e
      obtain ⟨u, st1, e1, e⟩ := bind_eq_ok.mp e
      obtain ⟨s1, st2, e2, e⟩ := bind_eq_ok.mp e
      cases e
      cases e2
      obtain ⟨h1, h2, h3⟩ := stB_ok A.toAt c2
      have post : Post X.K T.G.kt T.ca io st H u st' (fun y H1 => gName i y t H1 D.nx) := fun io1 H1 w u1 R1 r1 => p io1 H1 _ u1 R1 ((rs.up u1).set r1 i)
      intro pins sh I
      rcases nolc_or c1 with hn | ⟨tt, w, c, b, rfl⟩
      · exact (ps_set A.nodup h1 h2 pe_sem (swap_none hn) h3).run pins sh t H D I (ha X sc ow v A.toAt c1 s st u st' io H t _ rs R e1 post)
      · obtain ⟨hw, hb, hbe⟩ := hl tt w c b rfl
        obtain ⟨pe, tg, it, ifs, scope, lpos, rfl, d1, d2, d3, d4, d5, d6⟩ := lc_ch c1
        have hsw := swap_lc (elt := pe) (gs := [⟨tg, it, ifs, 0⟩]) (scope := scope) (pos := lpos) (py := px) (y := x) (l := pos.line) (env := X.env) (by rw [A.hsc]; exact A.kind)
        cases hb2 : lcSw X.env.scope x px (.ListComp pe [⟨tg, it, ifs, 0⟩] scope lpos) with
        | false =>
          rw [hb2] at hsw
          exact (ps_set A.nodup h1 h2 pe_sem hsw h3).run pins sh t H D I (ha X sc ow _ A.toAt c1 s st u st' io H t _ rs R e1 post)
        | true =>
          rw [hb2] at hsw
          have hloc : X.env.scope.names.lookup x = some .local := by
            unfold lcSw at hb2
            simp only [Bool.and_eq_true, beq_iff_eq] at hb2
            exact hb2.1.1
          obtain ⟨g, tb, te, k1, k2, k3, k4⟩ := lc_read hw hb hbe A.toAt d1 d3 d4 d5 d6
          exact (ps_setLc A.calm A.nodup h1 hloc hsw pi_sem (by rw [A.hN, A.hsc]; exact blkOk_by d3) k1 k2 k3 (folded d2)).run pins sh t H D I (k4 s st u st' io H t _ rs R e1 post)
    · cases c2
  · cases hc
theorem ss_asg_sub {a b c : E} (ha : SE T d N a) (hb : SE T d N b) (hv : SE T d N c) : SS T d N (.asg (.sub a b) c) := by
  intro X sc ow q A hc s st fl st' io H t D rs R e p
  simp only [chS] at hc
  split at hc
  · rename_i tg v pos
    rw [Bool.and_eq_true] at hc
    obtain ⟨c1, c2⟩ := hc
    split at c2
    · rename_i x y px
      simp only [Bool.and_eq_true] at c2
      simp only [exec, noex_eq_ok] at e
      obtain ⟨u, st1, e1, e⟩ := bind_eq_ok.mp e
      obtain ⟨s1, st2, e2, e⟩ := bind_eq_ok.mp e
      cases e
      intro pins sh I
      refine (ps_asg pe_sem pg_sem (by unfold swapsWithSole; exact swap_sub) (by rfl) (by rfl)).run pins sh t H D I ?_
      refine hv X sc ow v A.toAt c1 s st u st1 io H t _ rs R e1 fun io1 H1 w u1 R1 r1 => ?_
      exact asg1_sub ha hb A.toAt c2.1.1 c2.1.2 c2.2 (rs.up u1) R1 r1 e2 fun io2 H2 t2 u2 R2 r2 => p io2 H2 t2 (u1.trans u2) R2 r2
    · cases c2
  · cases hc
theorem ss_asg_fld {a c : E} {f : Str} (ha : SE T d N a) (hv : SE T d N c) : SS T d N (.asg (.fld a f) c) := by
  intro X sc ow q A hc s st fl st' io H t D rs R e p
  simp only [chS] at hc
  split at hc
  · rename_i tg v pos
    rw [Bool.and_eq_true] at hc
    obtain ⟨c1, c2⟩ := hc
    split at c2
    · rename_i x g px
      simp only [Bool.and_eq_true, decide_eq_true_eq] at c2
      obtain ⟨rfl, c2⟩ := c2
      simp only [exec, noex_eq_ok] at e
      obtain ⟨u, st1, e1, e⟩ := bind_eq_ok.mp e
      obtain ⟨s1, st2, e2, e⟩ := bind_eq_ok.mp e
      cases e
      unfold asg1 at e2
      simp only at e2
      obtain ⟨x', st3, e3, e2⟩ := bind_eq_ok.mp e2
      obtain ⟨z, st4, e4, e2⟩ := bind_eq_ok.mp e2
      cases e2
      intro pins sh I
      refine (ps_fld pe_sem pe_sem swap_att).run pins sh t H D I ?_
      refine hv X sc ow v A.toAt c1 s st u st1 io H t _ rs R e1 fun io1 H1 w u1 R1 r1 => ?_
      refine ha X sc ow _ A.toAt c2 s st1 x' st3 io1 H1 t _ (rs.up u1) R1 e3 fun io2 H2 w2 u2 R2 r2 => ?_
      unfold putF at e4
      split at e4
      · obtain ⟨rfl, hi⟩ := r2.iref
        split at e4
        · rename_i c fs em
          split at e4
          · rename_i hf
            obtain ⟨hr, _, rfl⟩ := wr_inv e4
            obtain ⟨_, _, dx, gs, h1, rk⟩ := R2.inst em
            obtain ⟨cl, na⟩ := A.top.fl c f hf.1
            refine ⟨_, _, dx, gs, rfl, h1, cl, na, by rw [← rk.length]; exact hf.2, ?_⟩
            have up := Up.wr (io := io2) (st := st3) (.ins (T.ca c) dx (L2.putF f w gs)) h1 trivial
            exact p io2 _ t ((u1.trans u2).trans up) (R2.wr hi hr (.ins upd_same ((rk.setF f (r1.up u2)).up up))) (rs.up ((u1.trans u2).trans up))
          · cases e4
        · cases e4
      · cases e4
    · cases c2
  · cases hc
end
end CL

/-! CL, part l: more statements; a def; the whole -/
namespace CL
open PySem PySem.Spec PyProof.Rows L2
section
variable {T : Tab} {d : Nat} {N : List Str}
/-! ### a, b = e -/
def gsSem (X : Cx) (ts : List Expr) : TGs := fun vs σ H Q => ∀ (pins : List (Addr × Obj)) (s : Shared) (us : List Value), Inv X pins σ H s → Vals vs us → wpAny (model X.prog X.w) X.A (assignInOrder ((assignEach ts X.env).map (·.2)) us) (fun _ s' => ∃ σ' H', Inv X pins σ' H' s' ∧ Q σ' H') X.xe s
theorem pgs_sem {X : Cx} {ts : List Expr} : PGs X ts (gsSem X ts) := ⟨fun pins s σ H vs us Q I r h => h pins s us I r⟩
theorem each_cons {p : Expr} {ps : List Expr} {env : PySem.Env} (h : nostar p = true) : assignEach (p :: ps) env = (false, assign p env) :: assignEach ps env := by
  cases p <;> first | rfl | cases h
theorem each_len {env : PySem.Env} : ∀ {ps : List Expr}, ps.all nostar = true → (assignEach ps env).length = ps.length ∧ (assignEach ps env).findIdx? (·.1) = none
  | [], _ => ⟨rfl, rfl⟩
  | p :: ps, h => by
    rw [List.all_cons, Bool.and_eq_true] at h
    obtain ⟨h1, h2⟩ := each_len (env := env) h.2
    rw [each_cons h.1]
    refine ⟨by rw [List.length_cons, List.length_cons, h1], ?_⟩
    rw [List.findIdx?_cons, h2]; rfl
/-- what each target of a list wants -/
inductive ST (T : Tab) (d : Nat) (N : List Str) : List CL.T → Prop
  | nil : ST T d N []
  | one {i : Nat} {ts : List CL.T} : ST T d N ts → ST T d N (.one i :: ts)
  | sub {a b : E} {ts : List CL.T} : SE T d N a → SE T d N b → ST T d N ts → ST T d N (.sub a b :: ts)
  | fld {a : E} {f : Str} {ts : List CL.T} : ST T d N ts → ST T d N (.fld a f :: ts)
theorem chTL_star {sc : Scope} {ow : Str → Bool} : ∀ {ts : List CL.T} {ps : List Expr}, chTL T.nm N sc ow ts ps = true → ps.all nostar = true ∧ ts.length = ps.length
  | [], [], _ => ⟨rfl, rfl⟩
  | t :: ts, p :: ps, h => by
    unfold chTL at h
    simp only [Bool.and_eq_true] at h
    obtain ⟨h1, h2⟩ := chTL_star h.2
    exact ⟨by rw [List.all_cons, h.1.2, h1]; rfl, by rw [List.length_cons, List.length_cons, h2]⟩
  | [], _ :: _, h => by unfold chTL at h; cases h
  | _ :: _, [], h => by unfold chTL at h; cases h
theorem asgs_sem {X : Cx} {sc : Scope} {ow : Str → Bool} (A : At T d X N sc ow) : ∀ {ts : List CL.T} (_ : ST T d N ts) {ps : List Expr}, chTL T.nm N sc ow ts ps = true →
    ∀ {vs : List Val} {s s' : Env} {st st' : Store} {io : Nat → Addr} {H : Hp} {ws : List V} {t : L2.St} {Q : L2.St → Hp → Prop}, RS X.K T.G.kt io st.n H s t → Rl X.K T.G.kt T.ca io st H → RVs X.K T.G.kt io st.n H vs ws → asgs (T.cx d) ts vs s st = .ok s' st' →
      PostN X.K T.G.kt T.ca io st H s' st' Q → gsSem X ps ws t H Q := by
  intro ts hts
  induction hts with
  | nil =>
    intro ps h vs s s' st st' io H ws t Q rs R rv e p
    cases ps with
    | cons _ _ => unfold chTL at h; cases h
    | nil =>
      cases rv with
      | cons _ _ => cases e
      | nil =>
        cases e
        intro pins sh us I ru
        exact pgs_nil.run pins sh t H [] us Q I ru ⟨rfl, p io H t (.refl _ _ _) R rs⟩
  | one hts ih =>
    intro ps h vs s s' st st' io H ws t Q rs R rv e p
    cases ps with
    | nil => unfold chTL at h; cases h
    | cons q ps =>
      unfold chTL at h
      simp only [Bool.and_eq_true] at h
      cases rv with
      | nil => cases e
      | cons r1 r2 =>
        obtain ⟨s1, st1, e1, e⟩ := bind_eq_ok.mp e
        intro pins sh us I ru
        refine (pgs_cons pg_sem pgs_sem (by rw [each_cons h.1.2]; rfl)).run pins sh t H _ us Q I ru ⟨_, _, rfl, ?_⟩
        have hc := h.1.1
        unfold chTs at hc
        simp only at hc
        split at hc
        · exact asg1_one A hc rs R r1 e1 fun io1 H1 t1 u1 R1 rs1 => ih h.2 rs1 R1 (r2.up u1) e fun io2 H2 t2 u2 R2 rs2 => p io2 H2 t2 (u1.trans u2) R2 rs2
        · cases hc
  | sub ha hb hts ih =>
    intro ps h vs s s' st st' io H ws t Q rs R rv e p
    cases ps with
    | nil => unfold chTL at h; cases h
    | cons q ps =>
      unfold chTL at h
      simp only [Bool.and_eq_true] at h
      cases rv with
      | nil => cases e
      | cons r1 r2 =>
        obtain ⟨s1, st1, e1, e⟩ := bind_eq_ok.mp e
        intro pins sh us I ru
        refine (pgs_cons pg_sem pgs_sem (by rw [each_cons h.1.2]; rfl)).run pins sh t H _ us Q I ru ⟨_, _, rfl, ?_⟩
        have hc := h.1.1
        unfold chTs at hc
        simp only at hc
        split at hc
        · simp only [Bool.and_eq_true] at hc
          exact asg1_sub ha hb A hc.1.1 hc.1.2 hc.2 rs R r1 e1 fun io1 H1 t1 u1 R1 rs1 => ih h.2 rs1 R1 (r2.up u1) e fun io2 H2 t2 u2 R2 rs2 => p io2 H2 t2 (u1.trans u2) R2 rs2
        · cases hc
  | fld hts ih =>
    intro ps h
    cases ps with
    | nil => unfold chTL at h; cases h
    | cons q ps =>
      unfold chTL at h
      simp only [Bool.and_eq_true] at h
      have hc := h.1.1
      unfold chTs at hc
      cases hc
theorem sw_eq {ts : List Expr} {k : Nat} {p : Pos} {value : Expr} {env : PySem.Env} (hk : env.scope.kind = .function) {r : Option (List Str)} (h : swMir env.scope ts value = some r) : swappedStores [.Tuple ts k p] value env = pure r := by
  have hb : env.blockKind = .function := by unfold PySem.Env.blockKind; rw [hk]; rfl
  cases value with
  | Tuple vs k2 p2 =>
    unfold swMir at h
    simp only at h
    unfold swappedStores
    simp only [hb, PySem.Env.kindOf, bne_self_eq_false, Bool.or_false]
    split at h
    · rename_i h1; cases h; exact if_pos h1
    · rename_i h1
      refine (if_neg h1).trans ?_
      split at h
      · rename_i h2; cases h; exact if_pos h2
      · rename_i h2
        refine (if_neg h2).trans ?_
        split at h
        · rename_i h3; cases h; exact if_pos h3
        · rename_i h3
          refine (if_neg h3).trans ?_
          split at h
          · rename_i h4; cases h; exact if_pos h4
          · rename_i h4
            refine (if_neg h4).trans ?_
            split at h
            · cases h
            · rename_i h5; cases h; exact if_neg h5
  | _ => cases h; rfl
theorem ss_asT {ts : List CL.T} {a : E} (hts : ST T d N ts) (ha : SE T d N a) : SS T d N (.asT ts a) := by
  intro X sc ow q A hc s st fl st' io H t D rs R e p
  simp only [chS] at hc
  split at hc
  · rename_i tg k tp v pos
    simp only [Bool.and_eq_true] at hc
    obtain ⟨⟨c1, c2⟩, c3⟩ := hc
    have c3 : swMir sc tg v = some none := by
      split at c3
      · assumption
      · cases c3
    have hw := sw_eq (k := k) (p := tp) (env := X.env) (by rw [A.hsc]; exact A.kind) (by rw [A.hsc]; exact c3)
    obtain ⟨s1, s2⟩ := chTL_star c2
    obtain ⟨l1, l2⟩ := each_len (env := X.env) s1
    simp only [exec, noex_eq_ok] at e
    obtain ⟨u, st1, e1, e⟩ := bind_eq_ok.mp e
    split at e
    · rename_i xs ex
      obtain ⟨s', st2, e2, e⟩ := bind_eq_ok.mp e
      cases e
      have hsw : swapsWithSole [.Tuple tg k tp] v pos.line X.env = pure false := by
        unfold swapsWithSole
        cases v <;> rfl
      intro pins sh I
      have fin : ∀ (io1 : Nat → Addr) (H1 : Hp) (ys : List V), Up io st.n H io1 st1.n H1 → Rl X.K T.G.kt T.ca io1 st1 H1 → RVs X.K T.G.kt io1 st1.n H1 xs ys → gsSem X tg ys t H1 D.nx := fun io1 H1 ys u1 R1 ry =>
        asgs_sem A.toAt hts c2 (rs.up u1) R1 ry e2 fun io2 H2 t2 u2 R2 r2 => p io2 H2 t2 (u1.trans u2) R2 r2
      have hlen : xs.length = tg.length := by
        have : ∀ {ts : List CL.T} {xs : List Val} {s s' : Env} {st st' : Store}, asgs (T.cx d) ts xs s st = .ok s' st' → ts.length = xs.length := by
          intro ts
          induction ts with
          | nil => intro xs s s' st st' e; cases xs with
            | nil => rfl
            | cons _ _ => cases e
          | cons t ts ih => intro xs s s' st st' e; cases xs with
            | nil => cases e
            | cons x xs =>
              obtain ⟨_, _, _, e⟩ := bind_eq_ok.mp e
              rw [List.length_cons, List.length_cons, ih e]
        rw [← this e2, s2]
      unfold itemsOf at ex
      split at ex
      · cases ex
        refine (ps_asg pe_sem (pg_tup A.calm pgs_sem l1 l2) hsw hw (by rfl)).run pins sh t H D I ?_
        refine ha X sc ow v A.toAt c1 s st _ st1 io H t _ rs R e1 fun io1 H1 w u1 R1 r1 => ?_
        obtain ⟨a1, ys, rfl, sq, ry⟩ := r1.itup
        exact ⟨a1, ys, rfl, sq.sqT, by rw [← ry.length]; exact hlen, fin io1 H1 ys u1 R1 ry⟩
      · refine (ps_asg pe_sem (pg_lst A.calm pgs_sem l1 l2) hsw hw (by rfl)).run pins sh t H D I ?_
        refine ha X sc ow v A.toAt c1 s st _ st1 io H t _ rs R e1 fun io1 H1 w u1 R1 r1 => ?_
        obtain ⟨rfl, hi⟩ := r1.iref
        unfold Store.lst at ex
        split at ex
        · rename_i zs em
          cases ex
          obtain ⟨ys, sl, ry, _⟩ := R1.list em
          exact ⟨_, ys, rfl, sl, by rw [← ry.length]; exact hlen, fin io1 H1 ys u1 R1 ry⟩
        · cases ex
      · cases ex
    · cases e
  · cases hc
theorem len2 {α : Type} {l : List α} (h : l.length = 2) : ∃ a b, l = [a, b] := by
  match l, h with
  | [a, b], _ => exact ⟨a, b, rfl⟩
theorem len3 {α : Type} {l : List α} (h : l.length = 3) : ∃ a b c, l = [a, b, c] := by
  match l, h with
  | [a, b, c], _ => exact ⟨a, b, c, rfl⟩
theorem dups2 {x y : Str} (h : ([x, y] : List Str).eraseDups.length = 2) : x ≠ y := by
  rintro rfl
  simp [List.eraseDups, List.eraseDupsBy, List.eraseDupsBy.loop] at h
theorem dups3 {x y z : Str} (h : ([x, y, z] : List Str).eraseDups.length = 3) : x ≠ y ∧ x ≠ z ∧ y ≠ z := by
  refine ⟨?_, ?_, ?_⟩ <;> rintro rfl
  · simp [List.eraseDups, List.eraseDupsBy, List.eraseDupsBy.loop] at h
    split at h <;> simp at h
  · simp [List.eraseDups, List.eraseDupsBy, List.eraseDupsBy.loop] at h
    split at h <;> simp at h
  · simp [List.eraseDups, List.eraseDupsBy, List.eraseDupsBy.loop] at h
    split at h <;> simp at h
theorem fm_all {α β : Type} {f : α → Option β} : ∀ {l : List α}, (l.filterMap f).length = l.length → l.map f = (l.filterMap f).map some
  | [], _ => rfl
  | x :: r, h => by
    rw [List.filterMap_cons] at h ⊢
    cases e : f x with
    | none =>
      rw [e] at h
      have := List.length_filterMap_le f r
      simp only [List.length_cons] at h
      omega
    | some y =>
      rw [e] at h
      simp only [List.length_cons, Nat.add_right_cancel_iff] at h
      rw [List.map_cons, e, fm_all h]
      rfl
theorem sw_some {sc : Scope} {ts vs : List Expr} {k : Nat} {p : Pos} {ns : List Str} (h : swMir sc ts (.Tuple vs k p) = some (some ns)) :
    (ts.length = 2 ∨ ts.length = 3) ∧ vs.length = ts.length ∧ ns.eraseDups.length = ts.length ∧ ∃ l : Nat, ts.map (fun t => match t with | .Name id pos => if sc.names.lookup id == some .local && pos.line == l then some id else none | _ => none) = ns.map some := by
  unfold swMir at h
  simp only at h
  split at h
  · cases h
  · rename_i h1
    split at h
    · cases h
    · split at h
      · cases h
      · rename_i h3
        split at h
        · cases h
        · split at h
          · cases h
          · cases h
            simp only [Bool.or_eq_true, Bool.not_eq_true', bne_iff_ne, ne_eq, not_or, Bool.not_eq_false, beq_iff_eq, Decidable.not_not] at h1 h3
            refine ⟨h1.1, h1.2, by rw [h3.2, h3.1], _, fm_all h3.1⟩

theorem name_some {sc : Scope} {x y : Str} {px : Pos} {l : Nat} (h : (match (Expr.Name x px) with | .Name id pos => if sc.names.lookup id == some .local && pos.line == l then some id else none | _ => none) = some y) : sc.names.lookup x = some .local ∧ y = x := by
  simp only at h
  split at h
  · rename_i hc
    cases h
    rw [Bool.and_eq_true, beq_iff_eq] at hc
    exact ⟨hc.1, rfl⟩
  · cases h
theorem ix_ne {N : List Str} {i j : Nat} {x y : Str} (h1 : N[i]? = some x) (h2 : N[j]? = some y) (h : x ≠ y) : i ≠ j := by
  rintro rfl
  rw [h1] at h2
  exact h (Option.some.inj h2)
theorem ss_par {is : List Nat} {es : Es} (hs : SA T d N es) : SS T d N (.par is es) := by
  intro X sc ow q A hc s st fl st' io H t D rs R e p
  simp only [chS] at hc
  split at hc
  · rename_i tg k tp vs k2 p2 pos
    simp only [Bool.and_eq_true] at hc
    obtain ⟨⟨c1, c2⟩, c3⟩ := hc
    have c3 : ∃ ns, swMir sc tg (.Tuple vs k2 p2) = some (some ns) := by
      split at c3
      · rename_i ns h; exact ⟨ns, h⟩
      · cases c3
    obtain ⟨ns, c3⟩ := c3
    have hw := sw_eq (k := k) (p := tp) (env := X.env) (by rw [A.hsc]; exact A.kind) (by rw [A.hsc]; exact c3)
    obtain ⟨hlen, hv, hd, l, hm⟩ := sw_some c3
    simp only [exec, noex_eq_ok] at e
    obtain ⟨us, st1, e1, e⟩ := bind_eq_ok.mp e
    split at e
    · rename_i s1 es1
      cases e
      have hsw : ∀ tg' vs', swapsWithSole [.Tuple tg' k tp] (.Tuple vs' k2 p2) pos.line X.env = pure false := fun _ _ => rfl
      have fin : ∀ (io1 : Nat → Addr) (H1 : Hp) (ws : List V), Up io st.n H io1 st'.n H1 → Rl X.K T.G.kt T.ca io1 st' H1 → RVs X.K T.G.kt io1 st'.n H1 us ws → is.length = ws.length ∧ D.nx (setAllV is ws t) H1 := fun io1 H1 ws u1 R1 r1 => by
        obtain ⟨z, hl⟩ := setAll_rs (rs.up u1) r1 es1
        exact ⟨hl, p io1 H1 _ u1 R1 z⟩
      intro pins sh I
      cases is with
      | nil =>
        cases tg with
        | nil => simp at hlen
        | cons _ _ => unfold namesB at c2; cases c2
      | cons i is =>
        cases tg with
        | nil => simp at hlen
        | cons t1 tg =>
          cases t1 with
          | Name x px =>
            unfold namesB at c2
            rw [Bool.and_eq_true] at c2
            obtain ⟨ci, c2⟩ := c2
            cases is with
            | nil =>
              cases tg with
              | nil => simp at hlen
              | cons _ _ => unfold namesB at c2; cases c2
            | cons j is =>
              cases tg with
              | nil => simp at hlen
              | cons t2 tg =>
                cases t2 with
                | Name y py =>
                  unfold namesB at c2
                  rw [Bool.and_eq_true] at c2
                  obtain ⟨cj, c2⟩ := c2
                  have hi := (stB_ok A.toAt ci).1
                  have hj := (stB_ok A.toAt cj).1
                  cases is with
                  | nil =>
                    cases tg with
                    | cons _ _ => unfold namesB at c2; cases c2
                    | nil =>
                      have h2 : ns.length = 2 := by have := congrArg List.length hm; simpa using this.symm
                      obtain ⟨a, b, rfl⟩ := len2 h2
                      · simp only [List.map_cons, List.map_nil, List.cons.injEq, and_true] at hm
                        obtain ⟨hx, rfl⟩ := name_some hm.1
                        obtain ⟨hy, rfl⟩ := name_some hm.2
                        match vs, hv, c1, hs X sc ow vs A.toAt c1 with
                        | [v1, v2], hv, c1, hs' =>
                          refine (ps_par A.calm A.nodup hi hj (ix_ne hi hj (dups2 hd)) (by rw [A.hsc]; exact hx) (by rw [A.hsc]; exact hy) pa_sem hw (hsw _ _)).run pins sh t H D I ?_
                          refine hs' s st us st' io H t _ rs R e1 fun io1 H1 ws u1 R1 r1 => ?_
                          obtain ⟨hl, z⟩ := fin io1 H1 ws u1 R1 r1
                          match ws, hl, z with
                          | [w1, w2], hl, z => exact ⟨w1, w2, rfl, z⟩
                  | cons k3 is =>
                    cases tg with
                    | nil => unfold namesB at c2; cases c2
                    | cons t3 tg =>
                      cases t3 with
                      | Name z3 pz =>
                        unfold namesB at c2
                        rw [Bool.and_eq_true] at c2
                        obtain ⟨ck, c2⟩ := c2
                        have hk := (stB_ok A.toAt ck).1
                        cases tg with
                        | cons _ _ => simp at hlen
                        | nil =>
                          cases is with
                          | cons _ _ => unfold namesB at c2; cases c2
                          | nil =>
                            have h2 : ns.length = 3 := by have := congrArg List.length hm; simpa using this.symm
                            obtain ⟨a, b, c, rfl⟩ := len3 h2
                            · simp only [List.map_cons, List.map_nil, List.cons.injEq, and_true] at hm
                              obtain ⟨hx, rfl⟩ := name_some hm.1
                              obtain ⟨hy, rfl⟩ := name_some hm.2.1
                              obtain ⟨hz, rfl⟩ := name_some hm.2.2
                              obtain ⟨n1, n2, n3⟩ := dups3 hd
                              match vs, hv, c1, hs X sc ow vs A.toAt c1 with
                              | [v1, v2, v3], hv, c1, hs' =>
                                refine (ps_par3 A.calm A.nodup hi hj hk (ix_ne hi hj n1) (ix_ne hi hk n2) (ix_ne hj hk n3) (by rw [A.hsc]; exact hx) (by rw [A.hsc]; exact hy) (by rw [A.hsc]; exact hz) pa_sem hw (hsw _ _)).run pins sh t H D I ?_
                                refine hs' s st us st' io H t _ rs R e1 fun io1 H1 ws u1 R1 r1 => ?_
                                obtain ⟨hl, z⟩ := fin io1 H1 ws u1 R1 r1
                                match ws, hl, z with
                                | [w1, w2, w3], hl, z => exact ⟨w1, w2, w3, rfl, z⟩
                      | _ => unfold namesB at c2; cases c2
                | _ => unfold namesB at c2; cases c2
          | _ => unfold namesB at c2; cases c2
    · cases e
  · cases hc

/-! ### x op= e -/
theorem iop_ok {X : Cx} {o : Bop} {a b v : Val} {x y : V} {io : Nat → Addr} {st st' : Store} {H : Hp} {Q : VK} (R : Rl X.K T.G.kt T.ca io st H) (ra : RV X.K T.G.kt io st.n H a x) (rb : RV X.K T.G.kt io st.n H b y) (e : iop o a b st = .ok v st') (p : Post X.K T.G.kt T.ca io st H v st' Q) :
    oSem X (inplaceOp (opOf o)) x y H Q ∧ st' = st := by
  unfold iop at e
  split at e
  · cases e
    obtain rfl := ra.iint
    obtain rfl := rb.iint
    exact ⟨oSem.of iop_add ⟨_, _, rfl, rfl, p.here R (.int _)⟩, rfl⟩
  · cases e
    obtain rfl := ra.iint
    obtain rfl := rb.iint
    exact ⟨oSem.of iop_sub ⟨_, _, rfl, rfl, p.here R (.int _)⟩, rfl⟩
  · cases e
theorem ss_aug {i : Nat} {o : Bop} {a : E} (ha : SE T d N a) : SS T d N (.aug i o a) := by
  intro X sc ow q A hc s st fl st' io H t D rs R e p
  simp only [chS] at hc
  split at hc
  · simp only [Bool.and_eq_true, decide_eq_true_eq] at hc
    obtain ⟨⟨rfl, c1⟩, c2⟩ := hc
    obtain ⟨h1, h2, h3⟩ := stB_ok A.toAt c1
    simp only [exec, noex_eq_ok] at e
    split at e
    · rename_i x ex
      obtain ⟨y, st1, e1, e⟩ := bind_eq_ok.mp (noex_eq_ok.mp e)
      obtain ⟨z, st2, e2, e⟩ := bind_eq_ok.mp e
      cases e
      obtain ⟨w, ew, rw'⟩ := rs.2 i x ex
      intro pins sh I
      refine (ps_aug (ti := oSem X (inplaceOp (opOf o))) A.nodup h1 h2 pe_sem (fun pins s σ H x y v u Q I r1 r2 h => h pins s σ v u I r1 r2) h3).run pins sh t H D I ⟨w, ew, ?_⟩
      refine ha X sc ow _ A.toAt c2 s st y st1 io H t _ rs R e1 fun io1 H1 w1 u1 R1 r1 => ?_
      exact (iop_ok R1 (rw'.up u1) r1 e2 fun io2 H2 w2 u2 R2 r2 => p io2 H2 _ (u1.trans u2) R2 ((rs.up (u1.trans u2)).set r2 i)).1
    · cases e
  · cases hc
theorem aug_store {i : Expr} (h : noslice i = true) : ∀ ov iv new, augStore i ov iv new = (do holding [new, ov, iv] (setItem ov iv new); release [new, ov, iv] []; pure .next) := fun ov iv new => by
  cases i <;> first | rfl | cases h
theorem ss_aus {a b c : E} {o : Bop} (ha : SE T d N a) (hb : SE T d N b) (hv : SE T d N c) : SS T d N (.aus a b o c) := by
  intro X sc ow q A hc s st fl st' io H t D rs R e p
  simp only [chS] at hc
  split at hc
  · simp only [Bool.and_eq_true, decide_eq_true_eq] at hc
    obtain ⟨⟨⟨⟨rfl, c1⟩, c2⟩, c3⟩, c4⟩ := hc
    simp only [exec, noex_eq_ok] at e
    obtain ⟨x, st1, e1, e⟩ := bind_eq_ok.mp e
    obtain ⟨y, st2, e2, e⟩ := bind_eq_ok.mp e
    obtain ⟨old, st3, e3, e⟩ := bind_eq_ok.mp e
    obtain ⟨v, st4, e4, e⟩ := bind_eq_ok.mp e
    obtain ⟨z, st5, e5, e⟩ := bind_eq_ok.mp e
    obtain ⟨n, st6, e6, e⟩ := bind_eq_ok.mp e
    cases e
    obtain ⟨i, v0, w0, rfl, gg⟩ : ∃ (i : Nat) (v0 : Val) (w0 : Unit), x = .ref i ∧ dget T.G.kt (st2.m i) y = some (some old) ∧ st3 = st2 := by
      unfold getD at e3
      split at e3
      · split at e3
        · rename_i h; cases e3; exact ⟨_, old, (), rfl, h, rfl⟩
        · cases e3
      · cases e3
    obtain ⟨gg, rfl⟩ := gg
    have hu := A.hu
    intro pins sh I
    refine (ps_daug (rd := oSem X (inplaceOp (opOf o))) (by omega) pe_sem pe_sem pe_sem (fun pins s σ H x y u v Q I r1 r2 h => h pins s σ u v I r1 r2) (aug_store c3)).run pins sh t H D I ?_
    refine ha X sc ow _ A.toAt c1 s st _ st1 io H t _ rs R e1 fun io1 H1 w1 u1 R1 r1 => ?_
    refine hb X sc ow _ A.toAt c2 s st1 y _ io1 H1 t _ (rs.up u1) R1 e2 fun io2 H2 w2 u2 R2 r2 => ?_
    have r1' := r1.up u2
    obtain ⟨rfl, hi⟩ := r1'.iref
    obtain ⟨rw', g, rr⟩ := dget_ok R2 rfl r2 gg
    cases rw' with
    | none => cases rr
    | some wz =>
      refine ⟨_, wz, rfl, g, ?_⟩
      refine hv X sc ow _ A.toAt c4 s _ v st4 io2 H2 t _ (rs.up (u1.trans u2)) R2 e4 fun io3 H3 w3 u3 R3 r3 => ?_
      refine (iop_ok R3 (RV.up u3 rr) r3 e5 fun io4 H4 w4 u4 R4 r4 => ?_).1
      have U := (u1.trans u2).trans (u3.trans u4)
      have hio : io4 i = io2 i := (u3.trans u4).io i hi
      have hi4 : i < st5.n := Nat.lt_of_lt_of_le hi (u3.trans u4).le
      have r2' := r2.up (u3.trans u4)
      rw [← hio]
      unfold putD at e6
      simp only at e6
      split at e6
      · rename_i kvs em
        split at e6
        · rename_i k ek
          split at e6
          · rename_i hz
            obtain ⟨hr, _, rfl⟩ := wr_inv e6
            obtain rfl := key1_kV r2' ek
            obtain ⟨kws, _, q, hl⟩ := R4.dictK em
            have up := Up.wr (io := io4) (st := st5) (.dK (putK kws k w4)) (hl hr) trivial
            exact ⟨_, .k (hl hr) (by rw [← q.length]; exact hz), p io4 _ t (U.trans up) (R4.wr hi4 hr (.dK upd_same ((q.put k r4).up up))) (rs.up (U.trans up))⟩
          · cases e6
        · cases e6
      · rename_i kvs em
        split at e6
        · rename_i ks ek
          split at e6
          · rename_i hz
            obtain ⟨hr, _, rfl⟩ := wr_inv e6
            obtain ⟨b1, rfl, hb1⟩ := keyT_ok r2' ek
            obtain ⟨kws, _, q, hl⟩ := R4.dictT em
            have up := Up.wr (io := io4) (st := st5) (.dT (putK kws ks w4)) (hl hr) trivial
            exact ⟨_, .t (hl hr) hb1 (by rw [← q.length]; exact hz), p io4 _ t (U.trans up) (R4.wr hi4 hr (.dT upd_same ((q.put ks r4).up up))) (rs.up (U.trans up))⟩
          · cases e6
        · cases e6
      · cases e6
  · cases hc
theorem ss_auf {a c : E} {f : Str} {o : Bop} (ha : SE T d N a) (hv : SE T d N c) : SS T d N (.auf a f o c) := by
  intro X sc ow q A hc s st fl st' io H t D rs R e p
  simp only [chS] at hc
  split at hc
  · simp only [Bool.and_eq_true, decide_eq_true_eq] at hc
    obtain ⟨⟨⟨rfl, rfl⟩, c1⟩, c2⟩ := hc
    simp only [exec, noex_eq_ok] at e
    obtain ⟨x, st1, e1, e⟩ := bind_eq_ok.mp e
    obtain ⟨old, st2, e2, e⟩ := bind_eq_ok.mp e
    obtain ⟨v, st3, e3, e⟩ := bind_eq_ok.mp e
    obtain ⟨z, st4, e4, e⟩ := bind_eq_ok.mp e
    split at e
    case isFalse => cases e
    rename_i hcl
    obtain ⟨n, st5, e5, e⟩ := bind_eq_ok.mp e
    cases e
    intro pins sh I
    refine (ps_fldaug (rd := oSem X (inplaceOp (opOf o))) pe_sem pe_sem (fun pins s σ H x y u v Q I r1 r2 h => h pins s σ u v I r1 r2)).run pins sh t H D I ?_
    refine ha X sc ow _ A.toAt c1 s st x st1 io H t _ rs R e1 fun io1 H1 w1 u1 R1 r1 => ?_
    obtain ⟨i, rfl⟩ : ∃ i, x = .ref i := by
      unfold getF at e2
      split at e2
      · exact ⟨_, rfl⟩
      · cases e2
    unfold getF at e2
    simp only at e2
    · obtain ⟨rfl, hi⟩ := r1.iref
      split at e2
      · rename_i cc fs em
        split at e2
        · rename_i hf
          split at e2
          · rename_i u el
            cases e2
            obtain ⟨_, _, dx, gs, h1, rk⟩ := R1.inst em
            obtain ⟨cl, na⟩ := A.top.fl cc f hf
            rcases rk.lookup f with ⟨e6, _⟩ | ⟨v', w', e6, e7, rv⟩
            · rw [el] at e6; cases e6
            · rw [el] at e6; cases e6
              refine ⟨_, _, dx, gs, w', rfl, h1, cl, na, e7, ?_⟩
              refine hv X sc ow _ A.toAt c2 s _ v st3 io1 H1 t _ (rs.up u1) R1 e3 fun io2 H2 w2 u2 R2 r2 => ?_
              refine (iop_ok R2 (rv.up u2) r2 e4 fun io3 H3 w3 u3 R3 r3 => ?_).1
              have hio : io3 i = io1 i := (u2.trans u3).io i hi
              have hi3 : i < st4.n := Nat.lt_of_lt_of_le hi (u2.trans u3).le
              unfold putF at e5
              simp only at e5
              split at e5
              · rename_i cc2 fs2 em2
                split at e5
                · rename_i hf2
                  obtain ⟨hr, _, rfl⟩ := wr_inv e5
                  obtain ⟨_, _, dx2, gs2, h2, rk2⟩ := R3.inst em2
                  have up := Up.wr (io := io3) (st := st4) (.ins (T.ca cc2) dx2 (L2.putF f w3 gs2)) h2 trivial
                  have R4 := R3.wr hi3 hr (.ins upd_same ((rk2.setF f r3).up up))
                  have hcc : cc2 = cc := by
                    unfold clsOf at hcl
                    simp only [em, em2] at hcl
                    exact Option.some.inj hcl
                  subst hcc
                  rw [hio] at h2 up R4
                  exact ⟨dx2, gs2, h2, by rw [← rk2.length]; exact hf2.2, p io3 _ t ((u1.trans (u2.trans u3)).trans up) R4 (rs.up ((u1.trans (u2.trans u3)).trans up))⟩
                · cases e5
              · cases e5
          · cases e2
        · cases e2
      · cases e2
  · cases hc

/-! ### small ones -/
theorem ss_ex {a : E} (ha : SE T d N a) : SS T d N (.ex a) := by
  intro X sc ow q A hc s st fl st' io H t D rs R e p
  simp only [chS] at hc
  split at hc
  · rw [Bool.and_eq_true] at hc
    simp only [exec, noex_eq_ok] at e
    obtain ⟨u, st1, e1, e⟩ := bind_eq_ok.mp e
    cases e
    intro pins sh I
    refine (ps_expr pe_sem (swap_none hc.2)).run pins sh t H D I ?_
    exact ha X sc ow _ A.toAt hc.1 s st u _ io H t _ rs R e1 fun io1 H1 w u1 R1 r1 => p io1 H1 t u1 R1 (rs.up u1)
  · cases hc
theorem ss_ret {a : E} (ha : SE T d N a) : SS T d N (.ret a) := by
  intro X sc ow q A hc s st fl st' io H t D rs R e p
  simp only [chS] at hc
  split at hc
  · simp only [exec, noex_eq_ok] at e
    obtain ⟨u, st1, e1, e⟩ := bind_eq_ok.mp e
    cases e
    intro pins sh I
    refine (ps_ret pe_sem).run pins sh t H D I ?_
    exact ha X sc ow _ A.toAt hc s st u _ io H t _ rs R e1 p
  · cases hc
theorem ss_rtN : SS T d N .rtN := by
  intro X sc ow q A hc s st fl st' io H t D rs R e p
  simp only [chS] at hc
  split at hc
  · simp only [exec, noex_eq_ok] at e
    cases e
    intro pins sh I
    exact ps_retN.run pins sh t H D I (p io H .non (.refl _ _ _) R .non)
  · cases hc
theorem ss_pass : SS T d N .pass := by
  intro X sc ow q A hc s st fl st' io H t D rs R e p
  simp only [chS] at hc
  split at hc
  · simp only [exec, noex_eq_ok] at e
    cases e
    intro pins sh I
    exact ps_pass.run pins sh t H D I (p io H t (.refl _ _ _) R rs)
  · cases hc
theorem ss_brk : SS T d N .brk := by
  intro X sc ow q A hc s st fl st' io H t D rs R e p
  simp only [chS] at hc
  split at hc
  · simp only [exec, noex_eq_ok] at e
    cases e
    intro pins sh I
    exact ps_break.run pins sh t H D I (p io H t (.refl _ _ _) R rs)
  · cases hc
theorem ss_cnt : SS T d N .cnt := by
  intro X sc ow q A hc s st fl st' io H t D rs R e p
  simp only [chS] at hc
  split at hc
  · simp only [exec, noex_eq_ok] at e
    cases e
    intro pins sh I
    exact ps_continue.run pins sh t H D I (p io H t (.refl _ _ _) R rs)
  · cases hc
theorem ss_cond {c : B} {a b : Ss} (hb : SB T d N c) (h1 : SSs T d N a) (h2 : SSs T d N b) : SS T d N (.cond c a b) := by
  intro X sc ow q A hc s st fl st' io H t D rs R e p
  simp only [chS] at hc
  split at hc
  · simp only [Bool.and_eq_true] at hc
    simp only [exec, noex_eq_ok] at e
    obtain ⟨k, st1, e1, e⟩ := bind_eq_ok.mp e
    have e1 := noex_eq_ok.mp e1
    intro pins sh I
    refine (ps_if pt_sem pss_sem pss_sem).run pins sh t H D I ?_
    refine hb X sc ow _ A.toAt hc.1.1 s st k st1 io H t _ rs R e1 fun io1 H1 u1 R1 => ?_
    cases k with
    | true =>
      rw [if_pos rfl] at e ⊢
      exact h1 X sc ow _ A hc.1.2 s st1 fl st' io1 H1 t D (rs.up u1) R1 e (p.after u1)
    | false =>
      rw [if_neg (by decide)] at e ⊢
      exact h2 X sc ow _ A hc.2 s st1 fl st' io1 H1 t D (rs.up u1) R1 e (p.after u1)
  · cases hc
theorem whl_inv {tf : Env → Store → Res Bool} {bf : Env → Store → Res Fl} {n : Nat} {s : Env} {st st' : Store} {fl : Fl} (e : whlLoop tf bf n s st = .ok fl st') : ∃ m k st1, n = m + 1 ∧ tf s st = .ok k st1 ∧
    ((k = false ∧ fl = .nx s ∧ st' = st1) ∨ (k = true ∧ ∃ f2 st2, bf s st1 = .ok f2 st2 ∧ ((∃ s2, (f2 = .nx s2 ∨ f2 = .ct s2) ∧ whlLoop tf bf m s2 st2 = .ok fl st') ∨ (∃ s2, f2 = .bk s2 ∧ fl = .nx s2 ∧ st' = st2) ∨ ∃ v, f2 = .rt v ∧ fl = .rt v ∧ st' = st2))) := by
  cases n with
  | zero => cases e
  | succ m =>
    unfold whlLoop at e
    obtain ⟨k, st1, e1, e⟩ := bind_eq_ok.mp e
    refine ⟨m, k, st1, rfl, e1, ?_⟩
    cases k with
    | false =>
      rw [if_neg (by decide)] at e
      cases e
      exact .inl ⟨rfl, rfl, rfl⟩
    | true =>
      rw [if_pos rfl] at e
      obtain ⟨f2, st2, e2, e⟩ := bind_eq_ok.mp e
      refine .inr ⟨rfl, f2, st2, e2, ?_⟩
      cases f2 with
      | nx s2 => exact .inl ⟨s2, .inl rfl, e⟩
      | ct s2 => exact .inl ⟨s2, .inr rfl, e⟩
      | bk s2 => cases e; exact .inr (.inl ⟨s2, rfl, rfl, rfl⟩)
      | rt v => cases e; exact .inr (.inr ⟨v, rfl, rfl, rfl⟩)
theorem sss_nil : SSs T d N .nil := by
  intro X sc ow ps A hc s st fl st' io H t D rs R e p
  simp only [chSs] at hc
  split at hc
  · simp only [execs] at e
    cases e
    intro pins sh I
    exact pss_nil.run pins sh t H D I (p io H t (.refl _ _ _) R rs)
  · cases hc
theorem sss_cons {x : S} {r : Ss} (h1 : SS T d N x) (h2 : SSs T d N r) : SSs T d N (.cons x r) := by
  intro X sc ow ps A hc s st fl st' io H t D rs R e p
  simp only [chSs] at hc
  split at hc
  · rw [Bool.and_eq_true] at hc
    simp only [execs] at e
    obtain ⟨f2, st1, e1, e⟩ := bind_eq_ok.mp e
    intro pins sh I
    refine (pss_cons ps_sem pss_sem).run pins sh t H D I ?_
    refine h1 X sc ow _ A hc.1 s st f2 st1 io H t _ rs R e1 ?_
    cases f2 with
    | nx s1 => exact fun io1 H1 t1 u1 R1 rs1 => h2 X sc ow _ A hc.2 s1 st1 fl st' io1 H1 t1 D rs1 R1 e (p.after u1)
    | rt v => cases e; exact p
    | bk s1 => cases e; exact p
    | ct s1 => cases e; exact p
  · cases hc
end
end CL

/-! CL, part 5: isinstance of a kept error -/
namespace CL
open PySem PySem.Spec PyProof.Rows L2
section
variable {X : Cx} {pins : List (Addr × Obj)} {σ : L2.St} {H : Hp} {s : Shared}
/-- what isinstance asks of a value: its class -/
def KitE (K : PySem.W.Frag) (H : Hp) (x : V) (t : Value) : Prop := TyX K H x t ∨ ∃ (a dx D : Addr) (o od : Obj) (u : HO) (gs : List (Str × V)), x = .ref a ∧ t = .ref D ∧ ExcC K D ∧ H a = some (.frz o u) ∧ o.cls = .ref D ∧ o.dict = some dx ∧ (∃ vs, o.data = .fields vs) ∧ H dx = some (.frz od (.xd gs))
theorem kit_ofE {x : V} {u t : Value} (I : Inv X pins σ H s) (rx : RelV x u) (ty : KitE X.K H x t) : ∃ P : Heap → Prop, PySem.W.KitX X.K u t P ∧ P s.heap ∧ u ≠ .builtin "__main__.__loader__#opaque" := by
  rcases ty with ty | ⟨a, dx, D, o, od, w, gs, rfl, rfl, C, h1, h2, h3, ⟨vs, h4⟩, h5⟩
  · exact kit_of I rx ty
  · cases (show u = Value.ref a from rx)
    have g1 : s.heap.get? a = some o := (I.hok a _ h1).1
    have g2 : s.heap.get? dx = some od := (I.hok dx _ h5).1
    have J : PySem.W.InstAt s.heap a o D (some od) := by
      obtain ⟨oc, odd, oda, osl⟩ := o
      dsimp only at h2 h3 h4
      subst h2 h3 h4
      exact ⟨g1, rfl, rfl, g2⟩
    have hc : (PySem.W.clsIn X.K D).isSome = true := by
      obtain ⟨cd, hcd, _⟩ := PySem.W.any_some C.hd
      rw [hcd]; rfl
    exact ⟨_, PySem.W.kitx_exc hc C.hg C.hk C.hs C.ha C.hn C.ht C.hm, J, fun z => nomatch z⟩
def rIsE1 (K : PySem.W.Frag) : List V → Hp → VK → Prop := fun xs H Q => ∃ (x c : V) (t u : Value) (b : Bool), xs = [x, c] ∧ ClsV c u ∧ KitE K H x t ∧ PySem.W.kitOne K t u = some b ∧ Q (.bl b) H
def rIsEn (K : PySem.W.Frag) : List V → Hp → VK → Prop := fun xs H Q => ∃ (x : V) (tp : Addr) (cs : List V) (t : Value) (us : List Value) (b : Bool), xs = [x, .ref tp] ∧ H tp = some (.tup cs) ∧ Paired ClsV cs us ∧ KitE K H x t ∧ PySem.W.kitAny K t us = some b ∧ Q (.bl b) H
theorem call_isE1 : CallR X (.builtin "isinstance") (rIsE1 X.K) := by
  intro pins s σ H xs us Q I r ⟨x, c, t, u, b, e0, k, ty, e, q⟩
  subst e0
  obtain ⟨u1, u2, e1, r1, r2⟩ := vals2 r
  subst e1
  have e2 := k.eq r2
  subst e2
  obtain ⟨P, Z, p, hx⟩ := kit_ofE I r1 ty
  refine PySem.W.kia_one Z I.kIn p e hx fun tk => ⟨.bl b, H, I.tok tk, rfl, q⟩
theorem call_isEn : CallR X (.builtin "isinstance") (rIsEn X.K) := by
  intro pins s σ H xs us Q I r ⟨x, tp, cs, t, ws, b, e0, hT, k, ty, e, q⟩
  subst e0
  obtain ⟨u1, u2, e1, r1, r2⟩ := vals2 r
  subst e1
  cases (show u2 = Value.ref tp from r2)
  obtain ⟨P, Z, p, hx⟩ := kit_ofE I r1 ty
  obtain ⟨_, its, rv, o, h1, h2, n, h3⟩ := (show ObjOk X.prog X.w H s.heap tp (.tup cs) from I.hok tp _ hT)
  have e3 := ClsV.all k rv
  subst e3
  obtain ⟨oc, od, dt, sl⟩ := o
  dsimp only at h2 h3
  subst h2 h3
  refine PySem.W.kia_tup Z I.kIn p h1 e hx fun tk => ⟨.bl b, H, I.tok tk, rfl, q⟩
end
/-- a kept error's own field -/
def tXfK (K : PySem.W.Frag) (n : Str) (te : TE) : TE := fun σ H Q => te σ H fun x H1 => ∃ (a dx C : Addr) (o od : Obj) (u : HO) (gs : List (Str × V)) (v : V), x = .ref a ∧ ExcC K C ∧ PySem.W.findIn K (.ref C) n = some none ∧ H1 a = some (.frz o u) ∧ o.cls = .ref C ∧ o.dict = some dx ∧ (∃ vs, o.data = .fields vs) ∧ H1 dx = some (.frz od (.xd gs)) ∧ gs.lookup n = some v ∧ Q v H1
theorem pe_xfK {X : Cx} {e : Expr} {te : TE} {pos : Pos} {n : Str} (he : PE X e te) (hb : attributeBase e n X.env (eval e X.env) = eval e X.env) : PE X (.Attribute e n pos) (tXfK X.K n te) := by
  refine ⟨fun pins s σ H Q I h => ?_⟩
  refine attr_of hb (thn (he.run pins s σ H _ I h) fun u0 s1 ⟨x, H1, I1, rx, a, dx, C, o, od, w, gs, v, ex, T, hno, h1, h2, h3, ⟨vs, h4⟩, h5, l, q⟩ => ?_)
  subst ex
  obtain rfl : u0 = Value.ref a := rx
  have ha : s1.heap.get? a = some o := (I1.hok a _ h1).1
  obtain ⟨hod, mA, hns, hr⟩ := I1.hok dx _ h5
  obtain ⟨od', ho, hl⟩ := lookIn_ns hns
  obtain ⟨u, hu, ru⟩ := RelO.some_of (v := v) (o := mA n) (by rw [← l]; exact hr n)
  have J : PySem.W.InstAt s1.heap a o C (some od') := ⟨ha, h2, by unfold PySem.W.notCls; rw [h4] <;> rfl, by rw [h3]; exact ho⟩
  exact HandSPX.exc_get I1.kIn J T.hg T.hk T.hs (PySem.W.findObj_own T.hd hno rfl (by rw [hl, hu])) (handed_of ru) ⟨v, H1, I1.tok _, ru, q⟩
section
variable {T : Tab} {d : Nat} {N : List Str}
/-- a class as a value -/
def xcV (T : Tab) : Option Nat → V
  | some k => .ref (T.ca k)
  | none => .ty "ValueError"
def xcU (T : Tab) : Option Nat → Value
  | some k => .ref (T.ca k)
  | none => .type "ValueError"
theorem xc_cls (o : Option Nat) : ClsV (xcV T o) (xcU T o) := by cases o with
  | none => exact .ty _
  | some k => exact .own _
theorem xcs_cls : ∀ ks : List (Option Nat), Paired ClsV (ks.map (xcV T)) (ks.map (xcU T))
  | [] => .nil
  | o :: r => .cons (xc_cls o) (xcs_cls r)
/-- where the table has the class -/
def xcOk (T : Tab) : Option Nat → Prop
  | some k => T.G.xs k k = true
  | none => True
theorem xc_pe {X : Cx} {sc : Scope} {ow : Str → Bool} (A : At T d X N sc ow) {o : Option Nat} {p : Expr} (h : xcB T.nm sc o p = true) (k : xcOk T o) : ∃ te : TE, PE X p te ∧ nostar p = true ∧ ∀ σ H (Q : VK), Q (xcV T o) H → te σ H Q := by
  unfold xcB at h
  split at h
  · rename_i k' y pos
    obtain ⟨rfl, _, hd⟩ := gB_ok h
    have xc := A.top.xc k' k
    refine ⟨_, pe_glob (A.gl h) xc.mgc (v := xcV T (some k')) rfl hd, rfl, fun σ H Q q => q⟩
  · rename_i y pos
    obtain ⟨rfl, _, hd⟩ := gB_ok h
    exact ⟨_, pe_bltn (A.gl h) A.top.ver (by decide +kernel) (v := .ty "ValueError") rfl (by decide) hd, rfl, fun σ H Q q => q⟩
  · cases h
theorem xcs_pa {X : Cx} {sc : Scope} {ow : Str → Bool} (A : At T d X N sc ow) : ∀ {ks : List (Option Nat)} {ps : List Expr}, xcsB T.nm sc ks ps = true → (∀ o ∈ ks, xcOk T o) → ∃ ta : TA, PA X ps ta ∧ ∀ σ H (Q : List V → Hp → Prop), Q (ks.map (xcV T)) H → ta σ H Q
  | [], [], _, _ => ⟨_, pa_nil, fun σ H Q q => q⟩
  | k :: ks, p :: ps, h, hk => by
    simp only [xcsB, Bool.and_eq_true] at h
    obtain ⟨te, e1, e2, e3⟩ := xc_pe A h.1 (hk k List.mem_cons_self)
    obtain ⟨ta, a1, a2⟩ := xcs_pa A h.2 (fun o ho => hk o (List.mem_cons_of_mem _ ho))
    exact ⟨_, pa_cons e1 a1 (star_cons e2), fun σ H Q q => e3 σ H _ (a2 σ H _ q)⟩
  | [], _ :: _, h, _ => by simp [xcsB] at h
  | _ :: _, [], h, _ => by simp [xcsB] at h
theorem isXo_ok {xs : Nat → Nat → Bool} : ∀ {ks : List (Option Nat)}, isXo xs ks = true → ∀ k, some k ∈ ks → xs k k = true
  | [], _, k, m => by cases m
  | none :: r, h, k, m => isXo_ok (show isXo xs r = true from h) k (by simpa using m)
  | some j :: r, h, k, m => by
    simp only [isXo, Bool.and_eq_true] at h
    rcases List.mem_cons.mp m with e | m
    · cases e; exact h.1
    · exact isXo_ok h.2 k m
theorem kit_any {K : PySem.W.Frag} {t : Value} {f : Option Nat → Bool} : ∀ {ks : List (Option Nat)}, (∀ o ∈ ks, PySem.W.kitOne K t (xcU T o) = some (f o)) → PySem.W.kitAny K t (ks.map (xcU T)) = some (ks.any f)
  | [], _ => kitAny_nil
  | o :: r, h => by
    have h1 := h o List.mem_cons_self
    have h2 := kit_any (f := f) (ks := r) fun o ho => h o (List.mem_cons_of_mem _ ho)
    rw [List.any_cons]
    exact kitAny_cons h1 (fun hb => by rw [hb, Bool.false_or]; exact h2) (fun hb => by rw [hb]; rfl)
theorem isX_key {X : Cx} {sc : Scope} {ow : Str → Bool} (A : At T d X N sc ow) {st : Store} {u : Val} {ks : List (Option Nat)} {k : Bool} (e : isXV T.G.xs st u ks = some k) :
    (∀ o ∈ ks, xcOk T o) ∧ ∃ f : Option Nat → Bool, k = ks.any f ∧ ∀ (io : Nat → Addr) (H : Hp) (w : V), Rl X.K T.G.kt T.ca io st H → RV X.K T.G.kt io st.n H u w → ∃ t, KitE X.K H w t ∧ ∀ o ∈ ks, PySem.W.kitOne X.K t (xcU T o) = some (f o) := by
  have ok : isXo T.G.xs ks = true → ∀ o ∈ ks, xcOk T o := fun h o ho => by
    cases o with
    | none => trivial
    | some k => exact isXo_ok h k ho
  unfold isXV at e
  split at e
  · split at e
    · rename_i h
      cases e
      refine ⟨ok h, fun _ => false, by simp, fun io H w R r => ?_⟩
      obtain rfl := r.inon
      refine ⟨_, .inl (.base .non), fun o ho => ?_⟩
      cases o with
      | none => exact kit_ty (by decide +kernel)
      | some k => exact (A.top.xc k (ok h _ ho)).kn
    · cases e
  · rename_i i
    split at e
    · rename_i k' fs em
      split at e
      · rename_i h
        rw [Bool.and_eq_true] at h
        cases e
        refine ⟨ok h.2, _, rfl, fun io H w R r => ?_⟩
        cases r with
        | ref hi =>
          obtain ⟨o, eo, ro⟩ := R.ob i hi
          rw [em] at eo
          cases eo
          have xc := A.top.xc k' h.1
          generalize hro : st.ro i = b at ro
          cases ro with
          | exc h1 h2 h3 h4 h5 h6 =>
            refine ⟨_, .inr ⟨_, _, _, _, _, _, _, rfl, rfl, xc.ec, h1, h2, h3, h4, h5⟩, fun o ho => ?_⟩
            cases o with
            | none => exact xc.kv
            | some k => exact A.top.xis k' k h.1 (ok h.2 _ ho)
      · cases e
    · cases e
  · cases e
theorem se_isX {a : E} {ks : List (Option Nat)} {m : Bool} (ha : SE T d N a) : SE T d N (.isX a ks m) := by
  intro X sc ow q A hc s st v st' io H t Q rs R e p
  simp only [chE] at hc
  split at hc
  · rename_i x p1 q1 y pos
    simp only [Bool.and_eq_true] at hc
    obtain ⟨⟨⟨⟨c1, c2⟩, c3⟩, cl⟩, c4⟩ := hc
    rw [decide_eq_true_eq] at cl
    simp only [ev] at e
    obtain ⟨u, st1, e1, e⟩ := bind_eq_ok.mp e
    obtain ⟨k, e2, rfl, rfl⟩ := okB_inv e
    obtain ⟨hk, f, rfl, key⟩ := isX_key A e2
    obtain ⟨rfl, _, hd⟩ := gB_ok c1
    intro pins sh I
    cases m with
    | true =>
      rw [if_pos rfl] at c4
      split at c4
      · rename_i ps kk pp
        obtain ⟨ta, a1, a2⟩ := xcs_pa A c4 hk
        refine (pe_callB (x := "isinstance") (id := "isinstance") call_sem (A.gl c1) A.top.isi (by decide +kernel) (pa_cons pe_sem (pa_cons (pe_tup a1) pa_nil (by rfl)) (star_cons c3)) (by decide) hd (star_cons c3) (by rfl)).run pins sh t H Q I ?_
        refine ha X sc ow q1 A c2 s st u _ io H t _ rs R e1 fun io1 H1 w u1 R1 r1 => ?_
        refine a2 t H1 _ ⟨?_, fun tp htp => ?_⟩
        · rw [List.length_map, sizeLine_eq]; omega
        obtain ⟨u2, R2⟩ := R1.laidO (.tup (ks.map (xcV T))) htp
        obtain ⟨tt, k1, k2⟩ := key io1 _ w R2 (r1.up u2)
        exact cSem.of call_isEn ⟨_, _, _, _, _, _, rfl, upd_same, xcs_cls ks, k1, kit_any k2, (p.after (u1.trans u2)).here R2 (.bl _)⟩
      · cases c4
    | false =>
      rw [if_neg (by decide)] at c4
      split at c4
      · rename_i k
        obtain ⟨te, t1, t2, t3⟩ := xc_pe A c4 (hk _ List.mem_cons_self)
        refine (pe_callB (x := "isinstance") (id := "isinstance") call_sem (A.gl c1) A.top.isi (by decide +kernel) (pa_cons pe_sem (pa_cons t1 pa_nil (star_cons t2)) (star_cons c3)) (by decide) hd (star_cons c3) (star_any (by simp [t2]))).run pins sh t H Q I ?_
        refine ha X sc ow q1 A c2 s st u _ io H t _ rs R e1 fun io1 H1 w u1 R1 r1 => ?_
        refine t3 t H1 _ ?_
        obtain ⟨tt, k1, k2⟩ := key io1 _ w R1 r1
        refine cSem.of call_isE1 ⟨_, _, _, _, _, rfl, xc_cls _, k1, k2 _ List.mem_cons_self, ?_⟩
        rw [List.any_cons, List.any_nil, Bool.or_false] at p
        exact (p.after u1).here R1 (.bl _)
      · cases c4
  · cases hc
theorem se_xfld {a : E} {f : Str} (ha : SE T d N a) : SE T d N (.xfld a f) := by
  intro X sc ow q A hc s st v st' io H t Q rs R e p
  simp only [chE] at hc
  split at hc
  · simp only [Bool.and_eq_true, decide_eq_true_eq] at hc
    obtain ⟨⟨rfl, c1⟩, c2⟩ := hc
    simp only [ev] at e
    obtain ⟨x, st1, e1, e⟩ := bind_eq_ok.mp e
    intro pins sh I
    refine (pe_xfK pe_sem (base_of c2 _)).run pins sh t H Q I ?_
    refine ha X sc ow _ A c1 s st x st1 io H t _ rs R e1 fun io1 H1 w u1 R1 r1 => ?_
    split at e
    · rename_i i
      split at e
      · rename_i k fs em
        split at e
        · rename_i hf
          rw [Bool.and_eq_true, decide_eq_true_eq] at hf
          obtain ⟨hf1, hf2⟩ := hf
          split at e
          · rename_i u el
            cases e
            cases r1 with
            | ref hi =>
              obtain ⟨o, eo, ro⟩ := R1.ob i hi
              rw [em] at eo
              cases eo
              have xc := A.top.xc k hf2
              generalize hro : st'.ro i = b at ro
              cases ro with
              | exc h1 h2 h3 h4 h5 h6 =>
                rcases h6.lookup f with ⟨e2, _⟩ | ⟨v', w', e2, e3, rv⟩
                · rw [el] at e2; cases e2
                · rw [el] at e2; cases e2
                  exact ⟨_, _, _, _, _, _, _, w', rfl, xc.ec, by rw [hf1]; exact xc.no, h1, h2, h3, h4, h5, e3, (p.after u1).here R1 rv⟩
          · cases e
        · cases e
      · cases e
    · cases e
  · cases hc
end
end CL

/-! CL, part 4: expressions that may raise; statements of these; raise; a try whose error is kept -/
namespace CL
open PySem PySem.Spec PyProof.Rows L2
theorem PostX.after {K : PySem.W.Frag} {kt : List (List Val)} {ca io io1 : Nat → Addr} {st st1 st' : Store} {H H1 : Hp} {k : Nat} {fs : List (Str × Val)} {E : XK} (p : PostX K kt ca io st H k fs st' E) (u : Up io st.n H io1 st1.n H1) : PostX K kt ca io1 st1 H1 k fs st' E :=
  fun io' H' dx gs u' R e r => p io' H' dx gs (u.trans u') R e r
def OutA (K : PySem.W.Frag) (kt : List (List Val)) (ca io : Nat → Addr) (st : Store) (H : Hp) (r : Res (List Val)) (Q : List V → Hp → Prop) (E : XK) : Prop := match r with
  | .ok v st' => PostA K kt ca io st H v st' Q
  | .ex k fs st' => PostX K kt ca io st H k fs st' E
  | .fail => False
section
variable {T : Tab} {d : Nat} {N : List Str}
def SX (P : WX → Prop) (T : Tab) (d : Nat) (N : List Str) (x : XE) : Prop := ∀ (X : Cx) (sc : Scope) (ow : Str → Bool) (p : Expr), At T d X N sc ow → chX T.nm N x sc p = true →
  ∀ (s : Env) (st : Store) (io : Nat → Addr) (H : Hp) (t : L2.St) (Q : VK) (W : WX), P W → L2.Takes X W → RS X.K T.G.kt io st.n H s t → Rl X.K T.G.kt T.ca io st H →
    OutV X.K T.G.kt T.ca io st H (evX (T.cx d) x s st) Q (WE W t) → tSem X p t H Q
def SXs (P : WX → Prop) (T : Tab) (d : Nat) (N : List Str) (xs : XEs) : Prop := ∀ (X : Cx) (sc : Scope) (ow : Str → Bool) (ps : List Expr), At T d X N sc ow → chXs T.nm N xs sc ps = true →
  ∀ (s : Env) (st : Store) (io : Nat → Addr) (H : Hp) (t : L2.St) (Q : List V → Hp → Prop) (W : WX), P W → L2.Takes X W → RS X.K T.G.kt io st.n H s t → Rl X.K T.G.kt T.ca io st H →
    OutA X.K T.G.kt T.ca io st H (evXs (T.cx d) xs s st) Q (WE W t) → aSem X ps t H Q
variable {P : WX → Prop}
theorem sx_pu {e : E} (he : SE T d N e) : SX P T d N (.pu e) := by
  intro X sc ow p A hc s st io H t Q W pw tk rs R o
  simp only [chX] at hc
  simp only [evX] at o
  cases r : ev (T.cx d) e s st with
  | fail => rw [r] at o; exact o.elim
  | ex k fs st' => rw [r] at o; exact o.elim
  | ok v st' => rw [r] at o; exact he X sc ow p A hc s st v st' io H t Q rs R r o
theorem sxs_nil : SXs P T d N .nil := by
  intro X sc ow ps A hc s st io H t Q W pw tk rs R o
  simp only [chXs] at hc
  split at hc
  · simp only [evXs] at o
    intro pos pins sh I
    exact (pa_nil (X := X)).run pos pins sh t H Q I (o io H [] (.refl _ _ _) R .nil)
  · cases hc
theorem sxs_cons {x : XE} {xs : XEs} (hx : SX P T d N x) (hs : SXs P T d N xs) : SXs P T d N (.cons x xs) := by
  intro X sc ow ps A hc s st io H t Q W pw tk rs R o
  simp only [chXs] at hc
  split at hc
  · rename_i q r
    simp only [Bool.and_eq_true] at hc
    simp only [evXs] at o
    intro pos pins sh I
    refine (pa_cons pe_sem pa_sem (star_cons hc.1.2)).run pos pins sh t H Q I ?_
    refine hx X sc ow q A hc.1.1 s st io H t _ W pw tk rs R ?_
    cases r1 : evX (T.cx d) x s st with
    | fail => rw [r1] at o; exact o.elim
    | ex k fs st' => rw [r1] at o; exact o
    | ok v st1 =>
      rw [r1] at o
      intro io1 H1 w u1 R1 rv
      refine hs X sc ow r A hc.2 s st1 io1 H1 t _ W pw tk (rs.up u1) R1 ?_
      cases r2 : evXs (T.cx d) xs s st1 with
      | fail => simp only [bind_ok, r2, bind_fail] at o; exact o.elim
      | ex k fs st' =>
        simp only [bind_ok, r2, bind_ex] at o
        exact PostX.after o u1
      | ok vs st2 =>
        simp only [bind_ok, r2] at o
        exact fun io2 H2 w2 u2 R2 r3 => o io2 H2 _ (u1.trans u2) R2 (.cons (rv.up u2) r3)
  · cases hc
theorem chXs_star : ∀ {es : XEs} {sc : Scope} {ps : List Expr}, chXs T.nm N es sc ps = true → ps.all nostar = true
  | .nil, sc, ps, h => by
    simp only [chXs] at h
    split at h
    · rfl
    · cases h
  | .cons e es, sc, ps, h => by
    simp only [chXs] at h
    split at h
    · simp only [Bool.and_eq_true] at h
      rw [List.all_cons, h.1.2, chXs_star h.2]; rfl
    · cases h
theorem sx_fn {f : Nat} {xs : XEs} (hs : SXs P T d N xs) : SX P T d N (.fn f xs) := by
  intro X sc ow q A hc s st io H t Q W pw tk rs R o
  simp only [chX] at hc
  split at hc
  · rename_i x p1 ps pos
    simp only [Bool.and_eq_true] at hc
    obtain ⟨⟨c1, c2⟩, c3⟩ := hc
    simp only [evX] at o
    split at o
    · rename_i hs1
      obtain ⟨fd, hf0⟩ := Option.isSome_iff_exists.mp hs1
      have hf : T.G.fn f = some fd := hf0
      obtain ⟨hb, hl, hg⟩ := A.top.fn f fd hf
      obtain ⟨hm, hk⟩ := hg c2
      obtain ⟨rfl, _, hd⟩ := gB_ok c1
      have F := A.fnx d (Nat.le_refl _) f fd hf
      have st_ := chXs_star c3
      intro pins sh I
      have sp : ∀ {io1 : Nat → Addr} {st1 : Store} {H1 : Hp} {vs : List Val} {ws : List V}, Rl X.K T.G.kt T.ca io1 st1 H1 → RVs X.K T.G.kt io1 st1.n H1 vs ws → OutV X.K T.G.kt T.ca io1 st1 H1 (callN T.G T.fuel d f vs st1) Q (WE W t) → spX X.K T (callN T.G T.fuel d f) (T.psn f).length ws H1 Q (WE W t) := by
        intro io1 st1 H1 vs ws R1 r1 o1
        refine ⟨?_, io1, st1, vs, R1, r1, o1⟩
        cases d with
        | zero => exact o1.elim
        | succ d' =>
          rw [callN_succ, hf] at o1
          simp only at o1
          unfold runF at o1
          split at o1
          · rename_i h; rw [← r1.length, h]; exact hl.symm
          · exact o1.elim
      have read := hs X sc ow ps A c3 s st io H t (fun ws H1 => spX X.K T (callN T.G T.fuel d f) (T.psn f).length ws H1 Q (WE W t)) W pw tk rs R (by
        cases r1 : evXs (T.cx d) xs s st with
        | fail => rw [r1] at o; exact o.elim
        | ex k fs st' => rw [r1] at o; exact o
        | ok vs st1 =>
          rw [r1] at o
          have o : OutV X.K T.G.kt T.ca io st H (callN T.G T.fuel d f vs st1) Q (WE W t) := o
          intro io1 H1 ws u1 R1 rv
          refine sp R1 rv ?_
          cases r2 : callN T.G T.fuel d f vs st1 with
          | fail => rw [r2] at o; exact o.elim
          | ex k fs st' => rw [r2] at o; exact PostX.after o u1
          | ok v st2 => rw [r2] at o; exact Post.after o u1)
      cases ps with
      | nil =>
        cases xs with
        | nil =>
          have o : OutV X.K T.G.kt T.ca io st H (callN T.G T.fuel d f [] st) Q (WE W t) := o
          refine wpAny_Call_Name_kw (ld_glob I (A.gl c1) hm ?_ hd)
          exact PySem.W.callWith_K0 I.kIn hk (run_fnS (us := []) F A.room hb (passAt tk t) I .nil (sp R .nil o))
        | cons a b => simp [chXs] at c3
      | cons p2 ps =>
        rw [List.all_cons, Bool.and_eq_true] at st_
        exact (pe_callS F A.room (A.gl c1) hm hk hb (fun σ => passAt tk σ) pa_sem hd (star_cons st_.1) (star_any st_.2)).run pins sh t H Q I read
    · exact o.elim
  · cases hc
/-- a wish that does not ask of the slots -/
def SF (W : WX) : Prop := ∀ c d σ σ' H, W c d σ H → W c d σ' H
theorem sx_met {a : E} {m : Str} {xs : XEs} (hP : ∀ W, P W → SF W) (ha : SE T d N a) (hs : SXs P T d N xs) : SX P T d N (.met a m xs) := by
  intro X sc ow q A hc s st io H t Q W pw tk rs R o
  simp only [chX] at hc
  split at hc
  · rename_i q1 g ap ps pos
    simp only [Bool.and_eq_true, decide_eq_true_eq] at hc
    obtain ⟨⟨⟨⟨⟨rfl, c1⟩, c2⟩, c3⟩, c4⟩, c5⟩ := hc
    simp only [evX] at o
    cases e1 : ev (T.cx d) a s st with
    | fail => rw [e1] at o; exact o.elim
    | ex k fs st' => rw [e1] at o; exact o.elim
    | ok x st1 =>
      rw [e1] at o
      simp only [noex_ok, bind_ok] at o
      split at o
      · rename_i i
        split at o
        · rename_i k fs em
          split at o
          · rename_i hl
            split at o
            · rename_i f hm
              have hm : T.G.mt k m = some f := hm
              obtain ⟨cl, mm, fd, hf⟩ := A.top.mt k m f hm
              obtain ⟨hb, hlen, _⟩ := A.top.fn f fd hf
              have F := A.fnx d (Nat.le_refl _) f fd hf
              have st_ := chXs_star c5
              have hx : L2.Passes (L2.CX X.prog X.w) X (WE W t) := passes_call tk (fun c dd σ H h => hP W pw c dd t σ H h)
              have he := meth_eval (o := q1) (m := m) (apos := ap) (pos := pos) (es := ps) (env := X.env) c2 st_ c3 (by omega)
              have sp : ∀ {io1 : Nat → Addr} {st2 : Store} {H1 : Hp} {vs : List Val} {ws : List V}, Rl X.K T.G.kt T.ca io1 st2 H1 → RVs X.K T.G.kt io1 st2.n H1 vs ws → OutV X.K T.G.kt T.ca io1 st2 H1 (callN T.G T.fuel d f vs st2) Q (WE W t) → spX X.K T (callN T.G T.fuel d f) (T.psn f).length ws H1 Q (WE W t) := by
                intro io1 st2 H1 vs ws R1 r1 o1
                refine ⟨?_, io1, st2, vs, R1, r1, o1⟩
                cases d with
                | zero => exact o1.elim
                | succ d' =>
                  rw [callN_succ, hf] at o1
                  simp only at o1
                  unfold runF at o1
                  split at o1
                  · rename_i h; rw [← r1.length, h]; exact hlen.symm
                  · exact o1.elim
              have fin : ∀ (io1 : Nat → Addr) (H1 : Hp) (w : V), Up io st.n H io1 st1.n H1 → Rl X.K T.G.kt T.ca io1 st1 H1 → RV X.K T.G.kt io1 st1.n H1 (.ref i) w → ∃ b dx gs, w = .ref b ∧ H1 b = some (.ins (T.ca k) dx gs) ∧ gs.lookup m = none ∧
                  aSem X ps t H1 fun ws H2 => spX X.K T (callN T.G T.fuel d f) (T.psn f).length (w :: (ws ++ [])) H2 Q (WE W t) := by
                intro io1 H1 w u1 R1 r1
                obtain ⟨rfl, hi⟩ := r1.iref
                obtain ⟨_, _, dx, gs, h1, rk⟩ := R1.inst em
                have hg : gs.lookup m = none := by
                  rcases rk.lookup m with ⟨_, z⟩ | ⟨v', w', z, _, _⟩
                  · exact z
                  · rw [hl] at z; cases z
                refine ⟨_, dx, gs, rfl, h1, hg, ?_⟩
                refine hs X sc ow ps A c5 s st1 io1 H1 t _ W pw tk (rs.up u1) R1 ?_
                cases e2 : evXs (T.cx d) xs s st1 with
                | fail => rw [e2] at o; exact o.elim
                | ex k' fs' st' => rw [e2] at o; exact PostX.after o u1
                | ok vs st2 =>
                  rw [e2] at o
                  have o : OutV X.K T.G.kt T.ca io st H (callN T.G T.fuel d f (.ref i :: vs) st2) Q (WE W t) := o
                  intro io2 H2 ws u2 R2 r2
                  simp only [List.append_nil]
                  refine sp R2 (.cons (r1.up u2) r2) ?_
                  cases e3 : callN T.G T.fuel d f (.ref i :: vs) st2 with
                  | fail => rw [e3] at o; exact o.elim
                  | ex k' fs' st' => rw [e3] at o; exact PostX.after o (u1.trans u2)
                  | ok v st3 => rw [e3] at o; exact Post.after o (u1.trans u2)
              intro pins sh I
              cases ps with
              | nil =>
                refine (pe_meth0 (pl := do return (← importBound q1 X.env).getD true) pe_sem cl mm F A.room hb .nil hx he).run pins sh t H Q I ?_
                refine ha X sc ow q1 A c1 s st _ st1 io H t _ rs R e1 fun io1 H1 w u1 R1 r1 => ?_
                obtain ⟨b, dx, gs, rfl, h1, h2, h3⟩ := fin io1 H1 w u1 R1 r1
                refine ⟨b, dx, gs, rfl, h1, h2, ?_⟩
                cases xs with
                | nil =>
                  simp only [evXs, bind_ok] at o
                  have o : OutV X.K T.G.kt T.ca io st H (callN T.G T.fuel d f (.ref i :: []) st1) Q (WE W t) := o
                  show spX _ _ _ _ (.ref b :: ([] ++ [])) H1 Q (WE W t)
                  refine sp R1 (.cons r1 .nil) ?_
                  cases e3 : callN T.G T.fuel d f (.ref i :: []) st1 with
                  | fail => rw [e3] at o; exact o.elim
                  | ex k' fs' st' => rw [e3] at o; exact PostX.after o u1
                  | ok v st3 => rw [e3] at o; exact Post.after o u1
                | cons a b => simp [chXs] at c5
              | cons p2 ps =>
                rw [List.all_cons, Bool.and_eq_true] at st_
                refine (pe_meth (pl := do return (← importBound q1 X.env).getD true) pe_sem cl mm F A.room hb .nil hx pa_sem (star_cons st_.1) (star_any st_.2) he).run pins sh t H Q I ?_
                exact ha X sc ow q1 A c1 s st _ st1 io H t _ rs R e1 fun io1 H1 w u1 R1 r1 => fin io1 H1 w u1 R1 r1
            · exact o.elim
          · exact o.elim
        · exact o.elim
      · exact o.elim
  · cases hc
theorem sx_tup {xs : XEs} (hs : SXs P T d N xs) : SX P T d N (.tup xs) := by
  intro X sc ow q A hc s st io H t Q W pw tk rs R o
  simp only [chX] at hc
  split at hc
  · simp only [evX] at o
    intro pins sh I
    refine (pe_tup pa_sem).run pins sh t H Q I ?_
    refine hs X sc ow _ A hc s st io H t _ W pw tk rs R ?_
    cases e1 : evXs (T.cx d) xs s st with
    | fail => rw [e1] at o; exact o.elim
    | ex k fs st' => rw [e1] at o; exact o
    | ok vs st1 =>
      rw [e1] at o
      simp only [bind_ok] at o
      unfold mkT at o
      split at o
      · rename_i hf
        exact fun io1 H1 ws u1 R1 r1 => ⟨by rw [← r1.length]; exact fits_le hf, fun a ha => (Post.after o u1).tup R1 r1 a ha⟩
      · exact o.elim
  · cases hc
/-- a comparison's reading, errors told -/
theorem cmp_readX {o : Cop} {x y : XE} (hx : SX P T d N x) (hy : SX P T d N y) {X : Cx} {sc : Scope} {ow : Str → Bool} {q r : Expr} (A : At T d X N sc ow) (c1 : chX T.nm N x sc q = true) (c2 : chX T.nm N y sc r = true)
    {s : Env} {st : Store} {io : Nat → Addr} {H : Hp} {t : L2.St} {Q : VK} {W : WX} (pw : P W) (tk : L2.Takes X W) (rs : RS X.K T.G.kt io st.n H s t) (R : Rl X.K T.G.kt T.ca io st H)
    (oo : OutV X.K T.G.kt T.ca io st H (evX (T.cx d) (.cmp o x y) s st) Q (WE W t)) : tOp (oSem X (compareOp (copOf o))) (tSem X q) (tSem X r) t H Q := by
  simp only [evX] at oo
  refine hx X sc ow _ A c1 s st io H t _ W pw tk rs R ?_
  cases e1 : evX (T.cx d) x s st with
  | fail => rw [e1] at oo; exact oo.elim
  | ex k fs st' => rw [e1] at oo; exact oo
  | ok u st1 =>
    rw [e1] at oo
    simp only [bind_ok] at oo
    intro io1 H1 w u1 R1 r1
    refine hy X sc ow _ A c2 s st1 io1 H1 t _ W pw tk (rs.up u1) R1 ?_
    cases e2 : evX (T.cx d) y s st1 with
    | fail => rw [e2] at oo; exact oo.elim
    | ex k fs st' => rw [e2] at oo; exact PostX.after oo u1
    | ok v st2 =>
      rw [e2] at oo
      simp only [bind_ok] at oo
      intro io2 H2 w2 u2 R2 r2
      cases e3 : cop (T.cx d).G.kt o u v st2 with
      | fail => rw [e3] at oo; exact oo.elim
      | ex k fs st' => rw [e3] at oo; exact oo.elim
      | ok z st3 =>
        rw [e3] at oo
        exact cop_ok A.hu R2 (r1.up u2) r2 e3 (Post.after oo (u1.trans u2))
theorem sx_cmp {o : Cop} {x y : XE} (hx : SX P T d N x) (hy : SX P T d N y) : SX P T d N (.cmp o x y) := by
  intro X sc ow q A hc s st io H t Q W pw tk rs R oo
  simp only [chX] at hc
  split at hc
  · simp only [Bool.and_eq_true, decide_eq_true_eq] at hc
    obtain ⟨⟨⟨rfl, c1⟩, c2⟩, c3⟩ := hc
    intro pins sh I
    exact (pe_cmpR op_sem pe_sem pe_sem (noset_in c3 _)).run pins sh t H Q I (cmp_readX hx hy A c1 c2 pw tk rs R oo)
  · cases hc
theorem sx_app {a : E} {x : XE} (ha : SE T d N a) (hx : SX P T d N x) : SX P T d N (.app a x) := by
  intro X sc ow q A hc s st io H t Q W pw tk rs R o
  simp only [chX] at hc
  split at hc
  · rename_i q1 g ap r1 pos
    simp only [Bool.and_eq_true, decide_eq_true_eq] at hc
    obtain ⟨⟨⟨⟨⟨rfl, c1⟩, c2⟩, c3⟩, c4⟩, c5⟩ := hc
    simp only [evX] at o
    cases e1 : ev (T.cx d) a s st with
    | fail => rw [e1] at o; exact o.elim
    | ex k fs st' => rw [e1] at o; exact o.elim
    | ok u st1 =>
      rw [e1] at o
      simp only [noex_ok, bind_ok] at o
      split at o
      · rename_i i
        split at o
        · rename_i xs em
          obtain ⟨sl, ty⟩ := bm_slot .append
          have st_ : [r1].all nostar = true := by simp [c5]
          intro pins sh I
          refine (pe_bm PySem.F.plainAttrs_list sl ty mt_sem pe_sem (pa_cons pe_sem pa_nil (star_cons c5)) (base_of c2 _) ?_ c3 (star_cons c5) (star_any (ps := []) rfl)).run pins sh t H Q I ?_
          · rw [(star_map st_).1, (star_map (pos := pos) st_).2.2]; rfl
          · refine ha X sc ow q1 A c1 s st _ st1 io H t _ rs R e1 fun io1 H1 w u1 R1 r1 => ⟨?_, ?_⟩
            · obtain ⟨rfl, hi⟩ := r1.iref
              obtain ⟨ys, s1, _, _⟩ := R1.list em
              exact .inl ⟨rfl, ys, s1⟩
            refine hx X sc ow _ A c4 s st1 io1 H1 t _ W pw tk (rs.up u1) R1 ?_
            cases e2 : evX (T.cx d) x s st1 with
            | fail => rw [e2] at o; exact o.elim
            | ex k fs st' => rw [e2] at o; exact PostX.after o u1
            | ok v st2 =>
              rw [e2] at o
              simp only [bind_ok] at o
              cases e3 : bmt .append (.ref i) [v] st2 with
              | fail => rw [e3] at o; exact o.elim
              | ex k fs st' => rw [e3] at o; exact o.elim
              | ok z st3 =>
                rw [e3] at o
                exact fun io2 H2 w2 u2 R2 r2 => bm_ok A.hu R2 (r1.up u2) (.cons r2 .nil) e3 (Post.after o (u1.trans u2))
        · exact o.elim
      · exact o.elim
  · cases hc
mutual
theorem all_x (he : ∀ e : E, SE T d N e) : ∀ x : XE, SX SF T d N x
  | .pu e => sx_pu (he e)
  | .fn _ xs => sx_fn (all_xs he xs)
  | .met a _ xs => sx_met (fun _ h => h) (he a) (all_xs he xs)
  | .tup xs => sx_tup (all_xs he xs)
  | .cmp _ x y => sx_cmp (all_x he x) (all_x he y)
  | .app a x => sx_app (he a) (all_x he x)
theorem all_xs (he : ∀ e : E, SE T d N e) : ∀ xs : XEs, SXs SF T d N xs
  | .nil => sxs_nil
  | .cons x xs => sxs_cons (all_x he x) (all_xs he xs)
end
mutual
theorem all_x0 (he : ∀ e : E, SE T d N e) : ∀ x : XE, x.slot = true → SX (fun _ => True) T d N x
  | .pu e, _ => sx_pu (he e)
  | .fn _ xs, h => sx_fn (all_xs0 he xs (by simpa [XE.slot] using h))
  | .met _ _ _, h => by simp [XE.slot] at h
  | .tup _, h => by simp [XE.slot] at h
  | .cmp _ _ _, h => by simp [XE.slot] at h
  | .app _ _, h => by simp [XE.slot] at h
theorem all_xs0 (he : ∀ e : E, SE T d N e) : ∀ xs : XEs, xs.slot = true → SXs (fun _ => True) T d N xs
  | .nil, _ => sxs_nil
  | .cons x xs, h => by
    simp only [XEs.slot, Bool.and_eq_true] at h
    exact sxs_cons (all_x0 he x h.1) (all_xs0 he xs h.2)
end
theorem takesF {X : Cx} : L2.Takes X (fun _ _ _ _ => False) := fun _ _ ⟨_, _, _, _, _, _, _, _, _, _, _, _, _, _, _, _, w⟩ => w.elim
/-- how a statement's run ends, against what is wished: behind an error nothing is known of the slots -/
def OutF (K : PySem.W.Frag) (kt : List (List Val)) (ca io : Nat → Addr) (st : Store) (H : Hp) (r : Res Fl) (D : Ends) (W : XK) : Prop := match r with
  | .ok v st' => PostF K kt ca io st H v st' D
  | .ex k fs st' => PostX K kt ca io st H k fs st' W
  | .fail => False
/-- a statement, errors told -/
def SSX (T : Tab) (d : Nat) (N : List Str) (x : S) : Prop := ∀ (X : Cx) (sc : Scope) (ow : Str → Bool) (p : Stmt), AtS T d X N sc ow → chS T.nm N sc ow x p = true →
  ∀ (s : Env) (st : Store) (io : Nat → Addr) (H : Hp) (t : L2.St) (D : Ends) (E : XK), L2.Takes X (fun c dx _ H => E c dx H) → RS X.K T.G.kt io st.n H s t → Rl X.K T.G.kt T.ca io st H → OutF X.K T.G.kt T.ca io st H (exec (T.cx d) x s st) D E → xSem X p D t H
def SSsX (T : Tab) (d : Nat) (N : List Str) (x : Ss) : Prop := ∀ (X : Cx) (sc : Scope) (ow : Str → Bool) (ps : List Stmt), AtS T d X N sc ow → chSs T.nm N sc ow x ps = true →
  ∀ (s : Env) (st : Store) (io : Nat → Addr) (H : Hp) (t : L2.St) (D : Ends) (E : XK), L2.Takes X (fun c dx _ H => E c dx H) → RS X.K T.G.kt io st.n H s t → Rl X.K T.G.kt T.ca io st H → OutF X.K T.G.kt T.ca io st H (execs (T.cx d) x s st) D E → xsSem X ps D t H
/-- a statement that raises nothing -/
theorem ssx_of {x : S} (h : SS T d N x) (hn : ∀ c s st k fs st', exec c x s st ≠ .ex k fs st') : SSX T d N x := by
  intro X sc ow p A hc s st io H t D E tk rs R o
  cases r : exec (T.cx d) x s st with
  | fail => rw [r] at o; exact o.elim
  | ex k fs st' => exact absurd r (hn _ _ _ _ _ _)
  | ok v st' => rw [r] at o; exact h X sc ow p A hc s st v st' io H t D rs R r o
theorem ssx_exX {x : XE} (hx : SX SF T d N x) : SSX T d N (.exX x) := by
  intro X sc ow p A hc s st io H t D E tk rs R o
  simp only [chS] at hc
  split at hc
  · rename_i v pos
    simp only [Bool.and_eq_true] at hc
    simp only [exec] at o
    intro pins sh I
    refine (ps_expr pe_sem (swap_none hc.2)).run pins sh t H D I ?_
    refine hx X sc ow v A.toAt hc.1 s st io H t _ _ (fun _ _ _ _ _ h => h) tk rs R ?_
    cases r : evX (T.cx d) x s st with
    | fail => rw [r] at o; exact o.elim
    | ex k fs st' => rw [r] at o; exact o
    | ok u st1 =>
      rw [r] at o
      exact fun io1 H1 w u1 R1 rv => o io1 H1 _ u1 R1 (rs.up u1)
  · cases hc
theorem ssx_asX {i : Nat} {x : XE} (hx : SX SF T d N x) : SSX T d N (.asX i x) := by
  intro X sc ow p A hc s st io H t D E tk rs R o
  simp only [chS] at hc
  split at hc
  · rename_i y py v pos
    simp only [Bool.and_eq_true] at hc
    obtain ⟨⟨c1, c2⟩, c3⟩ := hc
    obtain ⟨h1, h2, h3⟩ := stB_ok A.toAt c2
    simp only [exec] at o
    intro pins sh I
    refine (ps_set A.nodup h1 h2 pe_sem (swap_none c3) h3).run pins sh t H D I ?_
    refine hx X sc ow v A.toAt c1 s st io H t _ _ (fun _ _ _ _ _ h => h) tk rs R ?_
    cases r : evX (T.cx d) x s st with
    | fail => rw [r] at o; exact o.elim
    | ex k fs st' => rw [r] at o; exact o
    | ok u st1 =>
      rw [r] at o
      exact fun io1 H1 w u1 R1 rv => o io1 H1 _ u1 R1 ((rs.up u1).set rv i)
  · cases hc
theorem ssx_retX {x : XE} (hx : SX SF T d N x) : SSX T d N (.retX x) := by
  intro X sc ow p A hc s st io H t D E tk rs R o
  simp only [chS] at hc
  split at hc
  · rename_i v pos
    simp only [exec] at o
    intro pins sh I
    refine (ps_ret pe_sem).run pins sh t H D I ?_
    refine hx X sc ow v A.toAt hc s st io H t _ _ (fun _ _ _ _ _ h => h) tk rs R ?_
    cases r : evX (T.cx d) x s st with
    | fail => rw [r] at o; exact o.elim
    | ex k fs st' => rw [r] at o; exact o
    | ok u st1 =>
      rw [r] at o
      exact fun io1 H1 w u1 R1 rv => o io1 H1 _ u1 R1 rv
  · cases hc
theorem ssx_cond {c : B} {a b : Ss} (hb : SB T d N c) (h1 : SSsX T d N a) (h2 : SSsX T d N b) : SSX T d N (.cond c a b) := by
  intro X sc ow q A hc s st io H t D E tk rs R o
  simp only [chS] at hc
  split at hc
  · simp only [Bool.and_eq_true] at hc
    simp only [exec] at o
    cases r : ts (T.cx d) c s st with
    | fail => rw [r] at o; exact o.elim
    | ex k fs st' => rw [r] at o; exact o.elim
    | ok k st1 =>
      rw [r] at o
      have o : OutF X.K T.G.kt T.ca io st H (if k then execs (T.cx d) a s st1 else execs (T.cx d) b s st1) D E := o
      intro pins sh I
      refine (ps_if pt_sem pss_sem pss_sem).run pins sh t H D I ?_
      refine hb X sc ow _ A.toAt hc.1.1 s st k st1 io H t _ rs R r fun io1 H1 u1 R1 => ?_
      have aft : ∀ {x : Res Fl}, OutF X.K T.G.kt T.ca io st H x D E → OutF X.K T.G.kt T.ca io1 st1 H1 x D E := fun {x} z => by
        cases x with
        | fail => exact z.elim
        | ex k fs st' => exact PostX.after z u1
        | ok v st' => exact PostF.after z u1
      cases k with
      | true =>
        rw [if_pos rfl] at o ⊢
        exact h1 X sc ow _ A hc.1.2 s st1 io1 H1 t D E tk (rs.up u1) R1 (aft o)
      | false =>
        rw [if_neg (by decide)] at o ⊢
        exact h2 X sc ow _ A hc.2 s st1 io1 H1 t D E tk (rs.up u1) R1 (aft o)
  · cases hc
theorem ssx_nil : SSsX T d N .nil := by
  intro X sc ow ps A hc s st io H t D E tk rs R o
  simp only [execs] at o
  exact sss_nil X sc ow ps A hc s st (.nx s) st io H t D rs R (by simp only [execs]) o
theorem ssx_cons {x : S} {r : Ss} (h1 : SSX T d N x) (h2 : SSsX T d N r) : SSsX T d N (.cons x r) := by
  intro X sc ow ps A hc s st io H t D E tk rs R o
  simp only [chSs] at hc
  split at hc
  · rw [Bool.and_eq_true] at hc
    simp only [execs] at o
    intro pins sh I
    refine (pss_cons ps_sem pss_sem).run pins sh t H D I ?_
    refine h1 X sc ow _ A hc.1 s st io H t _ E tk rs R ?_
    cases e1 : exec (T.cx d) x s st with
    | fail => rw [e1] at o; exact o.elim
    | ex k fs st' => rw [e1] at o; exact o
    | ok f2 st1 =>
      rw [e1] at o
      have o : OutF X.K T.G.kt T.ca io st H (thenF (fun s st => execs (T.cx d) r s st) f2 st1) D E := o
      cases f2 with
      | nx s1 =>
        have o : OutF X.K T.G.kt T.ca io st H (execs (T.cx d) r s1 st1) D E := o
        intro io1 H1 t1 u1 R1 rs1
        refine h2 X sc ow _ A hc.2 s1 st1 io1 H1 t1 D E tk rs1 R1 ?_
        cases e2 : execs (T.cx d) r s1 st1 with
        | fail => rw [e2] at o; exact o.elim
        | ex k fs st' => rw [e2] at o; exact PostX.after o u1
        | ok v st' => rw [e2] at o; exact PostF.after o u1
      | rt v => exact o
      | bk s1 => exact o
      | ct s1 => exact o
  · cases hc
theorem del_upd {H : Hp} {a dx : Addr} {o u : HO} (ha : H a = none) : L2.del (upd H a o) a = H := by
  funext b
  unfold L2.del
  by_cases e : b = a
  · rw [if_pos e, e, ha]
  · rw [if_neg e, upd_ne e]
/-- an error of an own class is made: its dict holds what its __init__ is handed -/
theorem made_x {X : Cx} {k : Nat} {vs dvs : List V} {y : V} {f : Str} {H : Hp} {Q : XK} (hl : vs.length ≤ 1000) (hv : vs ++ dvs = [y]) (hC : OexC X.K (T.ca k)) (hno : PySem.W.findIn X.K (.ref (T.ca k)) f = some none)
    (q : ∀ dx, H dx = none → Q (.ref (T.ca k)) (some dx) (upd H dx (.xd [(f, y)]))) :
    vs.length ≤ 1000 ∧ ∀ a, H a = none → spI X.K f (.ref a :: (vs ++ dvs)) (upd H a (exo a (T.ca k) none))
      (fun v H2 => v = .non ∧ ∃ (d : Addr) (fs : List (Str × V)), H2 a = some (exo a (T.ca k) (some d)) ∧ H2 d = some (exd d fs) ∧ H d = none ∧ Q (.ref (T.ca k)) (some d) (upd (L2.del H2 a) d (.xd fs))) (fun _ _ _ => False) := by
  refine ⟨hl, fun a ha => ⟨a, T.ca k, y, by rw [hv], hC, hno, upd_same, fun dx h1 h2 => ⟨rfl, dx, [(f, y)], upd_same, ?_, ?_, ?_⟩⟩⟩
  · rw [upd_ne h2, upd_same]
  · rw [upd_ne h2] at h1; exact h1
  · have hd : H dx = none := by rw [upd_ne h2] at h1; exact h1
    have e : upd (L2.del (upd (upd (upd H a (exo a (T.ca k) none)) dx (exd dx [(f, y)])) a (exo a (T.ca k) (some dx))) a) dx (.xd [(f, y)]) = upd H dx (.xd [(f, y)]) := by
      funext b
      by_cases hb : b = dx
      · rw [hb, upd_same, upd_same]
      · rw [upd_ne hb, upd_ne hb]
        unfold L2.del
        by_cases hba : b = a
        · rw [if_pos hba, hba, ha]
        · rw [if_neg hba, upd_ne hba, upd_ne hb, upd_ne hba]
    rw [e]
    exact q dx hd
theorem xdRl {K : PySem.W.Frag} {kt : List (List Val)} {ca io : Nat → Addr} {st : Store} {H : Hp} (R : Rl K kt ca io st H) {dx : Addr} {gs : List (Str × V)} (h : H dx = none) : Up io st.n H io st.n (upd H dx (.xd gs)) ∧ Rl K kt ca io st (upd H dx (.xd gs)) := by
  have up : Up io st.n H io st.n (upd H dx (.xd gs)) := ⟨Nat.le_refl _, fun _ _ => rfl, .new _ h⟩
  refine ⟨up, fun i hi => ?_, R.no, R.inj⟩
  obtain ⟨q, e, rq⟩ := R.ob i hi
  refine ⟨q, e, rq.up up fun hr => ?_⟩
  rw [hr] at rq
  obtain ⟨x, ex, _⟩ := rq.mutO
  exact upd_ne (ne_of_none ex h)
theorem ssx_rse {k : Nat} {eo : Option E} (he : ∀ e : E, SE T d N e) : SSX T d N (.rse k eo) := by
  intro X sc ow p A hc s st io H t D E tk rs R o
  simp only [exec] at o
  split at o
  · rename_i hk
    rw [Bool.and_eq_true, decide_eq_true_eq] at hk
    obtain ⟨hk, h2⟩ := hk
    have h2 : 2 ≤ d := h2
    obtain ⟨d', rfl⟩ : ∃ d', d = d' + 2 := ⟨d - 2, by omega⟩
    have xc := A.top.xc k hk
    obtain ⟨x, qual, x0, x1, params, body, scope, fI, fd, N', ps, p1, p2, p3, p4, i1, i2, F, S, hN, hps, hbody, v0, v1, d0, d1, ⟨ds, hds, hb1⟩, hb0⟩ := xc.ini
    have F1 : FnOk X.prog X.w X.K X.mg X.base CX0 (d' + 1) fI fd ps (spI X.K T.G.xf) := xinit_ok F S hN hps hbody v0 v1 (debB_ok d0).1 (debB_ok d0).2 (debB_ok d1).1 (debB_ok d1).2
    cases eo with
    | none =>
      simp only [chS] at hc
      split at hc
      · rename_i x' px pc pp
        obtain ⟨rfl, _, hd⟩ := gB_ok hc
        intro pins sh I
        refine (ps_raise A.calm tk (pmk_oex0 xc.ox i1 i2 F1 A.room hb1 hds pass0 (A.gl hc) xc.mgc hd)).run pins sh t H D I ?_
        refine made_x (vs := []) (dvs := [V.int 0]) (by simp) rfl xc.ox xc.no fun dx hdx => ?_
        obtain ⟨up, R1⟩ := xdRl (gs := [(T.G.xf, V.int 0)]) R hdx
        exact o io _ dx _ up R1 upd_same (.cons (.int 0) .nil)
      · cases hc
    | some e =>
      simp only [chS] at hc
      split at hc
      · rename_i x' px q pc pp
        simp only [Bool.and_eq_true] at hc
        obtain ⟨⟨c1, c2⟩, c3⟩ := hc
        obtain ⟨rfl, _, hd⟩ := gB_ok c1
        cases r : ev (T.cx (d' + 2)) e s st with
        | fail => simp only [r] at o; exact o.elim
        | ex k' fs st' => simp only [r] at o; exact o.elim
        | ok v st1 =>
          simp only [r, noex_ok, bind_ok] at o
          split at o
          · rename_i i
            intro pins sh I
            refine (ps_raise A.calm tk (pmk_oex (dvs := []) xc.ox i1 i2 F1 A.room hb0 .nil pass0 (A.gl c1) xc.mgc (pa_cons pe_sem pa_nil (star_cons c3)) hd (star_cons c3) (by rfl))).run pins sh t H D I ?_
            refine he e X sc ow q A.toAt c2 s st _ st1 io H t _ rs R r fun io1 H1 w u1 R1 rv => ?_
            obtain rfl := rv.iint
            refine made_x (vs := [V.int i]) (dvs := []) (by simp) rfl xc.ox xc.no fun dx hdx => ?_
            obtain ⟨up, R2⟩ := xdRl (gs := [(T.G.xf, V.int i)]) R1 hdx
            exact o io1 _ dx _ (u1.trans up) R2 upd_same (.cons (.int i) .nil)
          · exact o.elim
      · cases hc
  · exact o.elim
theorem names_of {T : Tab} {X : Cx} {sc : Scope} {ow : Str → Bool} {N : List Str} {d k : Nat} (A : At T d X N sc ow) {y : Str} (h : gB sc y (T.nm.cl k) = true) (xc : XC T X.K X.mg k) : Names X y (.ref (T.ca k)) := by
  have hg := A.gl h
  obtain ⟨rfl, _, hd⟩ := gB_ok h
  exact ⟨hg, hd, .inl xc.mgc⟩
theorem AtS.tr {X : Cx} {sc : Scope} {ow : Str → Bool} (A : AtS T d X N sc ow) (pn : List (Addr × Obj)) (xe : Value → Shared → Prop) : At T d (X.tr pn xe) N sc ow :=
  ⟨A.top, A.fns, A.dfs, A.fnx, A.hN, A.nd, A.hsc, A.kind, A.how, A.calm, A.room⟩
/-- what a kept error is, in the store -/
theorem keep_rl {K : PySem.W.Frag} {kt : List (List Val)} {ca io : Nat → Addr} {st : Store} {H : Hp} {k : Nat} {fs : List (Str × Val)} {gs : List (Str × V)} {a dx : Addr} {oe od : Obj} (R : Rl K kt ca io st H) (hd : H dx = some (.xd gs)) (r : RKs K kt io st.n H fs gs)
    (na : H a = none) (hc : oe.cls = .ref (ca k)) (hdx : oe.dict = some dx) (hv : ∃ vs, oe.data = .fields vs) :
    Up io st.n H (ioNew io st.n a) (st.n + 1) (upd (upd H a (keptO a oe)) dx (.frz od (.xd gs))) ∧ Rl K kt ca (ioNew io st.n a) (st.newR (.exc k fs)) (upd (upd H a (keptO a oe)) dx (.frz od (.xd gs))) := by
  have hda : dx ≠ a := fun z => by rw [z, na] at hd; cases hd
  have keepT : ∀ b u, H b = some u → u ≠ .xd gs → upd (upd H a (keptO a oe)) dx (.frz od (.xd gs)) b = some u := fun b u e n => by
    rw [upd_ne (fun z => by rw [z, hd] at e; cases e; exact n rfl), upd_ne (fun z => by rw [z, na] at e; cases e)]; exact e
  have x : Ext H (upd (upd H a (keptO a oe)) dx (.frz od (.xd gs))) := ⟨fun b xs e => keepT b _ e (fun z => by cases z), fun b o u e => keepT b _ e (fun z => by cases z)⟩
  have up : Up io st.n H (ioNew io st.n a) (st.n + 1) (upd (upd H a (keptO a oe)) dx (.frz od (.xd gs))) := ⟨Nat.le_succ _, fun i hi => ioNew_ne (Nat.ne_of_lt hi), x⟩
  refine R.newR x (fun i hi hr => ?_) (.exc (o := oe) (od := od) (u := .ext fun h => ∃ o, h.get? a = some o) ?_ hc hdx hv upd_same (r.up up))
  · obtain ⟨q, e, rq⟩ := R.ob i hi
    rw [hr] at rq
    obtain ⟨y, ey, my⟩ := rq.mutO
    rw [ey]
    exact keepT _ _ ey (fun z => by subst z; exact my)
  · rw [upd_ne (fun z => hda z.symm), upd_same]
theorem OutF.after {K : PySem.W.Frag} {kt : List (List Val)} {ca io io1 : Nat → Addr} {st st1 : Store} {H H1 : Hp} {r : Res Fl} {D : Ends} {E : XK} (o : OutF K kt ca io st H r D E) (u : Up io st.n H io1 st1.n H1) : OutF K kt ca io1 st1 H1 r D E := by
  cases r with
  | fail => exact o.elim
  | ex k fs st' => exact PostX.after o u
  | ok v st' => exact PostF.after o u
theorem ssx_condX {x : XE} {a b : Ss} (hx : SX SF T d N x) (h1 : SSsX T d N a) (h2 : SSsX T d N b) (hp : ∀ o y z, x = .cmp o y z → SX SF T d N y ∧ SX SF T d N z) : SSX T d N (.condX x a b) := by
  intro X sc ow q A hc s st io H t D E tk rs R o
  simp only [chS] at hc
  split at hc
  · rename_i q1 r1 t1 pos
    simp only [Bool.and_eq_true] at hc
    obtain ⟨⟨⟨c1, c2⟩, c3⟩, c4⟩ := hc
    simp only [exec] at o
    cases x with
    | cmp op y z =>
      obtain ⟨hy, hz⟩ := hp op y z rfl
      simp only [chX] at c1
      split at c1
      · simp only [Bool.and_eq_true, decide_eq_true_eq] at c1
        obtain ⟨⟨⟨rfl, d1⟩, d2⟩, d3⟩ := c1
        intro pins sh I
        refine (ps_if (pt_cmpR op_sem pe_sem pe_sem (noset_in d3 _)) pss_sem pss_sem).run pins sh t H D I ?_
        refine cmp_readX (W := fun c dx _ H => E c dx H) hy hz A.toAt d1 d2 (fun _ _ _ _ _ h => h) tk rs R ?_
        cases e1 : evX (T.cx d) (.cmp op y z) s st with
        | fail => rw [e1] at o; exact o.elim
        | ex k fs st' => rw [e1] at o; exact o
        | ok v st1 =>
          rw [e1] at o
          simp only [bind_ok] at o
          intro io1 H1 w u1 R1 rv
          split at o
          · rename_i k
            obtain rfl := rv.ibl
            refine ⟨k, rfl, ?_⟩
            have o := OutF.after o u1
            cases k with
            | true =>
              rw [if_pos rfl] at o
              show (if true = true then xsSem X r1 D t H1 else xsSem X t1 D t H1)
              rw [if_pos rfl]
              exact h1 X sc ow _ A c3 s st1 io1 H1 t D E tk (rs.up u1) R1 o
            | false =>
              rw [if_neg (by decide)] at o
              show (if false = true then xsSem X r1 D t H1 else xsSem X t1 D t H1)
              rw [if_neg (by decide)]
              exact h2 X sc ow _ A c4 s st1 io1 H1 t D E tk (rs.up u1) R1 o
          · exact o.elim
      · cases c1
    | _ => simp [XE.isCmp] at c2
  · cases hc
theorem ssx_whl {c : B} {b : Ss} (hb : SB T d N c) (h1 : SSsX T d N b) : SSX T d N (.whl c b) := by
  intro X sc ow q A hc s st io H t D E tk rs R o
  simp only [chS] at hc
  split at hc
  · rename_i q1 r pos
    simp only [Bool.and_eq_true] at hc
    simp only [exec] at o
    intro pins sh I
    refine (ps_while A.own pt_sem pss_sem).run pins sh t H D I ?_
    refine ⟨fun m t2 H2 => ∃ (io2 : Nat → Addr) (st2 : Store) (s2 : Env), Rl X.K T.G.kt T.ca io2 st2 H2 ∧ RS X.K T.G.kt io2 st2.n H2 s2 t2 ∧ OutF X.K T.G.kt T.ca io2 st2 H2 (whlLoop (fun s st => noex (ts (T.cx d) c s st)) (fun s st => execs (T.cx d) b s st) m s2 st2) D E,
      ⟨T.fuel, io, st, s, R, rs, o⟩, ?_⟩
    rintro m t2 H2 ⟨io2, st2, s2, R2, rs2, o2⟩
    cases m with
    | zero => exact o2.elim
    | succ m' =>
      unfold whlLoop at o2
      cases e3 : ts (T.cx d) c s2 st2 with
      | fail => rw [e3] at o2; exact o2.elim
      | ex k fs st' => rw [e3] at o2; exact o2.elim
      | ok k st3 =>
        rw [e3] at o2
        simp only [noex_ok, bind_ok] at o2
        refine hb X sc ow _ A.toAt hc.1 s2 st2 k st3 io2 H2 t2 _ rs2 R2 e3 fun io3 H3 u3 R3 => ?_
        have o2 := OutF.after o2 u3
        cases k with
        | false =>
          rw [if_neg (by decide)] at o2 ⊢
          exact o2 io3 H3 t2 (.refl _ _ _) R3 (rs2.up u3)
        | true =>
          rw [if_pos rfl] at o2 ⊢
          refine ⟨fun t4 H4 => ∃ (io4 : Nat → Addr) (st4 : Store) (s4 : Env), Rl X.K T.G.kt T.ca io4 st4 H4 ∧ RS X.K T.G.kt io4 st4.n H4 s4 t4 ∧ OutF X.K T.G.kt T.ca io4 st4 H4 (whlLoop (fun s st => noex (ts (T.cx d) c s st)) (fun s st => execs (T.cx d) b s st) m' s4 st4) D E,
            fun t4 H4 ⟨io4, st4, s4, a2, a3, a4⟩ => ⟨m', Nat.lt_succ_self _, io4, st4, s4, a2, a3, a4⟩, ?_⟩
          refine h1 X sc ow r A hc.2 s2 st3 io3 H3 t2 _ E tk (rs2.up u3) R3 ?_
          cases e5 : execs (T.cx d) b s2 st3 with
          | fail => rw [e5] at o2; exact o2.elim
          | ex k fs st' => rw [e5] at o2; exact o2
          | ok f2 st4 =>
            rw [e5] at o2
            simp only [bind_ok] at o2
            cases f2 with
            | nx s4 => exact fun io4 H4 t4 u4 R4 rs4 => ⟨io4, st4, s4, R4, rs4, OutF.after o2 u4⟩
            | ct s4 => exact fun io4 H4 t4 u4 R4 rs4 => ⟨io4, st4, s4, R4, rs4, OutF.after o2 u4⟩
            | bk s4 => exact o2
            | rt v => exact o2
  · cases hc
theorem ssx_for {tt : Tg} {w : I} {b : Ss} (hw : SI T d N w) (h1 : SSsX T d N b) : SSX T d N (.for tt w b) := by
  intro X sc ow q A hc s st io H t D E tk rs R o
  simp only [chS] at hc
  split at hc
  · rename_i tg it r pos
    simp only [Bool.and_eq_true] at hc
    obtain ⟨⟨⟨c1, c2⟩, c3⟩, c4⟩ := hc
    simp only [exec] at o
    cases e1 : evw (T.cx d) w s st with
    | fail => rw [e1] at o; exact o.elim
    | ex k fs st' => rw [e1] at o; exact o.elim
    | ok q1 st1 =>
      rw [e1] at o
      simp only [noex_ok, bind_ok] at o
      intro pins sh I
      refine (ps_for A.own A.calm pi_sem pg_sem pss_sem (folded c2)).run pins sh t H D I ?_
      refine hw X sc ow tg it A.toAt c1 s st q1 st1 io H t _ rs R e1 fun io1 H1 J u1 R1 wl => ?_
      have o := OutF.after o u1
      generalize hf : onTg tt (fun s st => execs (T.cx d) b s st) = f at o
      refine ⟨fun i m t2 H2 => m = q1.1.length - i ∧ i ≤ q1.1.length ∧ ∃ (io2 : Nat → Addr) (st2 : Store) (s2 : Env), Up io1 st1.n H1 io2 st2.n H2 ∧ Rl X.K T.G.kt T.ca io2 st2 H2 ∧ RS X.K T.G.kt io2 st2.n H2 s2 t2 ∧ OutF X.K T.G.kt T.ca io2 st2 H2 (forLoop q1.2 f (q1.1.drop i) s2 st2) D E,
        ⟨_, rfl, Nat.zero_le _, io1, st1, s, .refl _ _ _, R1, rs.up u1, by rw [List.drop_zero]; exact o⟩, ?_⟩
      rintro i m t2 H2 ⟨rfl, hi, io2, st2, s2, u2, R2, rs2, o2⟩
      by_cases hlt : i < q1.1.length
      · rw [List.drop_eq_getElem_cons hlt] at o2
        unfold forLoop at o2
        split at o2
        · rename_i hse
          refine .inr ⟨wl.go i io2 st2 H2 u2 R2 hse hlt, fun t4 H4 => ∃ (io4 : Nat → Addr) (st4 : Store) (s4 : Env), Up io1 st1.n H1 io4 st4.n H4 ∧ Rl X.K T.G.kt T.ca io4 st4 H4 ∧ RS X.K T.G.kt io4 st4.n H4 s4 t4 ∧ OutF X.K T.G.kt T.ca io4 st4 H4 (forLoop q1.2 f (q1.1.drop (i + 1)) s4 st4) D E,
            fun t4 H4 ⟨io4, st4, s4, a1, a2, a3, a4⟩ => ⟨q1.1.length - (i + 1), by omega, rfl, hlt, io4, st4, s4, a1, a2, a3, a4⟩, fun x H3 hy => ?_⟩
          obtain ⟨u3, R3, r3⟩ := wl.yld i _ io2 st2 H2 x H3 u2 R2 hse (List.getElem?_eq_getElem hlt) hy
          have o2 := OutF.after o2 u3
          generalize hr : f q1.1[i] s2 st2 = res at o2
          rw [← hf] at hr
          unfold onTg at hr
          split at hr
          · rename_i s' es
            refine tg_sem A.toAt c3 (rs2.up u3) r3 es fun ws rs3 => ?_
            refine h1 X sc ow r A c4 s' st2 io2 H3 _ _ E tk rs3 R3 ?_
            have U := u2.trans u3
            have hr : execs (T.cx d) b s' st2 = res := hr
            rw [hr]
            cases res with
            | fail => exact o2.elim
            | ex k fs st' => exact o2
            | ok f2 st3 =>
              simp only [bind_ok] at o2
              cases f2 with
              | nx s4 => exact fun io4 H4 t4 u4 R4 rs4 => ⟨io4, st3, s4, U.trans u4, R4, rs4, OutF.after o2 u4⟩
              | ct s4 => exact fun io4 H4 t4 u4 R4 rs4 => ⟨io4, st3, s4, U.trans u4, R4, rs4, OutF.after o2 u4⟩
              | bk s4 => exact o2
              | rt v => exact o2
          · subst hr
            exact o2.elim
        · exact o2.elim
      · have hi' : i = q1.1.length := by omega
        subst hi'
        rw [List.drop_length] at o2
        unfold forLoop at o2
        split at o2
        · rename_i hse
          exact .inl ⟨wl.stop io2 _ H2 u2 R2 hse, o2 io2 H2 t2 (.refl _ _ _) R2 rs2⟩
        · exact o2.elim
  · cases hc
def dstT (dst : Option Nat) (t : L2.St) (w : V) : L2.St := match dst with
  | some i => t.set i (some w)
  | none => t
theorem ss_tryK {dst : Option Nat} {x : XE} {k n w : Nat} (hx : x.slot = true → SX (fun _ => True) T d N x) : SS T d N (.tryK dst x k n w) := by
  intro X sc ow p A hc s st fl st' io H t D rs R e pp
  simp only [chS] at hc
  split at hc
  · rename_i b y py z u pu z' pz pa ph pt
    simp only [Bool.and_eq_true, decide_eq_true_eq] at hc
    obtain ⟨⟨⟨⟨⟨⟨⟨⟨hb, c1⟩, rfl⟩, c2⟩, c3⟩, c4⟩, c5⟩, c6⟩, c7⟩ := hc
    obtain ⟨n1, n2, n3⟩ := stB_ok A.toAt c2
    obtain ⟨u1, u2, u3⟩ := stB_ok A.toAt c5
    have hd4 : debB z' = true := by
      unfold rdB at c4
      simp only [Bool.and_eq_true] at c4
      exact c4.2
    simp only [exec] at e
    split at e
    · rename_i hkk
      have hkk : T.G.xs k k = true := hkk
      have xc := A.top.xc k hkk
      have key : ∀ (pn : List (Addr × Obj)) (xe : Value → Shared → Prop), L2.Takes (X.tr pn xe) (wKeep X.K (.ref (T.ca k)) n w D) → ∀ (pr : Expr), chX T.nm N x sc pr = true →
          tSem (X.tr pn xe) pr t H (fun v1 H1 => D.nx (dstT dst t v1) H1) := by
        intro pn xe tk pr hpr
        refine hx c7 (X.tr pn xe) sc ow pr (A.tr pn xe) hpr s st io H t _ _ trivial tk rs R ?_
        cases r : evX (T.cx d) x s st with
        | fail => rw [r] at e; cases e
        | ok v st1 =>
          rw [r] at e
          cases e
          intro io1 H1 w1 up1 R1 rv
          cases dst with
          | none => exact pp io1 H1 _ up1 R1 (rs.up up1)
          | some i => exact pp io1 H1 _ up1 R1 ((rs.up up1).set rv i)
        | ex k' fs st1 =>
          rw [r] at e
          simp only at e
          split at e
          · rename_i hk
            simp only [Bool.and_eq_true] at hk
            cases e
            intro io1 H1 dx gs up1 R1 hdx rk
            refine ⟨dx, gs, rfl, hdx, (A.top.xsub k' k hk.2 hkk).trans (by rw [show T.G.xs k' k = true from hk.1]), fun a oe od na h1 h2 h3 => ?_⟩
            obtain ⟨up2, R2⟩ := keep_rl (od := od) R1 hdx rk na h1 h2 h3
            refine pp _ _ _ (up1.trans up2) R2 ?_
            have r1 : RV X.K T.G.kt (ioNew io1 st1.n a) (st1.n + 1) (upd (upd H1 a (keptO a oe)) dx (.frz od (.xd gs))) (.ref st1.n) (.ref a) := by
              have z := RV.ref (K := X.K) (kt := T.G.kt) (io := ioNew io1 st1.n a) (n := st1.n + 1) (H := upd (upd H1 a (keptO a oe)) dx (.frz od (.xd gs))) (Nat.lt_succ_self st1.n)
              rw [ioNew_at] at z
              exact z
            exact ((rs.up (up1.trans up2)).set r1 w).none n
          · cases e
      have names : Names X y (.ref (T.ca k)) := names_of A.toAt c1 xc
      have kl : X.env.kindOf z' = some .local := by
        show X.env.scope.names.lookup z' = _
        rw [A.hsc]; exact c3
      intro pins sh I
      have sem : ∃ tb : WX → TS, (∀ (W : WX) (pn : List (Addr × Obj)) (xe : Value → Shared → Prop), L2.Takes (X.tr pn xe) W → PassesOwn (model X.prog X.w) X.A X.env xe → PSs (X.tr pn xe) [b] (tb W)) ∧ tb (wKeep X.K (.ref (T.ca k)) n w D) D t H := by
        cases dst with
        | none =>
          simp only at hb
          split at hb
          · rename_i v1 pos1
            rw [Bool.and_eq_true] at hb
            refine ⟨fun W D σ H => ∀ (pn : List (Addr × Obj)) (xe : Value → Shared → Prop), L2.Takes (X.tr pn xe) W → tSem (X.tr pn xe) v1 σ H (fun _ H1 => D.nx σ H1), fun W pn xe tk po => ⟨fun pins s σ H D I h => ?_⟩, fun pn xe tk => key pn xe tk v1 hb.1⟩
            exact (pss_one (ps_expr pe_sem (swap_none hb.2))).run pins s σ H D I (h pn xe tk)
          · cases hb
        | some i =>
          simp only at hb
          split at hb
          · rename_i y1 py1 v1 pos1
            simp only [Bool.and_eq_true] at hb
            obtain ⟨⟨b1, b2⟩, b3⟩ := hb
            obtain ⟨h1, h2, h3⟩ := stB_ok A.toAt b2
            refine ⟨fun W D σ H => ∀ (pn : List (Addr × Obj)) (xe : Value → Shared → Prop), L2.Takes (X.tr pn xe) W → tSem (X.tr pn xe) v1 σ H (fun w1 H1 => D.nx (σ.set i (some w1)) H1), fun W pn xe tk po => ⟨fun pins s σ H D I h => ?_⟩, fun pn xe tk => key pn xe tk v1 b1⟩
            exact (pss_one (ps_set (X := X.tr pn xe) A.nodup h1 h2 pe_sem (swap_none b3) h3)).run pins s σ H D I (h pn xe tk)
          · cases hb
      obtain ⟨tb, hb1, hb2⟩ := sem
      exact (ps_try_keep A.stk A.frm A.ex0 A.nodup n1 kl u1 u2 u3 c6 (debB_ok hd4).1 (debB_ok hd4).2 names hb1).run pins sh t H D I hb2
    · cases e
  · cases hc
/-- a statement that may raise, where it does not -/
theorem ss_ofx {x : S} (h : SSX T d N x) : SS T d N x := fun X sc ow p A hc s st fl st' io H t D rs R e pp =>
  h X sc ow p A hc s st io H t D (fun _ _ _ => False) takesF rs R (by rw [e]; exact pp)
theorem sss_ofx {x : Ss} (h : SSsX T d N x) : SSs T d N x := fun X sc ow p A hc s st fl st' io H t D rs R e pp =>
  h X sc ow p A hc s st io H t D (fun _ _ _ => False) takesF rs R (by rw [e]; exact pp)
end
end CL

/-! CL, part m: the whole: every def of the table keeps its promise; a law from its run -/
namespace CL
open PySem PySem.Spec PyProof.Rows L2
section
variable {T : Tab} {d : Nat} {N : List Str}
/-- what is wanted of an expression's parts -/
def Pt (T : Tab) (d : Nat) (N : List Str) : E → Prop
  | .cmp _ a b => SE T d N a ∧ SE T d N b
  | .cm2 _ _ a b c => SE T d N a ∧ SE T d N b ∧ SE T d N c
  | .isN a => SE T d N a
  | .noN a => SE T d N a
  | .lc _ w c e => SI T d N w ∧ SB T d N c ∧ SE T d N e
  | _ => True
theorem sb_of {e : E} (h : SE T d N e) (p : Pt T d N e) : SB T d N (.of e) := by
  cases e with
  | cmp o a b => exact sb_cmp p.1 p.2
  | cm2 o o2 a b c => exact sb_cm2 p.1 p.2.1 p.2.2
  | isN a => exact sb_isN p
  | noN a => exact sb_noN p
  | _ => exact sb_plain h rfl
variable (T d N)
mutual
theorem all_e : ∀ e : E, SE T d N e ∧ Pt T d N e
  | .v _ => ⟨se_v, trivial⟩
  | .int _ => ⟨se_int, trivial⟩
  | .str _ => ⟨se_str, trivial⟩
  | .bl _ => ⟨se_bl, trivial⟩
  | .non => ⟨se_non, trivial⟩
  | .gl _ => ⟨se_gl, trivial⟩
  | .tup es => ⟨se_tup (all_es es), trivial⟩
  | .lst es => ⟨se_lst (all_es es), trivial⟩
  | .dic ps => ⟨se_dic (all_ps ps), trivial⟩
  | .neg a => ⟨se_neg (all_e a).1, trivial⟩
  | .bin _ a b => ⟨se_bin (all_e a).1 (all_e b).1, trivial⟩
  | .cmp _ a b => ⟨se_cmp (all_e a).1 (all_e b).1, (all_e a).1, (all_e b).1⟩
  | .cm2 _ _ a b c => ⟨se_cm2 (all_e a).1 (all_e b).1 (all_e c).1, (all_e a).1, (all_e b).1, (all_e c).1⟩
  | .isN a => ⟨se_isN (all_e a).1, (all_e a).1⟩
  | .noN a => ⟨se_noN (all_e a).1, (all_e a).1⟩
  | .and a b => ⟨se_and (all_e a).1 (all_e b).1, trivial⟩
  | .or a b => ⟨se_or (all_e a).1 (all_e b).1, trivial⟩
  | .not a => ⟨se_not (all_e a).1, trivial⟩
  | .ite c a b => ⟨se_ite (all_b c) (all_e a).1 (all_e b).1, trivial⟩
  | .sub a i => ⟨se_sub (all_e a).1 (all_e i).1, trivial⟩
  | .cut a lo hi => ⟨se_cut (all_e a).1 (all_o lo) (all_o hi), trivial⟩
  | .cut3 a lo hi _ => ⟨se_cut3 (all_e a).1 (all_o lo) (all_o hi), trivial⟩
  | .fld a _ => ⟨se_fld (all_e a).1, trivial⟩
  | .call _ es => ⟨se_call (all_es es), trivial⟩
  | .make _ es => ⟨se_make (all_es es), trivial⟩
  | .met a _ es => ⟨se_met (all_e a).1 (all_es es), trivial⟩
  | .bm _ a es => ⟨se_bm (all_e a).1 (all_es es), trivial⟩
  | .bf _ es => ⟨se_bf (all_es es), trivial⟩
  | .sm _ a e => ⟨se_sm (all_e a).1 (all_e e).1, trivial⟩
  | .isi a _ => ⟨se_isi (all_e a).1, trivial⟩
  | .lzip a b => ⟨se_lzip (all_e a).1 (all_e b).1, trivial⟩
  | .lrg1 a => ⟨se_lrg1 (all_e a).1, trivial⟩
  | .lrg2 a b => ⟨se_lrg2 (all_e a).1 (all_e b).1, trivial⟩
  | .dcall _ => ⟨se_dcall, trivial⟩
  | .sset a => ⟨se_sset (all_e a).1, trivial⟩
  | .dzip a b => ⟨se_dzip (all_e a).1 (all_e b).1, trivial⟩
  | .get2 a k f => ⟨se_get2 (all_e a).1 (all_e k).1 (all_e f).1, trivial⟩
  | .isX a _ _ => ⟨se_isX (all_e a).1, trivial⟩
  | .xfld a _ => ⟨se_xfld (all_e a).1, trivial⟩
  | .lc _ w c e => ⟨se_lc (all_i w) (all_b c) (all_e e).1, all_i w, all_b c, (all_e e).1⟩
  | .bad => ⟨fun _ _ _ _ _ _ _ _ _ _ _ _ _ _ _ _ e => (nomatch e), trivial⟩
theorem all_es : ∀ es : Es, SA T d N es
  | .nil => sa_nil
  | .cons e es => sa_cons (all_e e).1 (all_es es)
theorem all_o : ∀ o : Eo, SO T d N o
  | .no => so_no
  | .so e => so_so (all_e e).1
theorem all_ps : ∀ ps : Ps, SPp T d N ps
  | .nil => sp_nil
  | .cons k v ps => sp_cons (all_e k).1 (all_e v).1 (all_ps ps)
theorem all_b : ∀ b : B, SB T d N b
  | .yes => sb_yes
  | .of e => sb_of (all_e e).1 (all_e e).2
  | .and a b => sb_and (all_b a) (all_b b)
  | .or a b => sb_or (all_b a) (all_b b)
  | .not a => sb_not (all_b a)
theorem all_i : ∀ w : I, SI T d N w
  | .of e => si_of (all_e e).1
  | .rg1 a => si_rg1 (all_e a).1
  | .rg2 a b => si_rg2 (all_e a).1 (all_e b).1
  | .rg3 a b k => si_rg3 (all_e a).1 (all_e b).1 (all_e k).1
  | .enu e => si_enu (all_e e).1
  | .zip a b => si_zip (all_e a).1 (all_e b).1
end
theorem all_ts : ∀ ts : List CL.T, ST T d N ts
  | [] => .nil
  | .one _ :: ts => .one (all_ts ts)
  | .sub a b :: ts => .sub (all_e T d N a).1 (all_e T d N b).1 (all_ts ts)
  | .fld _ _ :: ts => .fld (all_ts ts)
theorem he_ : ∀ e : E, SE T d N e := fun e => (all_e T d N e).1
theorem xp_ {x : XE} : ∀ o y z, x = .cmp o y z → SX SF T d N y ∧ SX SF T d N z := fun _ y z _ => ⟨all_x (he_ T d N) y, all_x (he_ T d N) z⟩
mutual
theorem all_sx : ∀ x : S, SSX T d N x
  | .asg (.one i) e => ssx_of (ss_asg_one (all_e T d N e).1 fun tt w c b h => by
      have p := (all_e T d N e).2
      rw [h] at p
      exact p) (fun c s st k fs st' => by simp only [exec]; exact noex_ne)
  | .asg (.sub a b) e => ssx_of (ss_asg_sub (all_e T d N a).1 (all_e T d N b).1 (all_e T d N e).1) (fun c s st k fs st' => by simp only [exec]; exact noex_ne)
  | .asg (.fld a f) e => ssx_of (ss_asg_fld (all_e T d N a).1 (all_e T d N e).1) (fun c s st k fs st' => by simp only [exec]; exact noex_ne)
  | .asT ts e => ssx_of (ss_asT (all_ts T d N ts) (all_e T d N e).1) (fun c s st k fs st' => by simp only [exec]; exact noex_ne)
  | .par is es => ssx_of (ss_par (all_es T d N es)) (fun c s st k fs st' => by simp only [exec]; exact noex_ne)
  | .aug i o e => ssx_of (ss_aug (all_e T d N e).1) (fun c s st k fs st' => by
      simp only [exec]
      split
      · exact noex_ne
      · exact fun z => nomatch z)
  | .aus a i o e => ssx_of (ss_aus (all_e T d N a).1 (all_e T d N i).1 (all_e T d N e).1) (fun c s st k fs st' => by simp only [exec]; exact noex_ne)
  | .auf a f o e => ssx_of (ss_auf (all_e T d N a).1 (all_e T d N e).1) (fun c s st k fs st' => by simp only [exec]; exact noex_ne)
  | .ex e => ssx_of (ss_ex (all_e T d N e).1) (fun c s st k fs st' => by simp only [exec]; exact noex_ne)
  | .ret e => ssx_of (ss_ret (all_e T d N e).1) (fun c s st k fs st' => by simp only [exec]; exact noex_ne)
  | .rtN => ssx_of ss_rtN (fun c s st k fs st' => by simp only [exec]; exact fun z => nomatch z)
  | .cond c a b => ssx_cond (all_b T d N c) (all_ssx a) (all_ssx b)
  | .whl c b => ssx_whl (all_b T d N c) (all_ssx b)
  | .for t w b => ssx_for (all_i T d N w) (all_ssx b)
  | .pass => ssx_of ss_pass (fun c s st k fs st' => by simp only [exec]; exact fun z => nomatch z)
  | .brk => ssx_of ss_brk (fun c s st k fs st' => by simp only [exec]; exact fun z => nomatch z)
  | .cnt => ssx_of ss_cnt (fun c s st k fs st' => by simp only [exec]; exact fun z => nomatch z)
  | .exX x => ssx_exX (all_x (he_ T d N) x)
  | .asX _ x => ssx_asX (all_x (he_ T d N) x)
  | .retX x => ssx_retX (all_x (he_ T d N) x)
  | .rse _ _ => ssx_rse (he_ T d N)
  | .tryK dst x k n w => ssx_of (ss_tryK (all_x0 (he_ T d N) x)) (fun c s st k' fs st' => by
      simp only [exec]
      split
      · split
        · exact fun z => nomatch z
        · split
          · exact fun z => nomatch z
          · exact fun z => nomatch z
        · exact fun z => nomatch z
      · exact fun z => nomatch z)
  | .condX x a b => ssx_condX (all_x (he_ T d N) x) (all_ssx a) (all_ssx b) (xp_ T d N)
  | .bad => ssx_of (fun _ _ _ _ _ _ _ _ _ _ _ _ _ _ _ _ e => (nomatch e)) (fun c s st k fs st' => by simp only [exec]; exact fun z => nomatch z)
theorem all_ssx : ∀ x : Ss, SSsX T d N x
  | .nil => ssx_nil
  | .cons s ss => ssx_cons (all_sx s) (all_ssx ss)
end
theorem all_s (x : S) : SS T d N x := ss_ofx (all_sx T d N x)
theorem all_ss (x : Ss) : SSs T d N x := sss_ofx (all_ssx T d N x)
end

/-! ### defs -/
/-- a def of the text, as it stands, is the table's f -/
structure DefOk (T : Tab) (K : PySem.W.Frag) (f : Nat) (fd : FDef) : Prop where
  ex : ∃ (x qual : Str) (st : Stmt) (N : List Str), Fun K x qual st (T.fa f) (T.fdt f) ∧ FnScope N (T.psn f) (defScope st) ∧ N.length = fd.nl ∧ chSs T.nm N (defScope st) (fun _ => true) fd.body (defBody st) = true
theorem rs_start {K : PySem.W.Frag} {kt : List (List Val)} {io : Nat → Addr} {n : Nat} {H : Hp} {vs : List Val} {ws : List V} (r : RVs K kt io n H vs ws) (k : Nat) : RS K kt io n H (vs.map some ++ List.replicate k none) (ws.map some ++ List.replicate k none) := by
  refine ⟨by simp [r.length], fun i v e => ?_⟩
  by_cases hi : i < vs.length
  · rw [List.getElem?_append_left (by simpa using hi), List.getElem?_map] at e
    cases q : vs[i]? with
    | none => rw [q] at e; cases e
    | some x =>
      rw [q] at e
      have : x = v := by simpa using e
      subst this
      obtain ⟨w, ew, rw'⟩ := r.get q
      refine ⟨w, ?_, rw'⟩
      rw [List.getElem?_append_left (by rw [List.length_map, ← r.length]; exact hi), List.getElem?_map, ew]; rfl
  · rw [List.getElem?_append_right (by simpa using hi)] at e
    rw [List.getElem?_replicate] at e
    split at e <;> cases e
theorem litX_nx {c : Ctx} {x : S} (hx : litX x = true) {s : Env} {st st' : Store} {fl : Fl} (e : exec c x s st = .ok fl st') : ∃ s', fl = .nx s' := by
  unfold litX at hx
  split at hx
  · simp only [exec, noex_eq_ok] at e
    obtain ⟨vs, st0, e0, e1⟩ := bind_eq_ok.mp e
    split at e1
    · cases e1; exact ⟨_, rfl⟩
    · cases e1
  · simp only [exec, noex_eq_ok] at e
    obtain ⟨v, st0, e0, e1⟩ := bind_eq_ok.mp e
    split at e1
    · obtain ⟨s2, st2, e2, e3⟩ := bind_eq_ok.mp e1
      cases e3; exact ⟨_, rfl⟩
    · cases e1
  · cases hx
theorem lit_ss {T : Tab} {d : Nat} {N : List Str} {x : S} {es2 : Es} (hx : litX x = true) : ∀ (X : Cx) (sc : Scope) (ow : Str → Bool) (ps : List Stmt), AtS T d X N sc ow → chSs T.nm N sc ow (.cons x (.cons (.ret (.tup es2)) .nil)) ps = true →
  ∀ (s : Env) (st : Store) (xs : List Val) (st' : Store) (io : Nat → Addr) (H : Hp) (t : L2.St) (D : Ends), RS X.K T.G.kt io st.n H s t → Rl X.K T.G.kt T.ca io st H → execs (T.cx d) (.cons x (.cons (.ret (.tup es2)) .nil)) s st = .ok (.rt (.tup xs)) st' →
    (∀ (io' : Nat → Addr) (H' : Hp) (a : Addr) (o : Obj) (ys : List V), Up io st.n H io' st'.n H' → Rl X.K T.G.kt T.ca io' st' H' → H' a = some (.frz o (.tup ys)) → o.dict = none → RVs X.K T.G.kt io' st'.n H' xs ys → D.rt (.ref a) H') → xsSem X ps D t H := by
  intro X sc ow ps A hc s st xs st' io H t D rs R e p
  rw [chSs.eq_def] at hc
  simp only at hc
  split at hc
  · rw [Bool.and_eq_true] at hc
    simp only [execs] at e
    obtain ⟨f2, st1, e1, e⟩ := bind_eq_ok.mp e
    intro pins sh I
    refine (pss_cons ps_sem pss_sem).run pins sh t H D I ?_
    refine all_s T d N _ X sc ow _ A hc.1 s st f2 st1 io H t _ rs R e1 ?_
    obtain ⟨s9, rfl⟩ := litX_nx hx e1
    · intro io1 H1 t1 u1 R1 rs1
      have hc2 := hc.2
      rw [chSs.eq_def] at hc2
      simp only at hc2
      split at hc2
      · rw [Bool.and_eq_true] at hc2
        simp only [thenF, exec, ev] at e
        obtain ⟨f3, st3, e3, e⟩ := bind_eq_ok.mp e
        obtain ⟨v3, st4, e4, e3⟩ := bind_eq_ok.mp (noex_eq_ok.mp e3)
        cases e3
        obtain ⟨vs2, st5, e5, e4⟩ := bind_eq_ok.mp e4
        unfold mkT at e4
        split at e4
        · rename_i hf
          cases e4
          cases e
          have hc3 := hc2.1
          simp only [chS] at hc3
          split at hc3
          · simp only [chE] at hc3
            split at hc3
            · intro pins2 sh2 I2
              refine (pss_cons (ps_ret (pe_tupF pa_sem)) pss_sem).run pins2 sh2 t1 H1 D I2 ?_
              refine all_es T d N es2 X sc ow _ A.toAt hc3 _ _ _ _ io1 H1 t1 _ rs1 R1 e5 fun io2 H2 ws u2 R2 r2 => ⟨by rw [← r2.length]; exact fits_le hf, fun a o ha ho => ?_⟩
              obtain ⟨u3, R3⟩ := R2.laidO (.frz o (.tup ws)) ha
              exact p io2 _ a o ws ((u1.trans u2).trans u3) R3 upd_same ho (r2.up u3)
            · cases hc3
          · cases hc3
        · cases e4
      · cases hc2
  · cases hc
theorem litB_ok {b : Ss} (h : litB b = true) : ∃ x es2, litX x = true ∧ b = .cons x (.cons (.ret (.tup es2)) .nil) := by
  unfold litB at h
  split at h
  · exact ⟨_, _, h, rfl⟩
  · cases h
theorem fns_all {T : Tab} {P : Program} {w : World} {K : PySem.W.Frag} {mg : Str → Option Value} {base : Heap} (tp : Top T K mg) (dk : ∀ f fd, T.G.fn f = some fd → DefOk T K f fd) :
    ∀ d, ((∀ f fd, T.G.fn f = some fd → FnOk P w K mg base CX0 d (T.fa f) (T.fdt f) (T.psn f) (spF K T (callN T.G T.fuel d f) (T.psn f).length)) ∧ ∀ f, litF T.G f = true → FnOk P w K mg base CX0 d (T.fa f) (T.fdt f) (T.psn f) (spD K T (callN T.G T.fuel d f))) ∧
      ∀ f fd, T.G.fn f = some fd → FnOk P w K mg base (L2.CX P w) d (T.fa f) (T.fdt f) (T.psn f) (spX K T (callN T.G T.fuel d f) (T.psn f).length) := by
  intro d
  induction d using Nat.strongRecOn with
  | _ d ih =>
    cases d with
    | zero => exact ⟨⟨fun f fd hf => ⟨fun vs H Q E h => h.1, fun A outer s H args us vs Q E _ _ _ _ h => by
        obtain ⟨_, _, _, _, _, _, _, _, e, _⟩ := h
        cases e⟩, fun f hf => ⟨fun vs H Q E h => by
          obtain ⟨fd, h1, _, h2⟩ := litF_ok hf
          rw [h.1, (tp.fn f fd h1).2.1, h2]; rfl, fun A outer s H args us vs Q E _ _ _ _ h => by
        obtain ⟨_, _, _, _, _, _, e, _⟩ := h
        cases e⟩⟩, fun f fd hf => ⟨fun vs H Q E (h : spX K T (callN T.G T.fuel 0 f) (T.psn f).length vs H Q E) => h.1, fun A outer s H args us vs Q E _ _ _ _ h => by
        obtain ⟨_, _, _, _, _, _, o⟩ := h
        exact o.elim⟩⟩
    | succ d =>
      refine ⟨⟨fun f fd hf => ?_, fun f hlit => ?_⟩, fun f fd hf => ?_⟩
      · obtain ⟨x, qual, st, N, F, S, hN, hch⟩ := (dk f fd hf).ex
        refine F.ok S (fun vs H Q E h => h.1) fun cdv A outer s H vs Q E hr h => ?_
        obtain ⟨hlen, io, st0, us, v, st', R, rv, e, p⟩ := h
        rw [callN_succ, hf] at e
        simp only at e
        unfold runF at e
        split at e
        · rename_i hnp
          obtain ⟨fl, st1, e1, e⟩ := bind_eq_ok.mp e
          have hst : L2.start N vs = vs.map some ++ List.replicate (fd.nl - fd.np) none := by
            unfold L2.start
            rw [hN, ← rv.length, hnp]
          refine ⟨_, pss_sem, ?_⟩
          have At' : AtS T d (cxOf CX0 P w K mg base N qual (defScope st) (T.fa f) cdv A outer s H E).nox N (defScope st) (fun _ => true) :=
            { top := tp, fns := fun e he f' fd' hf' => (ih e (Nat.lt_succ_of_le he)).1.1 f' fd' hf', dfs := fun e he f' hf' => (ih e (Nat.lt_succ_of_le he)).1.2 f' hf', fnx := fun e he f' fd' hf' => (ih e (Nat.lt_succ_of_le he)).2 f' fd' hf', hN := rfl, nd := S.nd, hsc := rfl, kind := S.kind, how := fun _ _ => rfl, calm := rfl, room := hr, own := PassesOwn.never, stk := rfl, frm := rfl, ex0 := rfl }
          rw [hst]
          refine all_ss T d N fd.body _ (defScope st) (fun _ => true) (defBody st) At' hch _ st0 fl st1 io H _ _ (rs_start rv _) R e1 ?_
          cases fl with
          | nx s' => cases e; exact fun io1 H1 t1 u1 R1 _ => p io1 H1 .non u1 R1 .non
          | rt v' => cases e; exact fun io1 H1 w1 u1 R1 r1 => p io1 H1 w1 u1 R1 r1
          | bk s' => cases e
          | ct s' => cases e
        · cases e
      · obtain ⟨fd, hf, hlb, hnp0⟩ := litF_ok hlit
        obtain ⟨x, qual, st, N, F, S, hN, hch⟩ := (dk f fd hf).ex
        have hps := (tp.fn f fd hf).2.1
        refine F.ok S (fun vs H Q E h => by rw [h.1, hps, hnp0]; rfl) fun cdv A outer s H vs Q E hr h => ?_
        obtain ⟨rfl, io, st0, xs, st', R, e, p⟩ := h
        rw [callN_succ, hf] at e
        simp only at e
        unfold runF at e
        split at e
        · rename_i hnp
          obtain ⟨fl, st1, e1, e⟩ := bind_eq_ok.mp e
          have hst : L2.start N [] = ([] : List V).map some ++ List.replicate (fd.nl - fd.np) none := by
            unfold L2.start
            rw [hN, hnp0]; rfl
          refine ⟨_, pss_sem, ?_⟩
          have At' : AtS T d (cxOf CX0 P w K mg base N qual (defScope st) (T.fa f) cdv A outer s H E).nox N (defScope st) (fun _ => true) :=
            { top := tp, fns := fun e he f' fd' hf' => (ih e (Nat.lt_succ_of_le he)).1.1 f' fd' hf', dfs := fun e he f' hf' => (ih e (Nat.lt_succ_of_le he)).1.2 f' hf', fnx := fun e he f' fd' hf' => (ih e (Nat.lt_succ_of_le he)).2 f' fd' hf', hN := rfl, nd := S.nd, hsc := rfl, kind := S.kind, how := fun _ _ => rfl, calm := rfl, room := hr, own := PassesOwn.never, stk := rfl, frm := rfl, ex0 := rfl }
          rw [hst]
          obtain ⟨x1, es2, hx1, hbody⟩ := litB_ok hlb
          rw [hbody] at hch e1
          have hfl : fl = .rt (.tup xs) ∧ st1 = st' := by
            cases fl with
            | nx s' => cases e
            | rt v' => cases e; exact ⟨rfl, rfl⟩
            | bk s' => cases e
            | ct s' => cases e
          obtain ⟨rfl, rfl⟩ := hfl
          exact lit_ss hx1 _ (defScope st) (fun _ => true) (defBody st) At' hch _ st0 xs st1 io H _ _ (rs_start .nil _) R e1 fun io1 H1 a o ys u1 R1 h1 h2 r1 => p io1 H1 a o ys u1 R1 h1 h2 r1
        · cases e
      · obtain ⟨x, qual, st, N, F, S, hN, hch⟩ := (dk f fd hf).ex
        refine F.okX S (fun vs H Q E h => h.1) fun cdv A outer s H vs Q E hr h => ?_
        obtain ⟨hlen, io, st0, us, R, rv, o⟩ := h
        rw [callN_succ, hf] at o
        simp only at o
        unfold runF at o
        split at o
        · rename_i hnp
          have hst : L2.start N vs = vs.map some ++ List.replicate (fd.nl - fd.np) none := by
            unfold L2.start
            rw [hN, ← rv.length, hnp]
          refine ⟨_, pss_sem, ?_⟩
          have At' : AtS T d (cxOf (L2.CX P w) P w K mg base N qual (defScope st) (T.fa f) cdv A outer s H E) N (defScope st) (fun _ => true) :=
            { top := tp, fns := fun e he f' fd' hf' => (ih e (Nat.lt_succ_of_le he)).1.1 f' fd' hf', dfs := fun e he f' hf' => (ih e (Nat.lt_succ_of_le he)).1.2 f' hf', fnx := fun e he f' fd' hf' => (ih e (Nat.lt_succ_of_le he)).2 f' fd' hf', hN := rfl, nd := S.nd, hsc := rfl, kind := S.kind, how := fun _ _ => rfl, calm := rfl, room := hr, own := passes_of rfl, stk := rfl, frm := rfl, ex0 := rfl }
          rw [hst]
          refine all_ssx T d N fd.body _ (defScope st) (fun _ => true) (defBody st) At' hch _ st0 io H _ _ E (takes_of rfl rfl rfl rfl) (rs_start rv _) R ?_
          have o : OutV K T.G.kt T.ca io st0 H ((execs (T.cx d) fd.body (us.map some ++ List.replicate (fd.nl - fd.np) none) st0).bind endF) Q E := o
          cases r : execs (T.cx d) fd.body (us.map some ++ List.replicate (fd.nl - fd.np) none) st0 with
          | fail => rw [r] at o; exact o.elim
          | ex k fs st' => rw [r] at o; exact o
          | ok fl st' =>
            rw [r] at o
            cases fl with
            | nx s' => exact fun io1 H1 t1 u1 R1 _ => o io1 H1 .non u1 R1 .non
            | rt v' => exact fun io1 H1 w1 u1 R1 r1 => o io1 H1 w1 u1 R1 r1
            | bk s' => exact o.elim
            | ct s' => exact o.elim
        · exact o.elim
theorem fns_ok {T : Tab} {P : Program} {w : World} {K : PySem.W.Frag} {mg : Str → Option Value} {base : Heap} (tp : Top T K mg) (dk : ∀ f fd, T.G.fn f = some fd → DefOk T K f fd) :
    ∀ d f fd, T.G.fn f = some fd → FnOk P w K mg base CX0 d (T.fa f) (T.fdt f) (T.psn f) (spF K T (callN T.G T.fuel d f) (T.psn f).length) := fun d f fd h => (fns_all tp dk d).1.1 f fd h

/-! ### a law -/
/-- the store at a law's call: the script alone -/
def st0 (ns : List Int) : Store := ⟨1, fun i => if i = 0 then some (.lst (ns.map .int)) else none, fun _ => true⟩
theorem ints_rv {K : PySem.W.Frag} {kt : List (List Val)} {io : Nat → Addr} {n : Nat} {H : Hp} : ∀ ns : List Int, RVs K kt io n H (ns.map .int) (ns.map V.int)
  | [] => .nil
  | x :: r => .cons (.int x) (ints_rv r)
theorem only_sqR {K : PySem.W.Frag} {H : Hp} {a : Addr} {xs : List V} (o : Only H) (h : SqL K H a xs) : SqR K H a xs := by
  rcases h with (h | ⟨q, h⟩) | h
  · rcases o a with z | ⟨q, ys, z⟩
    · rw [h] at z; cases z
    · rw [h] at z; cases z
  · exact .inl ⟨q, h⟩
  · exact .inr h
theorem law_sp {T : Tab} {K : PySem.W.Frag} {H : Hp} {a : Addr} {ns : List Int} {run : List Val → Store → Res Val} {st' : Store} (o : Only H) (h : SqL K H a (ns.map V.int)) (e : run [.ref 0] (st0 ns) = .ok (.bl true) st') :
    spF K T run 1 [.ref a] H (fun v _ => v = .bl true) (fun _ _ _ => False) := by
  refine ⟨rfl, fun _ => a, st0 ns, [.ref 0], .bl true, st', ⟨fun i hi => ?_, fun i hi => ?_, fun i j _ _ hr _ _ => by cases hr⟩, .cons (.ref (show 0 < 1 by omega)) .nil, e, fun io' H' w _ _ r => r.ibl⟩
  · have hi : i < 1 := hi
    have : i = 0 := by omega
    subst this
    exact ⟨.lst (ns.map .int), rfl, .lstR (only_sqR o h) (ints_rv ns)⟩
  · have hi : 1 ≤ i := hi
    exact if_neg (by omega)
end CL
namespace CL
open PySem PySem.Spec PyProof.Rows L2
/-- what a law promises -/
def spL (K : PySem.W.Frag) (n : Nat) : Sp := fun vs H Q _ => ∃ (a : Addr) (ns : List Int), vs = [.ref a] ∧ ns.length ≤ n ∧ Only H ∧ SqL K H a (ns.map V.int) ∧ ∀ H', Q (.bl true) H'
/-- what the top must have left for the table to be the text's -/
structure Laid (G : Prog) (fuel fl : Nat) (x : Str) (K : PySem.W.Frag) (mg : Str → Option Value) (fa : Addr) (T : Tab) : Prop where
  hG : T.G = G
  hf : T.fuel = fuel
  ha : T.fa fl = fa
  hp : T.psn fl = [x]
  top : Top T K mg
  defs : ∀ f fd, T.G.fn f = some fd → DefOk T K f fd
  bind : ∀ (s : Shared) (u : Value), BindsTo s (T.fdt fl) ⟨[u], []⟩ [(x, u)]
theorem law_walk {l : PySem.W.OpenLaw} {n k : Nat} {q : Program} {loose : List Str} {XP : (Str → Option Value) → Heap → Prop} {YP : World → Heap → Prop} {dr : DefRec} {K : Params → PySem.W.Frag} {x : Str} (G : Prog) (fuel fl : Nat) (fd : FDef) (hfd : G.fn fl = some fd)
    (hn : l.most = some n) (hn2 : n ≤ sizeLine) (hdf : dr.params.defaults = []) (hr : Room k callerA) (hY : ∀ (w : World) (h : Heap), YP w h → (K w.params).In h)
    (hrun : ∀ ns : List Int, ns.length ≤ n → ∃ st', callN G fuel k fl [.ref 0] (st0 ns) = .ok (.bl true) st')
    (F : ∀ (w : World) (mg : Str → Option Value) (fa : Addr) (h : Heap), (K w.params).In h → h.Ns mainGlobals mg → mg dr.name = some (.ref fa) → ∃ T : Tab, Laid G fuel fl x (K w.params) mg fa T) :
    PySem.W.WalkO q loose XP YP l.row.toRowW dr [] (fun f vs => PySem.call f vs) := by
  refine walk_of (n := n) (k := k) (x := x) (CX := fun _ => CX0) (sp := fun w => spL (K w.params) n) hn hn2 hdf hr hY (fun w mg fa h kin ns hmg => ?_) (fun w H a ns hl o h => ⟨a, ns, rfl, hl, o, h, fun _ => rfl⟩) fun _ _ _ _ _ z => z
  obtain ⟨T, L⟩ := F w mg fa h kin ns hmg
  refine ⟨T.fdt fl, L.bind, fun base _ _ => ?_⟩
  have hG := L.hG
  have hf := L.hf
  subst hG hf
  have FF := fns_ok (P := l.prog) (w := w) (base := base) L.top L.defs k fl fd hfd
  rw [L.ha, L.hp] at FF
  refine FF.imp fun vs H Q E h => ?_
  obtain ⟨a, ns, rfl, hl, o, hs, hq⟩ := h
  obtain ⟨st', e⟩ := hrun ns hl
  obtain ⟨h1, io, st, us, v, st2, R, rv, e2, p⟩ := law_sp (T := T) o hs e
  exact ⟨h1, io, st, us, v, st2, R, rv, e2, fun io' H' w u R' r => by
    have := p io' H' w u R' r
    rw [this]; exact hq H'⟩
/-- each of a list, by its place -/
def AllI {α : Type} (P : Nat → α → Prop) : Nat → List α → Prop
  | _, [] => True
  | i, x :: r => P i x ∧ AllI P (i + 1) r
theorem allI {α : Type} {P : Nat → α → Prop} : ∀ {l : List α} {k : Nat}, AllI P k l → ∀ (i : Nat) (x : α), l[i]? = some x → P (k + i) x
  | [], _, _, i, x, e => by simp at e
  | a :: r, k, h, 0, x, e => by simp at e; subst e; exact h.1
  | a :: r, k, h, i + 1, x, e => by
    have := allI h.2 i x (by simpa using e)
    rw [show k + (i + 1) = k + 1 + i by omega]; exact this
theorem allI0 {α : Type} {P : Nat → α → Prop} {l : List α} (h : AllI P 0 l) (i : Nat) (x : α) (e : l[i]? = some x) : P i x := by
  have := allI h i x e
  rwa [Nat.zero_add] at this
/-- each method of a table -/
def AllM (P : Nat → Str → Nat → Prop) : List (Nat × Str × Nat) → Prop
  | [] => True
  | x :: r => P x.1 x.2.1 x.2.2 ∧ AllM P r
theorem allM {P : Nat → Str → Nat → Prop} : ∀ {l : List (Nat × Str × Nat)}, AllM P l → ∀ (c : Nat) (m : Str) (f : Nat), (l.find? fun x => decide (x.1 = c) && decide (x.2.1 = m)).map (·.2.2) = some f → P c m f
  | [], _, c, m, f, e => by simp at e
  | x :: r, h, c, m, f, e => by
    rw [List.find?_cons] at e
    split at e
    · rename_i q
      rw [Bool.and_eq_true, decide_eq_true_eq, decide_eq_true_eq] at q
      have e : x.2.2 = f := Option.some.inj e
      rw [← q.1, ← q.2, ← e]; exact h.1
    · exact allM h.2 c m f e
def AllN (m : Str) (P : Nat → Nat → Prop) : List (Nat × Str × Nat) → Prop
  | [] => True
  | x :: r => (x.2.1 = m → P x.1 x.2.2) ∧ AllN m P r
theorem allN {m : Str} {P : Nat → Nat → Prop} : ∀ {l : List (Nat × Str × Nat)}, AllN m P l → ∀ (c : Nat) (f : Nat), (l.find? fun x => decide (x.1 = c) && decide (x.2.1 = m)).map (·.2.2) = some f → P c f
  | [], _, c, f, e => by simp at e
  | x :: r, h, c, f, e => by
    rw [List.find?_cons] at e
    split at e
    · rename_i q
      rw [Bool.and_eq_true, decide_eq_true_eq, decide_eq_true_eq] at q
      have e : x.2.2 = f := Option.some.inj e
      rw [← q.1, ← e]; exact h.1 q.2
    · exact allN h.2 c f e
def AllF (P : Nat → Str → Prop) : List (Nat × Str) → Prop
  | [] => True
  | x :: r => P x.1 x.2 ∧ AllF P r
theorem allF {P : Nat → Str → Prop} : ∀ {l : List (Nat × Str)}, AllF P l → ∀ (c : Nat) (f : Str), l.contains (c, f) = true → P c f
  | [], _, c, f, e => by simp at e
  | x :: r, h, c, f, e => by
    rw [List.contains_cons, Bool.or_eq_true] at e
    rcases e with e | e
    · have e : (c, f) = x := by simpa using e
      rw [← e] at h; exact h.1
    · exact allF h.2 c f e
/-- each error class of a table -/
def AllX (P : Nat → Prop) : List (Nat × Nat) → Prop
  | [] => True
  | x :: r => (x.1 = x.2 → P x.1) ∧ AllX P r
theorem allX {P : Nat → Prop} : ∀ {l : List (Nat × Nat)}, AllX P l → ∀ k, l.contains (k, k) = true → P k
  | [], _, k, e => by simp at e
  | x :: r, h, k, e => by
    rw [List.contains_cons, Bool.or_eq_true] at e
    rcases e with e | e
    · have e : (k, k) = x := by simpa using e
      rw [← e] at h; exact h.1 rfl
    · exact allX h.2 k e
theorem xs_one {l : List (Nat × Nat)} {n m k : Nat} (h : (l.all fun x => decide (n ≤ x.1) && decide (x.1 < n + m)) = true) (e : l.contains (k, k) = true) : n ≤ k ∧ k < n + m := by
  have := List.all_eq_true.mp h (k, k) (by simpa using e)
  simpa using this
/-- each pair of a range -/
def AllQ (P : Nat → Prop) : Nat → Nat → Prop
  | _, 0 => True
  | n, m + 1 => P n ∧ AllQ P (n + 1) m
theorem allQ {P : Nat → Prop} : ∀ {m n : Nat}, AllQ P n m → ∀ k, n ≤ k ∧ k < n + m → P k
  | 0, n, _, k, h => by omega
  | m + 1, n, h, k, hk => by
    by_cases e : k = n
    · subst e; exact h.1
    · exact allQ h.2 k (by omega)
def AllP (P : Nat → Nat → Prop) (n m : Nat) : Prop := AllQ (fun k => AllQ (P k) n m) n m
theorem allP {P : Nat → Nat → Prop} {n m : Nat} (h : AllP P n m) (k k' : Nat) (h1 : n ≤ k ∧ k < n + m) (h2 : n ≤ k' ∧ k' < n + m) : P k k' := allQ (allQ h k h1) k' h2
theorem kitCls_ref {K : PySem.W.Frag} {C : Addr} {t : Value} {b : Bool} (hd : PySem.W.hasDictIn K C = true) (ht : PySem.W.typeIn K (.ref C) = some (.type "type")) (h : PySem.W.subIn K t (.ref C) = some b) : PySem.W.kitCls K t (.ref C) = some b := by
  obtain ⟨cd, hc, _⟩ := PySem.W.any_some hd
  have e2 : ((PySem.W.clsIn K C).isSome && PySem.W.typeIn K (.ref C) == some (.type "type")) = true := by rw [hc, ht] <;> rfl
  show (if ((PySem.W.clsIn K C).isSome && PySem.W.typeIn K (.ref C) == some (.type "type")) = true then PySem.W.subIn K t (.ref C) else none) = some b
  rw [if_pos e2]; exact h
theorem kit_ref {K : PySem.W.Frag} {C D : Addr} {b : Bool} (hd : PySem.W.hasDictIn K C = true) (ht : PySem.W.typeIn K (.ref C) = some (.type "type")) (hs : PySem.W.subIn K (.ref D) (.ref D) = some true) (h : PySem.W.subIn K (.ref D) (.ref C) = some b) : PySem.W.kitOne K (.ref D) (.ref C) = some b := by
  by_cases e : D = C
  · subst e
    have : b = true := Option.some.inj (h.symm.trans hs)
    subst this
    show (if (Value.ref D == Value.ref D) = true then some true else _) = _
    rw [if_pos (beq_self_eq_true _)]
  · have e2 : (Value.ref D == Value.ref C) = false := beq_eq_false_iff_ne.mpr fun z => e (Value.ref.inj z)
    show (if (Value.ref D == Value.ref C) = true then some true else PySem.W.kitCls K (.ref D) (.ref C)) = _
    rw [e2, if_neg (by decide)]
    exact kitCls_ref hd ht h
theorem kit_non {K : PySem.W.Frag} {C : Addr} (hd : PySem.W.hasDictIn K C = true) (ht : PySem.W.typeIn K (.ref C) = some (.type "type")) : PySem.W.kitOne K (.type "NoneType") (.ref C) = some false :=
  kitCls_ref hd ht rfl
theorem kit_ve {K : PySem.W.Frag} {C : Addr} (h : PySem.W.subIn K (.ref C) (.type "ValueError") = some true) : PySem.W.kitOne K (.ref C) (.type "ValueError") = some true := by
  have e : PySem.W.kitMeta "ValueError" = true := by decide +kernel
  show (if PySem.W.kitMeta "ValueError" = true then PySem.W.subIn K (.ref C) (.type "ValueError") else none) = _
  rw [if_pos e]; exact h
theorem binds_nil {K : PySem.W.Frag} {fd : FuncData} {ps : List Str} (h : ∃ ds, Vals [] ds ∧ Binds K fd ps ds) : Binds K fd ps [] := by
  obtain ⟨ds, h1, h2⟩ := h
  cases h1
  exact h2
end CL

/-! CL, part n: rows for reckoning a run -/
namespace CL
theorem cx_call (G : Prog) (fuel d : Nat) : (cxN G fuel d).call = callN G fuel d := rfl
theorem cx_G (G : Prog) (fuel d : Nat) : (cxN G fuel d).G = G := rfl
theorem cx_fuel (G : Prog) (fuel d : Nat) : (cxN G fuel d).fuel = fuel := rfl
theorem cx_init (G : Prog) (fuel d : Nat) : (cxN G fuel (d + 1)).init = callN G fuel d := rfl
theorem then_nx (k : Env → Store → Res Fl) (s : Env) (st : Store) : thenF k (.nx s) st = k s st := rfl
theorem then_rt (k : Env → Store → Res Fl) (v : Val) (st : Store) : thenF k (.rt v) st = .ok (.rt v) st := rfl
theorem then_bk (k : Env → Store → Res Fl) (s : Env) (st : Store) : thenF k (.bk s) st = .ok (.bk s) st := rfl
theorem then_ct (k : Env → Store → Res Fl) (s : Env) (st : Store) : thenF k (.ct s) st = .ok (.ct s) st := rfl
theorem end_nx (s : Env) (st : Store) : endF (.nx s) st = .ok .non st := rfl
theorem end_rt (v : Val) (st : Store) : endF (.rt v) st = .ok v st := rfl
theorem log64 {n : Nat} (h : n < 18446744073709551616) : n.log2 < 9000 := by
  by_cases h0 : n = 0
  · rw [h0]; decide
  · have := (Nat.log2_lt (k := 64) h0).mpr h
    omega
section
variable (st : Store) (i j : Int) (a b : PySem.Str) (xs ys : List Val) (kt : List (List Val))
theorem p_add : bop .add (.int i) (.int j) st = .ok (.int (i + j)) st := rfl
theorem p_sub : bop .sub (.int i) (.int j) st = .ok (.int (i - j)) st := rfl
theorem p_mul (h : mulOk i j = true) : bop .mul (.int i) (.int j) st = .ok (.int (i * j)) st := by simp only [bop, h, if_true]
theorem p_fdiv (h : j ≠ 0 ∧ j.natAbs < 18446744073709551616) : bop .fdiv (.int i) (.int j) st = .ok (.int (i.fdiv j)) st := by simp only [bop]; rw [if_pos ⟨h.1, log64 h.2⟩]
theorem p_mod (h : j ≠ 0) : bop .mod (.int i) (.int j) st = .ok (.int (i.fmod j)) st := by simp only [bop]; rw [if_pos h]
theorem p_adds (h : fits (a.length + b.length) = true) : bop .add (.str a) (.str b) st = .ok (.str (a ++ b)) st := by simp only [bop, h, if_true]
theorem p_addt (h : fits (xs.length + ys.length) = true) : bop .add (.tup xs) (.tup ys) st = .ok (.tup (xs ++ ys)) st := by simp only [bop, h, if_true]
theorem p_eqi : cop kt .eq (.int i) (.int j) st = .ok (.bl (decide (i = j))) st := rfl
theorem p_nei : cop kt .ne (.int i) (.int j) st = .ok (.bl (!decide (i = j))) st := rfl
theorem p_eqs : cop kt .eq (.str a) (.str b) st = .ok (.bl (decide (a = b))) st := rfl
theorem p_nes : cop kt .ne (.str a) (.str b) st = .ok (.bl (!decide (a = b))) st := rfl
theorem p_lt : cop kt .lt (.int i) (.int j) st = .ok (.bl (decide (i < j))) st := rfl
theorem p_le : cop kt .le (.int i) (.int j) st = .ok (.bl (decide (i ≤ j))) st := rfl
theorem p_gt : cop kt .gt (.int i) (.int j) st = .ok (.bl (decide (j < i))) st := rfl
theorem p_ge : cop kt .ge (.int i) (.int j) st = .ok (.bl (decide (j ≤ i))) st := rfl
theorem t_bl (k : Bool) : tru st (.bl k) = some k := rfl
theorem p_eqb (k l : Bool) : cop kt .eq (.bl k) (.bl l) st = .ok (.bl (k == l)) st := rfl
end
/-- a written product -/
theorem mulOk_left {i j : Int} (h : -(2 ^ 64) < i ∧ i < 2 ^ 64) : mulOk i j = true := by
  unfold mulOk
  simp only [Bool.or_eq_true, Bool.and_eq_true, decide_eq_true_eq]
  exact .inl h
theorem mulOk_right {i j : Int} (h : -(2 ^ 64) < j ∧ j < 2 ^ 64) : mulOk i j = true := by
  unfold mulOk
  simp only [Bool.or_eq_true, Bool.and_eq_true, decide_eq_true_eq]
  exact .inr h
/-- a script's cells and its length, as most laws walk them -/
theorem fdiv_pos {i j : Int} (h : 0 < j) : i.fdiv j = i / j := Int.fdiv_eq_ediv_of_nonneg _ (Int.le_of_lt h)
theorem fmod_pos {i j : Int} (h : 0 < j) : i.fmod j = i % j := Int.fmod_eq_emod_of_nonneg _ (Int.le_of_lt h)
/-- a for loop that keeps a word of store and slots: each item brings it on -/
theorem for_keep {w : Watch} {f : Val → Env → Store → Res Fl} (P : Env → Store → Prop) : ∀ (xs : List Val) (s : Env) (st : Store), P s st → (∀ s st, P s st → st.sees w = true) →
    (∀ x ∈ xs, ∀ s st, P s st → ∃ s' st', (f x s st = .ok (.nx s') st' ∨ f x s st = .ok (.ct s') st') ∧ P s' st') → ∃ s' st', forLoop w f xs s st = .ok (.nx s') st' ∧ P s' st'
  | [], s, st, h, hs, _ => ⟨s, st, by unfold forLoop; rw [hs s st h]; rfl, h⟩
  | x :: r, s, st, h, hs, hf => by
    obtain ⟨s1, st1, e, h1⟩ := hf x (by simp) s st h
    obtain ⟨s2, st2, e2, h2⟩ := for_keep P r s1 st1 h1 hs fun y hy => hf y (by simp [hy])
    refine ⟨s2, st2, ?_, h2⟩
    unfold forLoop
    rw [hs s st h, if_pos rfl]
    rcases e with e | e <;> rw [e] <;> exact e2

/-- what stood stays -/
def Keep (st st' : Store) : Prop := st.n ≤ st'.n ∧ ∀ i, i < st.n → st'.m i = st.m i
theorem Keep.refl (st : Store) : Keep st st := ⟨Nat.le_refl _, fun _ _ => rfl⟩
theorem Keep.trans {a b c : Store} (h : Keep a b) (k : Keep b c) : Keep a c := ⟨Nat.le_trans h.1 k.1, fun i hi => (k.2 i (Nat.lt_of_lt_of_le hi h.1)).trans (h.2 i hi)⟩
theorem Keep.new (st : Store) (o : Ob) : Keep st (st.new o) := ⟨Nat.le_succ _, fun i hi => if_neg (Nat.ne_of_lt hi)⟩
theorem enum_mem : ∀ (xs : List Val) (k : Int) (x : Val), x ∈ enumL k xs → ∃ (i : Nat) (y : Val), i < xs.length ∧ y ∈ xs ∧ x = .tup [.int (k + i), y]
  | [], k, x, h => by unfold enumL at h; simp at h
  | y :: r, k, x, h => by
    unfold enumL at h
    rcases List.mem_cons.mp h with rfl | h
    · exact ⟨0, y, by simp, by simp, by simp⟩
    · obtain ⟨i, z, h1, h2, rfl⟩ := enum_mem r (k + 1) x h
      refine ⟨i + 1, z, by simp; omega, by simp [h2], ?_⟩
      congr 3; push_cast; omega
theorem new_old {st : Store} {o : Ob} {i : Nat} (h : i < st.n) : (st.new o).m i = st.m i := if_neg (Nat.ne_of_lt h)
theorem new_at (st : Store) (o : Ob) : (st.new o).m st.n = some o := if_pos rfl
theorem cut63 {xs : List Val} (h : xs.length ≤ 63) : cutL xs none (some 63) = xs := by
  unfold cutL
  have e1 : HT.sIx xs.length 0 none = 0 := rfl
  have e2 : HT.sIx xs.length xs.length (some 63) = xs.length := by
    have := HT.sIx_nat xs.length xs.length 63
    rw [Nat.min_eq_right h] at this
    exact this
  rw [e1, e2]; simp
/-- script[:63] + [len(script)] -/
def stC (ns : List Int) : Store := (((st0 ns).new (.lst (ns.map .int))).new (.lst [.int ns.length])).new (.lst (ns.map .int ++ [.int ns.length]))
def cellE : E := .bin .add (.cut (.v 0) .no (.so (.int 63))) (.lst (.cons (.bf .len (.cons (.v 0) .nil)) .nil))
theorem cells_ev (c : Ctx) (ns : List Int) (h : ns.length ≤ 63) (s : Env) (hs : s[0]? = some (some (.ref 0))) : ev c cellE s (st0 ns) = .ok (.ref 3) (stC ns) := by
  have hm : (st0 ns).m 0 = some (.lst (ns.map .int)) := rfl
  have e1 : cutV (.ref 0) none (some (.int 63)) (st0 ns) = .ok (.ref 1) ((st0 ns).new (.lst (ns.map .int))) := by
    unfold cutV
    simp only [part, hm, mk]
    rw [cut63 (by simpa using h)]; rfl
  unfold cellE
  simp only [ev, evs, evo, hs, bind_ok, e1, bfn]
  have hm2 : ((st0 ns).new (.lst (ns.map .int))).m 0 = some (.lst (ns.map .int)) := rfl
  simp only [hm2, bind_ok, mkL]
  have f1 : fits [Val.int ((ns.map Val.int).length : Int)].length = true := rfl
  simp only [f1, if_true, mk, bind_ok, bop]
  have hm3 : (((st0 ns).new (.lst (ns.map .int))).new (.lst [.int ((ns.map Val.int).length : Int)])).m 1 = some (.lst (ns.map .int)) := rfl
  have hm4 : (((st0 ns).new (.lst (ns.map .int))).new (.lst [.int ((ns.map Val.int).length : Int)])).m ((st0 ns).new (.lst (ns.map .int))).n = some (.lst [.int ((ns.map Val.int).length : Int)]) := rfl
  simp only [hm3, hm4]
  have r1 : ((((st0 ns).new (.lst (ns.map .int))).new (.lst [.int ((ns.map Val.int).length : Int)])).ro 1 || (((st0 ns).new (.lst (ns.map .int))).new (.lst [.int ((ns.map Val.int).length : Int)])).ro ((st0 ns).new (.lst (ns.map .int))).n) = false := rfl
  have f2 : fits ((ns.map Val.int).length + [Val.int ((ns.map Val.int).length : Int)].length) = true := by
    unfold fits
    rw [PySem.sizeLine_eq]
    simp; omega
  simp only [r1, f2, if_true, Bool.false_eq_true, if_false]
  simp only [List.length_map]
  rfl
end CL

/-! CL, part s: runs over a heap that is told thing by thing -/
namespace CL
/-- a kept error -/
def Ob.isX : Ob → Bool
  | .exc _ _ => true
  | _ => false
/-- things told, each with its place -/
abbrev HL := List (Nat × Ob)
/-- a store that holds these: B never changes, H may -/
structure Sep (B : HL) (st : Store) (H : HL) : Prop where
  at' : ∀ a o, (a, o) ∈ H → st.m a = some o
  nd : (H.map (·.1)).Nodup
  lt : ∀ a o, (a, o) ∈ H → a < st.n
  rw' : ∀ a o, (a, o) ∈ H → o.isX = false → st.ro a = false
  fix : ∀ a o, (a, o) ∈ B → st.m a = some o ∧ a < st.n ∧ st.ro a = true
theorem Sep.perm {B : HL} {st : Store} {H K : HL} (p : H.Perm K) (h : Sep B st H) : Sep B st K :=
  ⟨fun a o m => h.at' a o (p.mem_iff.mpr m), (p.map _).nodup_iff.mp h.nd, fun a o m => h.lt a o (p.mem_iff.mpr m), fun a o m => h.rw' a o (p.mem_iff.mpr m), h.fix⟩
theorem Sep.sub {B : HL} {st : Store} {H K : HL} (p : K.Sublist H) (h : Sep B st H) : Sep B st K :=
  ⟨fun a o m => h.at' a o (p.mem m), h.nd.sublist (p.map _), fun a o m => h.lt a o (p.mem m), fun a o m => h.rw' a o (p.mem m), h.fix⟩
/-- a run that ends well: with what value, and what is then told of the heap -/
def WP {α : Type} (B : HL) (m : Store → Res α) (H : HL) (Q : α → HL → Prop) : Prop :=
  ∀ st F, Sep B st (H ++ F) → ∃ a K st', m st = .ok a st' ∧ Q a K ∧ Sep B st' (K ++ F)
/-- H is L and R, in some order -/
def Sub (H L R : HL) : Prop := H.Perm (L ++ R)
theorem sub_here {L R : HL} : Sub (L ++ R) L R := .refl _
theorem sub_one {a : Nat} {o : Ob} {R : HL} : Sub ((a, o) :: R) [(a, o)] R := .refl _
theorem sub_all {L : HL} : Sub L L [] := by unfold Sub; simp
theorem sub_nil {L : HL} : Sub L [] L := .refl _
theorem sub_cons {H L R : HL} {x : Nat × Ob} (h : Sub H L R) : Sub (x :: H) L (x :: R) :=
  (h.cons x).trans List.perm_middle.symm
theorem sub_there {H L R M : HL} (h : Sub H L R) : Sub (M ++ H) L (M ++ R) := by
  unfold Sub at *
  refine (h.append_left M).trans ?_
  rw [← List.append_assoc, ← List.append_assoc]
  exact List.perm_append_comm.append_right R
theorem sub_left {H L R M : HL} (h : Sub H L R) : Sub (H ++ M) L (R ++ M) := by
  unfold Sub at *
  refine (h.append_right M).trans ?_
  rw [List.append_assoc]
theorem sub_app {H L M R X : HL} (h : Sub H L R) (k : Sub R M X) : Sub H (L ++ M) X := by
  unfold Sub at *
  refine h.trans ?_
  rw [List.append_assoc]
  exact k.append_left L
theorem sub_add {H M R X : HL} {x : Nat × Ob} (h : Sub H [x] R) (k : Sub R M X) : Sub H (x :: M) X := sub_app h k
section
variable {α β : Type} {B H K L R X : HL}
theorem wp_perm {m : Store → Res α} {Q : α → HL → Prop} (p : H.Perm K) (h : WP B m K Q) : WP B m H Q := fun st F s => h st F (s.perm (p.append_right F))
/-- what is told at the end, in any order, less perhaps -/
def Conv (Q : α → HL → Prop) (a : α) (H : HL) : Prop := ∃ K X, Sub H K X ∧ Q a K
theorem wp_conv {m : Store → Res α} {Q : α → HL → Prop} (h : WP B m H (Conv Q)) : WP B m H Q := fun st F s => by
  obtain ⟨a, K, st', e, ⟨K2, X, p, q⟩, s'⟩ := h st F s
  refine ⟨a, K2, st', e, q, ?_⟩
  have p2 : (K ++ F).Perm (X ++ (K2 ++ F)) := by
    refine (List.Perm.append_right F p).trans ?_
    rw [List.append_assoc, ← List.append_assoc, ← List.append_assoc]
    refine (List.perm_append_comm).append_right F |>.trans ?_
    exact .refl _
  exact (s'.perm p2).sub (List.sublist_append_right _ _)
theorem conv {Q : α → HL → Prop} {a : α} (h : Sub H K X) (q : Q a K) : Conv Q a H := ⟨K, X, h, q⟩
theorem conv_perm {Q : α → HL → Prop} {a : α} (p : H.Perm K) (q : Q a K) : Conv Q a H := ⟨K, [], by unfold Sub; rw [List.append_nil]; exact p, q⟩
theorem conv0 {Q : α → HL → Prop} {a : α} (q : Q a H) : Conv Q a H := ⟨H, [], sub_all, q⟩
theorem wp_eq {m m' : Store → Res α} {Q : α → HL → Prop} (e : ∀ st, m' st = m st) (h : WP B m H Q) : WP B m' H Q := by
  have : m' = m := funext e
  rw [this]; exact h
theorem wp_mono {m : Store → Res α} {P Q : α → HL → Prop} (h : WP B m H P) (k : ∀ a K, P a K → Q a K) : WP B m H Q := fun st F s => by
  obtain ⟨a, K, st', e, p, s'⟩ := h st F s
  exact ⟨a, K, st', e, k a K p, s'⟩
/-- the rest stays -/
theorem wp_frame {m : Store → Res α} {P Q : α → HL → Prop} (x : Sub H L R) (h : WP B m L P) (k : ∀ a K, P a K → Q a (K ++ R)) : WP B m H Q := fun st F s => by
  have s1 : Sep B st (L ++ (R ++ F)) := by
    rw [← List.append_assoc]
    exact s.perm (List.Perm.append_right F x)
  obtain ⟨a, K, st', e, p, s'⟩ := h st _ s1
  exact ⟨a, K ++ R, st', e, k a K p, by rw [List.append_assoc]; exact s'⟩
theorem wp_ok {Q : α → HL → Prop} {a : α} (q : Q a H) : WP B (fun st => .ok a st) H Q := fun st F s => ⟨a, H, st, rfl, q, s⟩
theorem wp_bind {m : Store → Res α} {k : α → Store → Res β} {Q : β → HL → Prop} (h : WP B m H fun a K => WP B (k a) K Q) : WP B (fun st => (m st).bind k) H Q := fun st F s => by
  obtain ⟨a, K, st', e, p, s'⟩ := h st F s
  obtain ⟨b, K2, st2, e2, q, s2⟩ := p st' F s'
  exact ⟨b, K2, st2, by simp only [e, bind_ok, e2], q, s2⟩
theorem wp_noex {m : Store → Res α} {Q : α → HL → Prop} (h : WP B m H Q) : WP B (fun st => noex (m st)) H Q := fun st F s => by
  obtain ⟨a, K, st', e, p, s'⟩ := h st F s
  exact ⟨a, K, st', by simp only [e, noex_ok], p, s'⟩
theorem wp_of {m : Store → Res α} {a : α} {Q : α → HL → Prop} (e : ∀ st F, Sep B st (H ++ F) → m st = .ok a st) (q : Q a H) : WP B m H Q := fun st F s => ⟨a, H, st, e st F s, q, s⟩
theorem sub_at {st : Store} {F : HL} {a : Nat} {o : Ob} (x : Sub H [(a, o)] R) (s : Sep B st (H ++ F)) : st.m a = some o :=
  s.at' a o (List.mem_append_left _ ((List.Perm.mem_iff x).mpr (by simp)))
theorem sub_rw {st : Store} {F : HL} {a : Nat} {o : Ob} (x : Sub H [(a, o)] R) (s : Sep B st (H ++ F)) (hx : o.isX = false := by rfl) : st.ro a = false :=
  s.rw' a o (List.mem_append_left _ ((List.Perm.mem_iff x).mpr (by simp))) hx
/-- a thing that never changes -/
theorem fix_at {st : Store} {F : HL} {a : Nat} {o : Ob} (x : (a, o) ∈ B) (s : Sep B st F) : st.m a = some o := (s.fix a o x).1
theorem wp_mk {o : Ob} {Q : Val → HL → Prop} (q : ∀ p, Q (.ref p) ((p, o) :: H)) : WP B (mk o) H Q := fun st F s => by
  refine ⟨.ref st.n, (st.n, o) :: H, st.new o, rfl, q _, ⟨fun a o' m => ?_, ?_, fun a o' m => ?_, fun a o' m => ?_, fun a o' m => ?_⟩⟩
  · rcases List.mem_cons.mp m with e | m
    · cases e; exact if_pos rfl
    · have := s.lt a o' m
      exact (if_neg (by omega)).trans (s.at' a o' m)
  · rw [List.cons_append, List.map_cons, List.nodup_cons]
    refine ⟨fun h => ?_, s.nd⟩
    obtain ⟨⟨b, o'⟩, m, e⟩ := List.mem_map.mp h
    have := s.lt b o' m
    simp only at e
    omega
  · rcases List.mem_cons.mp m with e | m
    · cases e; exact Nat.lt_succ_self _
    · exact Nat.lt_succ_of_lt (s.lt a o' m)
  · intro hx
    rcases List.mem_cons.mp m with e | m
    · cases e; exact if_pos rfl
    · have := s.lt a o' m
      exact (if_neg (by omega)).trans (s.rw' a o' m hx)
  · obtain ⟨h1, h2, h3⟩ := s.fix a o' m
    exact ⟨(if_neg (by omega)).trans h1, Nat.lt_succ_of_lt h2, (if_neg (by omega)).trans h3⟩
theorem Sep.put {st : Store} {a : Nat} {o o' : Ob} (s : Sep B st ((a, o) :: H)) (hx : o.isX = false) : Sep B (st.set a o') ((a, o') :: H) := by
  have ha : ∀ b p, (b, p) ∈ H → b ≠ a := fun b p m e => by
    have := s.nd
    rw [List.map_cons, List.nodup_cons] at this
    exact this.1 (List.mem_map.mpr ⟨(b, p), m, e⟩)
  refine ⟨fun b p m => ?_, s.nd, fun b p m => ?_, fun b p m => ?_, fun b p m => ?_⟩
  · rcases List.mem_cons.mp m with e | m
    · cases e; exact if_pos rfl
    · exact (if_neg (ha b p m)).trans (s.at' b p (List.mem_cons_of_mem _ m))
  · rcases List.mem_cons.mp m with e | m
    · cases e; exact s.lt a o (by simp)
    · exact s.lt b p (List.mem_cons_of_mem _ m)
  · rcases List.mem_cons.mp m with e | m
    · cases e; exact fun _ => s.rw' a o (by simp) hx
    · exact s.rw' b p (List.mem_cons_of_mem _ m)
  · obtain ⟨h1, h2, h3⟩ := s.fix b p m
    refine ⟨(if_neg fun e => ?_).trans h1, h2, h3⟩
    have := s.rw' a o (by simp) hx
    rw [e] at h3
    rw [h3] at this; cases this
theorem wp_wr {a : Nat} {o o' : Ob} {Q : Val → HL → Prop} (x : Sub H [(a, o)] R) (q : Q .non ((a, o') :: R)) (hx : o.isX = false := by rfl) : WP B (wr a o') H Q := fun st F s => by
  have h : (H ++ F).Perm ((a, o) :: (R ++ F)) := List.Perm.append_right F x
  refine ⟨.non, (a, o') :: R, st.set a o', ?_, q, (s.perm h).put hx⟩
  unfold wr
  rw [sub_rw x s hx]; rfl
/-- a thing is told anew, in its place -/
inductive Upd : HL → Nat → Ob → Ob → HL → Prop
  | here {a : Nat} {o o' : Ob} {R : HL} : Upd ((a, o) :: R) a o o' ((a, o') :: R)
  | there {H K : HL} {a : Nat} {o o' : Ob} {x : Nat × Ob} (h : Upd H a o o' K) : Upd (x :: H) a o o' (x :: K)
  | left {H K M : HL} {a : Nat} {o o' : Ob} (h : Upd H a o o' K) : Upd (M ++ H) a o o' (M ++ K)
  | right {H K M : HL} {a : Nat} {o o' : Ob} (h : Upd H a o o' K) : Upd (H ++ M) a o o' (K ++ M)
theorem Upd.sub {a : Nat} {o o' : Ob} : ∀ {H K : HL}, Upd H a o o' K → ∃ R, Sub H [(a, o)] R ∧ Sub K [(a, o')] R
  | _, _, .here => ⟨_, sub_one, sub_one⟩
  | _, _, .there h => by
    obtain ⟨R, h1, h2⟩ := h.sub
    exact ⟨_, sub_cons h1, sub_cons h2⟩
  | _, _, .left h => by
    obtain ⟨R, h1, h2⟩ := h.sub
    exact ⟨_, sub_there h1, sub_there h2⟩
  | _, _, .right h => by
    obtain ⟨R, h1, h2⟩ := h.sub
    exact ⟨_, sub_left h1, sub_left h2⟩
theorem wp_reorder {m : Store → Res α} {P Q : α → HL → Prop} (h : WP B m H P) (k : ∀ a K, P a K → ∃ K', K.Perm K' ∧ Q a K') : WP B m H Q := fun st F s => by
  obtain ⟨a, K, st', e, p, s'⟩ := h st F s
  obtain ⟨K', p', q⟩ := k a K p
  exact ⟨a, K', st', e, q, s'.perm (p'.append_right F)⟩
theorem wp_upd {a : Nat} {o o' : Ob} {Q : Val → HL → Prop} (u : Upd H a o o' K) (q : Q .non K) (hx : o.isX = false := by rfl) : WP B (wr a o') H Q := by
  obtain ⟨R, h1, h2⟩ := u.sub
  exact wp_reorder (wp_wr (B := B) (Q := fun v K' => v = .non ∧ K' = (a, o') :: R) h1 ⟨rfl, rfl⟩ hx) fun v K' ⟨e1, e2⟩ => by subst e1 e2; exact ⟨K, List.Perm.symm h2, q⟩
end

/-! ### expressions -/
section
variable {B H : HL} {c : Ctx} {s : Env}
/-- a test's two ways -/
def Br (k : Bool) (P Q : Prop) : Prop := (k = true → P) ∧ (k = false → Q)
theorem br_t {k : Bool} {P Q : Prop} (h : k = true) (p : P) : Br k P Q := ⟨fun _ => p, fun e => (by rw [h] at e; cases e)⟩
theorem br_f {k : Bool} {P Q : Prop} (h : k = false) (q : Q) : Br k P Q := ⟨fun e => (by rw [h] at e; cases e), fun _ => q⟩
theorem br_dec {P : Prop} [Decidable P] {X Y : Prop} (x : P → X) (y : ¬ P → Y) : Br (decide P) X Y := ⟨fun e => x (of_decide_eq_true e), fun e => y (of_decide_eq_false e)⟩
theorem br_ndec {P : Prop} [Decidable P] {X Y : Prop} (x : ¬ P → X) (y : P → Y) : Br (!decide P) X Y := ⟨fun e => x (by simpa using e), fun e => y (by simpa using e)⟩
theorem e_v {i : Nat} {v : Val} {Q : Val → HL → Prop} (h : s[i]? = some (some v)) (q : Q v H) : WP B (ev c (.v i) s) H Q :=
  wp_of (fun st F _ => by simp only [ev, h]) q
theorem e_int {i : Int} {Q : Val → HL → Prop} (q : Q (.int i) H) : WP B (ev c (.int i) s) H Q := wp_of (fun st F _ => by simp only [ev]) q
theorem e_str {i : PySem.Str} {Q : Val → HL → Prop} (q : Q (.str i) H) : WP B (ev c (.str i) s) H Q := wp_of (fun st F _ => by simp only [ev]) q
theorem e_bl {i : Bool} {Q : Val → HL → Prop} (q : Q (.bl i) H) : WP B (ev c (.bl i) s) H Q := wp_of (fun st F _ => by simp only [ev]) q
theorem e_non {Q : Val → HL → Prop} (q : Q .non H) : WP B (ev c .non s) H Q := wp_of (fun st F _ => by simp only [ev]) q
theorem e_gl {g : Nat} {v : Val} {Q : Val → HL → Prop} (h : c.G.gl g = some v) (q : Q v H) : WP B (ev c (.gl g) s) H Q := wp_of (fun st F _ => by simp only [ev, h]) q
theorem e_nil {Q : List Val → HL → Prop} (q : Q [] H) : WP B (evs c .nil s) H Q := wp_of (fun st F _ => by simp only [evs]) q
theorem e_cons {e : E} {es : Es} {Q : List Val → HL → Prop} (h : WP B (ev c e s) H fun v H1 => WP B (evs c es s) H1 fun vs H2 => Q (v :: vs) H2) : WP B (evs c (.cons e es) s) H Q := by
  have := wp_bind (k := fun v st => (evs c es s st).bind fun vs st => .ok (v :: vs) st) (Q := Q) (wp_mono h fun v H1 h1 => wp_bind (wp_mono h1 fun vs H2 h2 => wp_ok h2))
  exact wp_eq (fun st => by rw [evs] <;> rfl) this
theorem e_tup {es : Es} {Q : Val → HL → Prop} (h : WP B (evs c es s) H fun vs H1 => fits vs.length = true ∧ Q (.tup vs) H1) : WP B (ev c (.tup es) s) H Q := by
  have := wp_bind (k := mkT) (Q := Q) (wp_mono h fun vs H1 h1 => wp_of (fun st F _ => by simp only [mkT, h1.1, if_true]) h1.2)
  exact wp_eq (fun st => by rw [ev] <;> rfl) this
theorem e_lst {es : Es} {Q : Val → HL → Prop} (h : WP B (evs c es s) H fun vs H1 => fits vs.length = true ∧ ∀ p, Q (.ref p) ((p, .lst vs) :: H1)) : WP B (ev c (.lst es) s) H Q := by
  have := wp_bind (k := mkL) (Q := Q) (wp_mono h fun vs H1 h1 => by
    have := wp_mk (B := B) (o := .lst vs) h1.2
    intro st F s
    obtain ⟨a, K, st', e, q, s'⟩ := this st F s
    exact ⟨a, K, st', by simp only [mkL, h1.1, if_true, e], q, s'⟩)
  exact wp_eq (fun st => by rw [ev] <;> rfl) this
theorem e_neg {a : E} {Q : Val → HL → Prop} (h : WP B (ev c a s) H fun v H1 => ∃ i, v = .int i ∧ Q (.int (-i)) H1) : WP B (ev c (.neg a) s) H Q := by
  have := wp_bind (k := fun x st => match x with | .int i => .ok (.int (-i)) st | _ => .fail) (Q := Q) (wp_mono h fun v H1 ⟨i, e, q⟩ => by subst e; exact wp_ok q)
  exact wp_eq (fun st => by rw [ev] <;> rfl) this
theorem e_bin {o : Bop} {a b : E} {Q : Val → HL → Prop} (h : WP B (ev c a s) H fun x H1 => WP B (ev c b s) H1 fun y H2 => WP B (bop o x y) H2 Q) : WP B (ev c (.bin o a b) s) H Q := by
  have := wp_bind (k := fun x st => (ev c b s st).bind fun y st => bop o x y st) (Q := Q) (wp_mono h fun x H1 h1 => wp_bind h1)
  exact wp_eq (fun st => by rw [ev] <;> rfl) this
theorem e_cmp {o : Cop} {a b : E} {Q : Val → HL → Prop} (h : WP B (ev c a s) H fun x H1 => WP B (ev c b s) H1 fun y H2 => WP B (cop c.G.kt o x y) H2 Q) : WP B (ev c (.cmp o a b) s) H Q := by
  have := wp_bind (k := fun x st => (ev c b s st).bind fun y st => cop c.G.kt o x y st) (Q := Q) (wp_mono h fun x H1 h1 => wp_bind h1)
  exact wp_eq (fun st => by rw [ev] <;> rfl) this
theorem e_cm2 {o p : Cop} {a b d : E} {Q : Val → HL → Prop} (h : WP B (ev c a s) H fun x H1 => WP B (ev c b s) H1 fun y H2 => WP B (cop c.G.kt o x y) H2 fun z H3 =>
    ∃ k, z = .bl k ∧ Br k (WP B (ev c d s) H3 fun u H4 => WP B (cop c.G.kt p y u) H4 Q) (Q (.bl false) H3)) : WP B (ev c (.cm2 o p a b d) s) H Q := by
  have := wp_bind (k := fun x st => (ev c b s st).bind fun y st => (cop c.G.kt o x y st).bind fun z st => match z with
    | .bl true => (ev c d s st).bind fun u st => cop c.G.kt p y u st
    | .bl false => .ok (.bl false) st
    | _ => .fail) (Q := Q) (wp_mono h fun x H1 h1 => wp_bind (wp_mono h1 fun y H2 h2 => wp_bind (wp_mono h2 fun z H3 ⟨k, e, b⟩ => by
      subst e
      cases k
      · exact wp_ok (b.2 rfl)
      · exact wp_bind (b.1 rfl))))
  exact wp_eq (fun st => by rw [ev] <;> rfl) this
theorem e_isN {a : E} {Q : Val → HL → Prop} (h : WP B (ev c a s) H fun x H1 => Q (.bl (match x with | .non => true | _ => false)) H1) : WP B (ev c (.isN a) s) H Q := by
  have := wp_bind (k := fun x st => .ok (.bl (match x with | .non => true | _ => false)) st) (Q := Q) (wp_mono h fun x H1 h1 => wp_ok h1)
  exact wp_eq (fun st => by rw [ev] <;> rfl) this
theorem e_noN {a : E} {Q : Val → HL → Prop} (h : WP B (ev c a s) H fun x H1 => Q (.bl (match x with | .non => false | _ => true)) H1) : WP B (ev c (.noN a) s) H Q := by
  have := wp_bind (k := fun x st => .ok (.bl (match x with | .non => false | _ => true)) st) (Q := Q) (wp_mono h fun x H1 h1 => wp_ok h1)
  exact wp_eq (fun st => by rw [ev] <;> rfl) this
theorem e_and {a b : E} {Q : Val → HL → Prop} (h : WP B (ev c a s) H fun x H1 => ∃ k, x = .bl k ∧ Br k (WP B (ev c b s) H1 Q) (Q (.bl false) H1)) : WP B (ev c (.and a b) s) H Q := by
  have := wp_bind (k := fun x st => match x with | .bl true => ev c b s st | .bl false => .ok (.bl false) st | .int i => if i = 0 then .ok (.int i) st else ev c b s st | _ => .fail) (Q := Q) (wp_mono h fun x H1 ⟨k, e, h⟩ => by
    subst e
    cases k
    · exact wp_ok (h.2 rfl)
    · exact h.1 rfl)
  exact wp_eq (fun st => by rw [ev] <;> rfl) this
theorem e_or {a b : E} {Q : Val → HL → Prop} (h : WP B (ev c a s) H fun x H1 => ∃ k, x = .bl k ∧ Br k (Q (.bl true) H1) (WP B (ev c b s) H1 Q)) : WP B (ev c (.or a b) s) H Q := by
  have := wp_bind (k := fun x st => match x with | .bl true => .ok (.bl true) st | .bl false => ev c b s st | .int i => if i = 0 then ev c b s st else .ok (.int i) st | _ => .fail) (Q := Q) (wp_mono h fun x H1 ⟨k, e, h⟩ => by
    subst e
    cases k
    · exact h.2 rfl
    · exact wp_ok (h.1 rfl))
  exact wp_eq (fun st => by rw [ev] <;> rfl) this
/-- and, or of numbers, as values -/
theorem e_andI {a b : E} {Q : Val → HL → Prop} (h : WP B (ev c a s) H fun x H1 => ∃ i, x = .int i ∧ if i = 0 then Q (.int i) H1 else WP B (ev c b s) H1 Q) : WP B (ev c (.and a b) s) H Q := by
  have := wp_bind (k := fun x st => match x with | .bl true => ev c b s st | .bl false => .ok (.bl false) st | .int i => if i = 0 then .ok (.int i) st else ev c b s st | _ => .fail) (Q := Q) (wp_mono h fun x H1 ⟨k, e, h⟩ => by
    subst e
    dsimp only
    split at h
    · rename_i h0; simp only [h0, if_true]; rw [h0] at h; exact wp_ok h
    · rename_i h0; simp only [h0, if_false]; exact h)
  exact wp_eq (fun st => by rw [ev] <;> rfl) this
theorem e_orI {a b : E} {Q : Val → HL → Prop} (h : WP B (ev c a s) H fun x H1 => ∃ i, x = .int i ∧ if i = 0 then WP B (ev c b s) H1 Q else Q (.int i) H1) : WP B (ev c (.or a b) s) H Q := by
  have := wp_bind (k := fun x st => match x with | .bl true => .ok (.bl true) st | .bl false => ev c b s st | .int i => if i = 0 then ev c b s st else .ok (.int i) st | _ => .fail) (Q := Q) (wp_mono h fun x H1 ⟨k, e, h⟩ => by
    subst e
    dsimp only
    split at h
    · rename_i h0; simp only [h0, if_true]; exact h
    · rename_i h0; simp only [h0, if_false]; exact wp_ok h)
  exact wp_eq (fun st => by rw [ev] <;> rfl) this
theorem e_not {a : E} {Q : Val → HL → Prop} (h : WP B (ev c a s) H fun x H1 => ∃ k, x = .bl k ∧ Q (.bl (!k)) H1) : WP B (ev c (.not a) s) H Q := by
  have := wp_bind (k := fun x st => match x with | .bl b => .ok (.bl (!b)) st | _ => .fail) (Q := Q) (wp_mono h fun x H1 ⟨k, e, h⟩ => by
    subst e; exact wp_ok h)
  exact wp_eq (fun st => by rw [ev] <;> rfl) this
theorem e_ite {t : CL.B} {a b : E} {Q : Val → HL → Prop} (h : WP B (ts c t s) H fun k H1 => Br k (WP B (ev c a s) H1 Q) (WP B (ev c b s) H1 Q)) : WP B (ev c (.ite t a b) s) H Q := by
  have := wp_bind (k := fun (k : Bool) st => if k then ev c a s st else ev c b s st) (Q := Q) (wp_mono h fun x H1 h => by
    cases x
    · exact h.2 rfl
    · exact h.1 rfl)
  exact wp_eq (fun st => by rw [ev] <;> rfl) this
theorem e_sub {a i : E} {Q : Val → HL → Prop} (h : WP B (ev c a s) H fun x H1 => WP B (ev c i s) H1 fun y H2 => WP B (subV c.G.kt x y) H2 Q) : WP B (ev c (.sub a i) s) H Q := by
  have := wp_bind (k := fun x st => (ev c i s st).bind fun y st => subV c.G.kt x y st) (Q := Q) (wp_mono h fun x H1 h1 => wp_bind h1)
  exact wp_eq (fun st => by rw [ev] <;> rfl) this
theorem e_no {Q : Option Val → HL → Prop} (q : Q none H) : WP B (evo c .no s) H Q := wp_of (fun st F _ => by simp only [evo]) q
theorem e_so {e : E} {Q : Option Val → HL → Prop} (h : WP B (ev c e s) H fun v H1 => Q (some v) H1) : WP B (evo c (.so e) s) H Q := by
  have := wp_bind (k := fun v st => .ok (some v) st) (Q := Q) (wp_mono h fun x H1 h1 => wp_ok h1)
  exact wp_eq (fun st => by rw [evo] <;> rfl) this
theorem e_cut {a : E} {lo hi : Eo} {Q : Val → HL → Prop} (h : WP B (ev c a s) H fun x H1 => WP B (evo c lo s) H1 fun l H2 => WP B (evo c hi s) H2 fun u H3 => WP B (cutV x l u) H3 Q) : WP B (ev c (.cut a lo hi) s) H Q := by
  have := wp_bind (k := fun x st => (evo c lo s st).bind fun l st => (evo c hi s st).bind fun h st => cutV x l h st) (Q := Q) (wp_mono h fun x H1 h1 => wp_bind (wp_mono h1 fun l H2 h2 => wp_bind h2))
  exact wp_eq (fun st => by rw [ev] <;> rfl) this
theorem e_cut3 {a : E} {lo hi : Eo} {k : Int} {Q : Val → HL → Prop} (h : WP B (ev c a s) H fun x H1 => WP B (evo c lo s) H1 fun l H2 => WP B (evo c hi s) H2 fun u H3 => WP B (cut3V k x l u) H3 Q) : WP B (ev c (.cut3 a lo hi k) s) H Q := by
  have := wp_bind (k := fun x st => (evo c lo s st).bind fun l st => (evo c hi s st).bind fun h st => cut3V k x l h st) (Q := Q) (wp_mono h fun x H1 h1 => wp_bind (wp_mono h1 fun l H2 h2 => wp_bind h2))
  exact wp_eq (fun st => by rw [ev] <;> rfl) this
theorem e_fld {a : E} {f : PySem.Str} {Q : Val → HL → Prop} (h : WP B (ev c a s) H fun x H1 => WP B (getF c.G.fl x f) H1 Q) : WP B (ev c (.fld a f) s) H Q := by
  have := wp_bind (k := fun x st => getF c.G.fl x f st) (Q := Q) h
  exact wp_eq (fun st => by rw [ev] <;> rfl) this
theorem e_dcall {f : Nat} {Q : Val → HL → Prop} (hl : litF c.G f = true) (h : WP B (c.call f []) H fun v H1 => WP B (dictT v) H1 Q) : WP B (ev c (.dcall f) s) H Q := by
  have := wp_bind (k := dictT) (Q := Q) h
  intro st F sp
  obtain ⟨v, K, st', e, q, s'⟩ := this st F sp
  exact ⟨v, K, st', by simp only [ev, hl, if_true]; exact e, q, s'⟩
theorem e_sset {a : E} {Q : Val → HL → Prop} (h : WP B (ev c a s) H fun v H1 => WP B (ssetV v) H1 Q) : WP B (ev c (.sset a) s) H Q := by
  have := wp_bind (k := ssetV) (Q := Q) h
  intro st F sp
  obtain ⟨v, K, st', e, q, s'⟩ := this st F sp
  exact ⟨v, K, st', by simp only [ev]; exact e, q, s'⟩
theorem e_get2 {a k f : E} {Q : Val → HL → Prop} (h : WP B (ev c a s) H fun x H1 => ∃ i kvs R, x = .ref i ∧ Sub H1 [(i, .dK kvs)] R ∧ WP B (ev c k s) H1 fun y H2 => WP B (ev c f s) H2 fun z H3 => ∃ kvs R k, Sub H3 [(i, .dK kvs)] R ∧ key1 y = some k ∧ Q ((look kvs k).getD z) H3) : WP B (ev c (.get2 a k f) s) H Q := by
  have := wp_bind (k := fun x st => match x with
    | .ref i => match st.m i with
      | some (.dK _) => (ev c k s st).bind fun y st => (ev c f s st).bind fun z st => match dget c.G.kt (st.m i) y with
        | some o => .ok (o.getD z) st
        | none => .fail
      | _ => .fail
    | _ => .fail) (Q := Q) (wp_mono h fun x H1 ⟨i, kvs, R, e, u, h⟩ => by
      subst e
      intro st F sp
      have := wp_bind (k := fun y st => (ev c f s st).bind fun z st => match dget c.G.kt (st.m i) y with
        | some o => .ok (o.getD z) st
        | none => .fail) (Q := Q) (wp_mono h fun y H2 h2 => wp_bind (wp_mono h2 fun z H3 ⟨kvs, R, k, u3, ek, q⟩ => wp_of (fun st F s => by simp only [sub_at u3 s, dget, ek]) q))
      obtain ⟨a, K, st', e, q, s'⟩ := this st F sp
      exact ⟨a, K, st', by simp only [sub_at u sp, e], q, s'⟩)
  exact wp_eq (fun st => by rw [ev] <;> rfl) this
theorem e_dzip {a b : E} {Q : Val → HL → Prop} (h : WP B (ev c a s) H fun x H1 => WP B (ev c b s) H1 fun y H2 => ∃ i j xs ys R R' kvs, x = .ref i ∧ y = .ref j ∧ Sub H2 [(i, .lst xs)] R ∧ Sub H2 [(j, .lst ys)] R' ∧ zipK xs ys = some kvs ∧ ∀ p, Q (.ref p) ((p, .dK (merge [] kvs)) :: H2)) : WP B (ev c (.dzip a b) s) H Q := by
  have := wp_bind (k := fun x st => (ev c b s st).bind fun y st => match x, y with
    | .ref i, .ref j => match st.m i, st.m j with
      | some (.lst xs), some (.lst ys) => match zipK xs ys with
        | some kvs => mk (.dK (merge [] kvs)) st
        | none => .fail
      | _, _ => .fail
    | _, _ => .fail) (Q := Q) (wp_mono h fun x H1 h1 => wp_bind (wp_mono h1 fun y H2 ⟨i, j, xs, ys, R, R', kvs, e1, e2, u1, u2, ek, q⟩ => by
      subst e1 e2
      intro st F sp
      obtain ⟨v, K, st', e, q, s'⟩ := wp_mk (B := B) q st F sp
      exact ⟨v, K, st', by simp only [sub_at u1 sp, sub_at u2 sp, ek]; exact e, q, s'⟩))
  exact wp_eq (fun st => by rw [ev] <;> rfl) this
theorem e_call {f : Nat} {es : Es} {Q : Val → HL → Prop} (h : WP B (evs c es s) H fun vs H1 => WP B (c.call f vs) H1 Q) : WP B (ev c (.call f es) s) H Q := by
  have := wp_bind (k := fun vs st => c.call f vs st) (Q := Q) h
  exact wp_eq (fun st => by rw [ev] <;> rfl) this
theorem e_bf {b : Bf} {es : Es} {Q : Val → HL → Prop} (h : WP B (evs c es s) H fun vs H1 => WP B (bfn b vs) H1 Q) : WP B (ev c (.bf b es) s) H Q := by
  have := wp_bind (k := fun vs st => bfn b vs st) (Q := Q) h
  exact wp_eq (fun st => by rw [ev] <;> rfl) this
theorem e_bm {b : Bm} {a : E} {es : Es} {Q : Val → HL → Prop} (h : WP B (ev c a s) H fun x H1 => ∃ i xs R, x = .ref i ∧ Sub H1 [(i, .lst xs)] R ∧ WP B (evs c es s) H1 fun vs H2 => WP B (bmt b (.ref i) vs) H2 Q) : WP B (ev c (.bm b a es) s) H Q := by
  have := wp_bind (k := fun x st => match x with
    | .ref i => match st.m i with
      | some (.lst _) => (evs c es s st).bind fun vs st => bmt b x vs st
      | _ => .fail
    | _ => .fail) (Q := Q) (wp_mono h fun x H1 ⟨i, xs, R, e, u, h⟩ => by
      subst e
      intro st F sp
      obtain ⟨a, K, st', e, q, s'⟩ := wp_bind h st F sp
      exact ⟨a, K, st', by simp only [sub_at u sp, e], q, s'⟩)
  exact wp_eq (fun st => by rw [ev] <;> rfl) this
theorem e_met {a : E} {m : PySem.Str} {es : Es} {Q : Val → HL → Prop} (h : WP B (ev c a s) H fun x H1 => ∃ i k fs R f, x = .ref i ∧ Sub H1 [(i, .ins k fs)] R ∧ fs.lookup m = none ∧ c.G.mt k m = some f ∧ WP B (evs c es s) H1 fun vs H2 => WP B (c.call f (.ref i :: vs)) H2 Q) :
    WP B (ev c (.met a m es) s) H Q := by
  have := wp_bind (k := fun x st => match x with
    | .ref i => match st.m i with
      | some (.ins k fs) => if fs.lookup m = none then match c.G.mt k m with
        | some f => (evs c es s st).bind fun vs st => c.call f (.ref i :: vs) st
        | none => .fail else .fail
      | _ => .fail
    | _ => .fail) (Q := Q) (wp_mono h fun x H1 ⟨i, k, fs, R, f, e, u, e2, e3, h⟩ => by
      subst e
      intro st F sp
      obtain ⟨a, K, st', e, q, s'⟩ := wp_bind h st F sp
      exact ⟨a, K, st', by simp only [sub_at u sp, e2, if_true, e3, e], q, s'⟩)
  exact wp_eq (fun st => by rw [ev] <;> rfl) this
theorem wp_new {α : Type} {o : Ob} {k : Nat → Store → Res α} {Q : α → HL → Prop} (h : ∀ p, WP B (k p) ((p, o) :: H) Q) : WP B (fun st => k st.n (st.new o)) H Q := fun st F s => by
  obtain ⟨a, K, st', e, q, s'⟩ := wp_mk (B := B) (H := H) (o := o) (Q := fun v K => ∃ p, v = .ref p ∧ K = (p, o) :: H) (fun p => ⟨p, rfl, rfl⟩) st F s
  obtain ⟨p, rfl, rfl⟩ := q
  cases e
  obtain ⟨a, K, st', e, q, s'⟩ := h st.n _ F s'
  exact ⟨a, K, st', e, q, s'⟩
theorem e_make {k : Nat} {es : Es} {Q : Val → HL → Prop} (h : WP B (evs c es s) H fun vs H1 => ∃ f, c.G.ini k = some f ∧ ∀ p, WP B (c.init f (.ref p :: vs)) ((p, .ins k []) :: H1) fun v H2 => v = .non ∧ Q (.ref p) H2) : WP B (ev c (.make k es) s) H Q := by
  have := wp_bind (k := fun vs st => match c.G.ini k with
    | some f => (c.init f (.ref st.n :: vs) (st.new (.ins k []))).bind fun v st' => match v with
      | .non => .ok (.ref st.n) st'
      | _ => .fail
    | none => .fail) (Q := Q) (wp_mono h fun vs H1 ⟨f, e, h⟩ => by
      simp only [e]
      exact wp_new (k := fun p st => (c.init f (.ref p :: vs) st).bind fun v st' => match v with
        | Val.non => .ok (Val.ref p) st'
        | _ => .fail) fun p => wp_bind (wp_mono (h p) fun v H2 ⟨e, q⟩ => by subst e; exact wp_ok q))
  exact wp_eq (fun st => by rw [ev] <;> rfl) this
theorem e_isi {a : E} {t : Ty} {Q : Val → HL → Prop} (h : WP B (ev c a s) H fun x H1 => WP B (fun st => okB (isT st x t) st) H1 Q) : WP B (ev c (.isi a t) s) H Q := by
  have := wp_bind (k := fun x st => okB (isT st x t) st) (Q := Q) h
  exact wp_eq (fun st => by rw [ev] <;> rfl) this
/-- what a value's items are, as told -/
def Its (B H : HL) (v : Val) (xs : List Val) : Prop := ∀ st F, Sep B st (H ++ F) → itemsOf v st = some xs
theorem its_tup {xs : List Val} : Its B H (.tup xs) xs := fun _ _ _ => rfl
theorem its_lst {R : HL} {a : Nat} {xs : List Val} (u : Sub H [(a, .lst xs)] R) : Its B H (.ref a) xs := fun st F s => by simp only [itemsOf, Store.lst, sub_at u s]
theorem e_lzip {a b : E} {Q : Val → HL → Prop} (h : WP B (ev c a s) H fun x H1 => WP B (ev c b s) H1 fun y H2 => ∃ xs ys, Its B H2 x xs ∧ Its B H2 y ys ∧ ∀ p, Q (.ref p) ((p, .lst (zipL xs ys)) :: H2)) : WP B (ev c (.lzip a b) s) H Q := by
  have := wp_bind (k := fun x st => (ev c b s st).bind fun y st => match itemsOf x st, itemsOf y st with
    | some xs, some ys => mk (.lst (zipL xs ys)) st
    | _, _ => .fail) (Q := Q) (wp_mono h fun x H1 h1 => wp_bind (wp_mono h1 fun y H2 ⟨xs, ys, e1, e2, q⟩ => by
      intro st F sp
      obtain ⟨a, K, st', e, q, s'⟩ := wp_mk (B := B) (o := .lst (zipL xs ys)) q st F sp
      exact ⟨a, K, st', by simp only [e1 st F sp, e2 st F sp, e], q, s'⟩))
  exact wp_eq (fun st => by rw [ev] <;> rfl) this
theorem e_lrg1 {a : E} {Q : Val → HL → Prop} (h : WP B (ev c a s) H fun x H1 => ∃ j, x = .int j ∧ small24 0 j = true ∧ ∀ p, Q (.ref p) ((p, .lst (rangeL 0 j.toNat)) :: H1)) : WP B (ev c (.lrg1 a) s) H Q := by
  have := wp_bind (k := fun x st => match x with
    | .int j => if small24 0 j then mk (.lst (rangeL 0 j.toNat)) st else .fail
    | _ => .fail) (Q := Q) (wp_mono h fun x H1 ⟨j, e, h, q⟩ => by
      subst e
      simp only [h, if_true]
      exact wp_mk q)
  exact wp_eq (fun st => by rw [ev] <;> rfl) this
theorem e_lrg2 {a b : E} {Q : Val → HL → Prop} (h : WP B (ev c a s) H fun x H1 => WP B (ev c b s) H1 fun y H2 => ∃ i j, x = .int i ∧ y = .int j ∧ small24 i j = true ∧ ∀ p, Q (.ref p) ((p, .lst (rangeL i (j - i).toNat)) :: H2)) : WP B (ev c (.lrg2 a b) s) H Q := by
  have := wp_bind (k := fun x st => (ev c b s st).bind fun y st => match x, y with
    | .int i, .int j => if small24 i j then mk (.lst (rangeL i (j - i).toNat)) st else .fail
    | _, _ => .fail) (Q := Q) (wp_mono h fun x H1 h1 => wp_bind (wp_mono h1 fun y H2 ⟨i, j, e, e2, h, q⟩ => by
      subst e e2
      simp only [h, if_true]
      exact wp_mk q))
  exact wp_eq (fun st => by rw [ev] <;> rfl) this
/-! tests -/
theorem b_yes {Q : Bool → HL → Prop} (q : Q true H) : WP B (ts c .yes s) H Q := wp_of (fun st F _ => by simp only [ts]) q
theorem b_and {a b : CL.B} {Q : Bool → HL → Prop} (h : WP B (ts c a s) H fun k H1 => Br k (WP B (ts c b s) H1 Q) (Q false H1)) : WP B (ts c (.and a b) s) H Q := by
  have := wp_bind (k := fun (k : Bool) st => if k then ts c b s st else .ok false st) (Q := Q) (wp_mono h fun k H1 h => by
    cases k
    · exact wp_ok (h.2 rfl)
    · exact h.1 rfl)
  exact wp_eq (fun st => by rw [ts] <;> rfl) this
theorem b_or {a b : CL.B} {Q : Bool → HL → Prop} (h : WP B (ts c a s) H fun k H1 => Br k (Q true H1) (WP B (ts c b s) H1 Q)) : WP B (ts c (.or a b) s) H Q := by
  have := wp_bind (k := fun (k : Bool) st => if k then .ok true st else ts c b s st) (Q := Q) (wp_mono h fun k H1 h => by
    cases k
    · exact h.2 rfl
    · exact wp_ok (h.1 rfl))
  exact wp_eq (fun st => by rw [ts] <;> rfl) this
theorem b_not {a : CL.B} {Q : Bool → HL → Prop} (h : WP B (ts c a s) H fun k H1 => Q (!k) H1) : WP B (ts c (.not a) s) H Q := by
  have := wp_bind (k := fun (k : Bool) st => .ok (!k) st) (Q := Q) (wp_mono h fun k H1 h => wp_ok h)
  exact wp_eq (fun st => by rw [ts] <;> rfl) this
theorem b_of {e : E} {Q : Bool → HL → Prop} (h : WP B (ev c e s) H fun v H1 => WP B (fun st => okO (tru st v) st) H1 Q) : WP B (ts c (.of e) s) H Q := by
  have := wp_bind (k := fun v st => okO (tru st v) st) (Q := Q) h
  exact wp_eq (fun st => by rw [ts] <;> rfl) this
theorem t_bool {k : Bool} {Q : Bool → HL → Prop} (q : Q k H) : WP B (fun st => okO (tru st (.bl k)) st) H Q := wp_ok q
theorem t_int {i : Int} {Q : Bool → HL → Prop} (q : Q (!decide (i = 0)) H) : WP B (fun st => okO (tru st (.int i)) st) H Q := by
  have : (i != 0) = !decide (i = 0) := by
    by_cases h : i = 0 <;> simp [h]
  exact wp_of (fun st F _ => by simp only [tru, okO, this]) q
/-! what is walked over -/
end
def WQ (B : HL) (m : Store → Res (List Val × Watch)) (H : HL) (Q : List Val → Watch → HL → Prop) : Prop := WP B m H fun p K => Q p.1 p.2 K
section
variable {B H : HL} {c : Ctx} {s : Env}
theorem e_lc {t : Tg} {w : I} {k : CL.B} {e : E} {Q : Val → HL → Prop} (h : WQ B (evw c w s) H fun xs wt H1 => ∀ D, WP B (lcLoop D wt (onLc t (fun s st => ts c k s st) (fun s st => ev c e s st) s) xs) ((D, .lst []) :: H1) Q) : WP B (ev c (.lc t w k e) s) H Q := by
  have := wp_bind (k := fun (p : List Val × Watch) st => lcLoop st.n p.2 (onLc t (fun s st => ts c k s st) (fun s st => ev c e s st) s) p.1 (st.new (.lst []))) (Q := Q) (wp_mono h fun p H1 h => wp_new (k := fun n st => lcLoop n p.2 (onLc t (fun s st => ts c k s st) (fun s st => ev c e s st) s) p.1 st) h)
  exact wp_eq (fun st => by rw [ev] <;> rfl) this
theorem i_of {e : E} {Q : List Val → Watch → HL → Prop} (h : WP B (ev c e s) H fun v H1 => WQ B (walkOf v) H1 Q) : WQ B (evw c (.of e) s) H Q := by
  have := wp_bind (k := fun v st => walkOf v st) (Q := fun p K => Q p.1 p.2 K) h
  exact wp_eq (fun st => by rw [evw] <;> rfl) this
theorem i_tup {xs : List Val} {Q : List Val → Watch → HL → Prop} (q : Q xs [] H) : WQ B (walkOf (.tup xs)) H Q := wp_ok (a := (xs, [])) q
theorem i_lst {i : Nat} {xs : List Val} {R : HL} {Q : List Val → Watch → HL → Prop} (x : Sub H [(i, .lst xs)] R) (q : Q xs [(i, xs)] H) : WQ B (walkOf (.ref i)) H Q :=
  wp_of (a := (xs, [(i, xs)])) (fun st F sp => by simp only [walkOf, sub_at x sp]) q
theorem i_rg1 {a : E} {Q : List Val → Watch → HL → Prop} (h : WP B (ev c a s) H fun x H1 => ∃ j, x = .int j ∧ small62 j = true ∧ Q (rangeL 0 j.toNat) [] H1) : WQ B (evw c (.rg1 a) s) H Q := by
  have := wp_bind (k := fun x st => match x with
    | .int j => if small62 j then .ok (rangeL 0 j.toNat, []) st else .fail
    | _ => .fail) (Q := fun p K => Q p.1 p.2 K) (wp_mono h fun x H1 ⟨j, e, h, q⟩ => by
      subst e
      simp only [h, if_true]
      exact wp_ok (a := (_, _)) q)
  exact wp_eq (fun st => by rw [evw] <;> rfl) this
theorem i_rg2 {a b : E} {Q : List Val → Watch → HL → Prop} (h : WP B (ev c a s) H fun x H1 => WP B (ev c b s) H1 fun y H2 => ∃ i j, x = .int i ∧ y = .int j ∧ (small62 i && small62 j) = true ∧ Q (rangeL i (j - i).toNat) [] H2) : WQ B (evw c (.rg2 a b) s) H Q := by
  have := wp_bind (k := fun x st => (ev c b s st).bind fun y st => match x, y with
    | .int i, .int j => if small62 i && small62 j then .ok (rangeL i (j - i).toNat, []) st else .fail
    | _, _ => .fail) (Q := fun p K => Q p.1 p.2 K) (wp_mono h fun x H1 h1 => wp_bind (wp_mono h1 fun y H2 ⟨i, j, e, e2, h, q⟩ => by
      subst e e2
      simp only [h, if_true]
      exact wp_ok (a := (_, _)) q))
  exact wp_eq (fun st => by rw [evw] <;> rfl) this
theorem i_rg3 {a b k : E} {Q : List Val → Watch → HL → Prop} (h : WP B (ev c a s) H fun x H1 => WP B (ev c b s) H1 fun y H2 => WP B (ev c k s) H2 fun z H3 => ∃ i j m n, x = .int i ∧ y = .int j ∧ z = .int m ∧ rgC i j m n = true ∧ Q (rangeC i m n) [] H3) : WQ B (evw c (.rg3 a b k) s) H Q := by
  have := wp_bind (k := fun x st => (ev c b s st).bind fun y st => (ev c k s st).bind fun z st => match x, y, z with
    | .int i, .int j, .int k => if rgC i j k (PySem.Builtin.Range.rangeSize i j k).toNat then .ok (rangeC i k (PySem.Builtin.Range.rangeSize i j k).toNat, []) st else .fail
    | _, _, _ => .fail) (Q := fun p K => Q p.1 p.2 K) (wp_mono h fun x H1 h1 => wp_bind (wp_mono h1 fun y H2 h2 => wp_bind (wp_mono h2 fun z H3 ⟨i, j, m, n, e, e2, e3, h, q⟩ => by
      subst e e2 e3
      have hn : (PySem.Builtin.Range.rangeSize i j m).toNat = n := by
        unfold rgC at h
        simp only [Bool.and_eq_true, decide_eq_true_eq] at h
        rw [h.2]; rfl
      simp only [hn, h, if_true]
      exact wp_ok (a := (_, _)) q)))
  exact wp_eq (fun st => by rw [evw] <;> rfl) this
theorem enu_at {x : Val} {xs : List Val} {st : Store} (e : itemsOf x st = some xs) : (match x with
    | .tup xs => (.ok (enumL 0 xs, []) st : Res (List Val × Watch))
    | .ref i => match st.m i with
      | some (.lst xs) => .ok (enumL 0 xs, [(i, xs)]) st
      | _ => .fail
    | _ => .fail) = .ok (enumL 0 xs, wOf x xs) st := by
  cases x with
  | tup ys => cases e; rfl
  | ref i =>
    have e : st.lst i = some xs := e
    unfold Store.lst at e
    simp only
    split at e
    · rename_i ys em; cases e; first | rfl | (rw [em]; rfl)
    · cases e
  | _ => cases e
theorem i_enu {a : E} {Q : List Val → Watch → HL → Prop} (h : WP B (ev c a s) H fun x H1 => ∃ xs, Its B H1 x xs ∧ Q (enumL 0 xs) (wOf x xs) H1) : WQ B (evw c (.enu a) s) H Q := by
  have := wp_bind (k := fun v st => match v with
    | .tup xs => .ok (enumL 0 xs, []) st
    | .ref i => match st.m i with
      | some (.lst xs) => .ok (enumL 0 xs, [(i, xs)]) st
      | _ => .fail
    | _ => .fail) (Q := fun p K => Q p.1 p.2 K) (wp_mono h fun x H1 ⟨xs, hi, q⟩ => wp_of (a := (_, _)) (fun st F sp => enu_at (hi st F sp)) q)
  exact wp_eq (fun st => by rw [evw] <;> rfl) this
theorem i_zip {a b : E} {Q : List Val → Watch → HL → Prop} (h : WP B (ev c a s) H fun x H1 => WP B (ev c b s) H1 fun y H2 => ∃ xs ys, Its B H2 x xs ∧ Its B H2 y ys ∧ Q (zipL xs ys) (wOf x xs ++ wOf y ys) H2) : WQ B (evw c (.zip a b) s) H Q := by
  have := wp_bind (k := fun x st => (ev c b s st).bind fun y st => match itemsOf x st, itemsOf y st with
    | some xs, some ys => .ok (zipL xs ys, wOf x xs ++ wOf y ys) st
    | _, _ => .fail) (Q := fun p K => Q p.1 p.2 K) (wp_mono h fun x H1 h1 => wp_bind (wp_mono h1 fun y H2 ⟨xs, ys, e1, e2, q⟩ => wp_of (a := (_, _)) (fun st F sp => by simp only [e1 st F sp, e2 st F sp]) q))
  exact wp_eq (fun st => by rw [evw] <;> rfl) this
end
end CL

/-! CL, part t: what operators, built-ins and statements do over a told heap -/
namespace CL
theorem fits_small {n : Nat} (h : n ≤ 1000000) : fits n = true := by
  unfold fits
  rw [PySem.sizeLine_eq]
  exact decide_eq_true (by omega)
theorem small62_of {i : Int} (h : -1000000000000 ≤ i ∧ i ≤ 1000000000000) : small62 i = true := by
  unfold small62
  rw [Bool.and_eq_true]
  exact ⟨decide_eq_true (by omega), decide_eq_true (by omega)⟩
theorem small24_of {i j : Int} (h : -1000000000000 ≤ i ∧ i ≤ 1000000000000) (h2 : -1000000000000 ≤ j ∧ j ≤ 1000000000000) (h3 : (j - i).toNat ≤ 1000000) : small24 i j = true := by
  unfold small24
  rw [small62_of h, small62_of h2]
  exact decide_eq_true (by omega)
section
variable {B H R : HL} {kt : List (List Val)}
/-! ### operators -/
theorem p_add' {i j : Int} {Q : Val → HL → Prop} (q : Q (.int (i + j)) H) : WP B (bop .add (.int i) (.int j)) H Q := wp_ok q
theorem p_sub' {i j : Int} {Q : Val → HL → Prop} (q : Q (.int (i - j)) H) : WP B (bop .sub (.int i) (.int j)) H Q := wp_ok q
theorem p_mul' {i j : Int} {Q : Val → HL → Prop} (h : mulOk i j = true) (q : Q (.int (i * j)) H) : WP B (bop .mul (.int i) (.int j)) H Q := wp_of (fun st F _ => p_mul st i j h) q
theorem p_fdiv' {i j : Int} {Q : Val → HL → Prop} (h : j ≠ 0 ∧ j.natAbs < 18446744073709551616) (q : Q (.int (i.fdiv j)) H) : WP B (bop .fdiv (.int i) (.int j)) H Q := wp_of (fun st F _ => p_fdiv st i j h) q
theorem p_mod' {i j : Int} {Q : Val → HL → Prop} (h : j ≠ 0) (q : Q (.int (i.fmod j)) H) : WP B (bop .mod (.int i) (.int j)) H Q := wp_of (fun st F _ => p_mod st i j h) q
theorem p_pow' {i j : Int} {Q : Val → HL → Prop} (h : 0 ≤ j ∧ j ≤ 1000000 ∧ i.natAbs < 2 ^ 64) (q : Q (.int (i ^ j.toNat)) H) : WP B (bop .pow (.int i) (.int j)) H Q := wp_of (fun st F _ => by simp only [bop]; rw [if_pos h]) q
theorem p_addt' {xs ys : List Val} {Q : Val → HL → Prop} (h : fits (xs.length + ys.length) = true) (q : Q (.tup (xs ++ ys)) H) : WP B (bop .add (.tup xs) (.tup ys)) H Q := wp_of (fun st F _ => p_addt st xs ys h) q
theorem p_adds' {a b : PySem.Str} {Q : Val → HL → Prop} (h : fits (a.length + b.length) = true) (q : Q (.str (a ++ b)) H) : WP B (bop .add (.str a) (.str b)) H Q := wp_of (fun st F _ => p_adds st a b h) q
theorem p_addl' {a b : Nat} {xs ys : List Val} {R' : HL} {Q : Val → HL → Prop} (x : Sub H [(a, .lst xs)] R) (y : Sub H [(b, .lst ys)] R') (h : fits (xs.length + ys.length) = true) (q : ∀ p, Q (.ref p) ((p, .lst (xs ++ ys)) :: H)) : WP B (bop .add (.ref a) (.ref b)) H Q := fun st F s => by
  obtain ⟨v, K, st', e, q, s'⟩ := wp_mk (B := B) (o := .lst (xs ++ ys)) q st F s
  refine ⟨v, K, st', ?_, q, s'⟩
  simp only [bop, sub_at x s, sub_at y s, sub_rw x s, sub_rw y s, Bool.or_self, Bool.false_eq_true, if_false, h, if_true, e]
theorem p_mull' {a : Nat} {k : Int} {xs : List Val} {Q : Val → HL → Prop} (x : Sub H [(a, .lst xs)] R) (h : repOk xs k = true) (q : ∀ p, Q (.ref p) ((p, .lst (rep xs k)) :: H)) : WP B (bop .mul (.ref a) (.int k)) H Q := fun st F s => by
  obtain ⟨v, K, st', e, q, s'⟩ := wp_mk (B := B) (o := .lst (rep xs k)) q st F s
  refine ⟨v, K, st', ?_, q, s'⟩
  simp only [bop, sub_at x s, sub_rw x s, Bool.not_false, Bool.true_and, h, if_true, e]
theorem p_mult' {k : Int} {xs : List Val} {Q : Val → HL → Prop} (h : xs ≠ [] ∧ 0 ≤ k ∧ k ≤ 1000 ∧ xs.length ≤ 1000) (q : Q (.tup (rep xs k)) H) : WP B (bop .mul (.tup xs) (.int k)) H Q := wp_of (fun st F _ => by
  simp only [bop]
  by_cases h1 : k = 1
  · subst h1
    rw [if_pos rfl]
    simp [rep]
  · rw [if_neg h1]
    by_cases h0 : k = 0
    · subst h0
      rw [if_pos (And.intro rfl h.1)]
      simp [rep]
    · rw [if_neg (fun z => h0 z.1), if_pos ⟨h.1, by omega, h.2.2.1, h.2.2.2⟩]) q
theorem c_eqi {i j : Int} {Q : Val → HL → Prop} (q : Q (.bl (decide (i = j))) H) : WP B (cop kt .eq (.int i) (.int j)) H Q := wp_ok q
theorem c_nei {i j : Int} {Q : Val → HL → Prop} (q : Q (.bl (!decide (i = j))) H) : WP B (cop kt .ne (.int i) (.int j)) H Q := wp_ok q
theorem c_eqs {i j : PySem.Str} {Q : Val → HL → Prop} (q : Q (.bl (decide (i = j))) H) : WP B (cop kt .eq (.str i) (.str j)) H Q := wp_ok q
theorem c_nes {i j : PySem.Str} {Q : Val → HL → Prop} (q : Q (.bl (!decide (i = j))) H) : WP B (cop kt .ne (.str i) (.str j)) H Q := wp_ok q
theorem c_eqb {i j : Bool} {Q : Val → HL → Prop} (q : Q (.bl (i == j)) H) : WP B (cop kt .eq (.bl i) (.bl j)) H Q := wp_ok q
theorem c_neb {i j : Bool} {Q : Val → HL → Prop} (q : Q (.bl (!(i == j))) H) : WP B (cop kt .ne (.bl i) (.bl j)) H Q := wp_ok q
theorem c_lt {i j : Int} {Q : Val → HL → Prop} (q : Q (.bl (decide (i < j))) H) : WP B (cop kt .lt (.int i) (.int j)) H Q := wp_ok q
theorem c_ltB {i j : Bool} {Q : Val → HL → Prop} (q : Q (.bl (!i && j)) H) : WP B (cop kt .lt (.bl i) (.bl j)) H Q := wp_ok q
theorem c_le {i j : Int} {Q : Val → HL → Prop} (q : Q (.bl (decide (i ≤ j))) H) : WP B (cop kt .le (.int i) (.int j)) H Q := wp_ok q
theorem c_gt {i j : Int} {Q : Val → HL → Prop} (q : Q (.bl (decide (j < i))) H) : WP B (cop kt .gt (.int i) (.int j)) H Q := wp_ok q
theorem c_ge {i j : Int} {Q : Val → HL → Prop} (q : Q (.bl (decide (j ≤ i))) H) : WP B (cop kt .ge (.int i) (.int j)) H Q := wp_ok q
/-- == by data -/
theorem allO_len {α : Type} : ∀ {xs : List (Option α)} {ys : List α}, allO xs = some ys → ys.length = xs.length
  | [], _, e => by cases e; rfl
  | some x :: r, ys, e => by
    unfold allO at e
    split at e
    · rename_i zs e1; cases e; rw [List.length_cons, List.length_cons, allO_len e1]
    · cases e
  | none :: _, _, e => by cases e
theorem eqvAll_len : ∀ {xs ys : List PySem.PyData}, xs.length ≠ ys.length → PySem.PyData.eqvAll xs ys = false
  | [], [], h => absurd rfl h
  | [], _ :: _, _ => by simp [PySem.PyData.eqvAll]
  | _ :: _, [], _ => by simp [PySem.PyData.eqvAll]
  | x :: r, y :: t, h => by
    rw [PySem.PyData.eqvAll, eqvAll_len (xs := r) (ys := t) (by simpa using h)]; simp
theorem c_eqd {x y : Val} {k : Bool} {Q : Val → HL → Prop} (h : ∀ st F, Sep B st (H ++ F) → eqV st x y = some k) (q : Q (.bl k) H) : WP B (cop kt .eq x y) H Q := wp_of (fun st F s => by simp only [cop, h st F s, okB]) q
theorem c_eqlen {a b : Nat} {xs ys : List Val} {R2 : HL} {Q : Val → HL → Prop} (u1 : Sub H [(a, .lst xs)] R) (u2 : Sub H [(b, .lst ys)] R2) (hn : xs.length ≠ ys.length) (q : Q (.bl false) H) : WP B (cop kt .eq (.ref a) (.ref b)) H Q := wp_of (fun st F s => by
  simp only [cop]
  split
  · rename_i k e
    have e : eqV st (.ref a) (.ref b) = some k := e
    unfold eqV at e
    simp only [eq0] at e
    split at e
    · rename_i d1 d2 e1 e2
      split at e
      · cases e
        have f1 : dat st deep (.ref a) = (allO (xs.map (dat st 69))).map PySem.PyData.list := by
          show (match st.m a with | some (.lst xs) => (allO (xs.map (dat st 69))).map PySem.PyData.list | _ => none) = _
          rw [sub_at u1 s]
        have f2 : dat st deep (.ref b) = (allO (ys.map (dat st 69))).map PySem.PyData.list := by
          show (match st.m b with | some (.lst xs) => (allO (xs.map (dat st 69))).map PySem.PyData.list | _ => none) = _
          rw [sub_at u2 s]
        rw [f1] at e1
        rw [f2] at e2
        obtain ⟨l1, g1, rfl⟩ := Option.map_eq_some_iff.mp e1
        obtain ⟨l2, g2, rfl⟩ := Option.map_eq_some_iff.mp e2
        have k1 := allO_len g1
        have k2 := allO_len g2
        rw [List.length_map] at k1 k2
        congr 2
        rw [PySem.PyData.eqv]
        exact eqvAll_len (by omega)
      · cases e
    · cases e
  · have : lenNe st (.ref a) (.ref b) = true := by
      unfold lenNe
      simp only [sub_at u1 s, sub_at u2 s]
      exact decide_eq_true hn
    rw [if_pos this]) q
theorem c_nelen {a b : Nat} {xs ys : List Val} {R2 : HL} {Q : Val → HL → Prop} (u1 : Sub H [(a, .lst xs)] R) (u2 : Sub H [(b, .lst ys)] R2) (hn : xs.length ≠ ys.length) (q : Q (.bl true) H) : WP B (cop kt .ne (.ref a) (.ref b)) H Q := wp_of (fun st F s => by
  simp only [cop]
  split
  · rename_i k e
    have e : eqV st (.ref a) (.ref b) = some k := e
    have hk : k = false := by
      have := (c_eqlen (B := B) (kt := kt) u1 u2 hn (Q := fun v _ => v = .bl false) rfl) st F s
      obtain ⟨v, K, st', e2, rfl, _⟩ := this
      simp only [cop, e] at e2
      cases e2; rfl
    rw [hk]; rfl
  · have : lenNe st (.ref a) (.ref b) = true := by
      unfold lenNe
      simp only [sub_at u1 s, sub_at u2 s]
      exact decide_eq_true hn
    rw [if_pos this]) q
theorem c_ned {x y : Val} {k : Bool} {Q : Val → HL → Prop} (h : ∀ st F, Sep B st (H ++ F) → eqV st x y = some k) (q : Q (.bl (!k)) H) : WP B (cop kt .ne x y) H Q := wp_of (fun st F s => by simp only [cop, h st F s, okB, notO]) q
theorem c_int {x : Val} {ys : List Val} {k : Bool} {Q : Val → HL → Prop} (h : inFlat x ys = some k) (q : Q (.bl k) H) : WP B (cop kt .has x (.tup ys)) H Q := wp_of (fun st F s => by simp only [cop, inV, h, okB]) q
theorem c_nint {x : Val} {ys : List Val} {k : Bool} {Q : Val → HL → Prop} (h : inFlat x ys = some k) (q : Q (.bl (!k)) H) : WP B (cop kt .hasnt x (.tup ys)) H Q := wp_of (fun st F s => by simp only [cop, inV, h, okB, notO]) q
theorem c_inl {x : Val} {a : Nat} {ys : List Val} {k : Bool} {Q : Val → HL → Prop} (u : Sub H [(a, .lst ys)] R) (h : inFlat x ys = some k) (q : Q (.bl k) H) : WP B (cop kt .has x (.ref a)) H Q := wp_of (fun st F s => by simp only [cop, inV, sub_at u s, h, okB]) q
theorem c_ninl {x : Val} {a : Nat} {ys : List Val} {k : Bool} {Q : Val → HL → Prop} (u : Sub H [(a, .lst ys)] R) (h : inFlat x ys = some k) (q : Q (.bl (!k)) H) : WP B (cop kt .hasnt x (.ref a)) H Q := wp_of (fun st F s => by simp only [cop, inV, sub_at u s, h, okB, notO]) q
theorem c_ind {x : Val} {a : Nat} {kvs : List (L2.Key × Val)} {k : L2.Key} {Q : Val → HL → Prop} (u : Sub H [(a, .dK kvs)] R) (h : key1 x = some k) (q : Q (.bl (look kvs k).isSome) H) : WP B (cop kt .has x (.ref a)) H Q := wp_of (fun st F s => by simp only [cop, inV, sub_at u s, dget, h, Option.map, okB]) q
theorem c_nind {x : Val} {a : Nat} {kvs : List (L2.Key × Val)} {k : L2.Key} {Q : Val → HL → Prop} (u : Sub H [(a, .dK kvs)] R) (h : key1 x = some k) (q : Q (.bl (!(look kvs k).isSome)) H) : WP B (cop kt .hasnt x (.ref a)) H Q := wp_of (fun st F s => by simp only [cop, inV, sub_at u s, dget, h, Option.map, okB, notO]) q
/-! ### items, slices, fields -/
theorem x_tup {xs : List Val} {i : Int} {v : Val} {Q : Val → HL → Prop} (h : L2.atI xs i = some v) (q : Q v H) : WP B (subV kt (.tup xs) (.int i)) H Q := wp_of (fun st F s => by simp only [subV, h]) q
theorem x_lst {a : Nat} {xs : List Val} {i : Int} {v : Val} {Q : Val → HL → Prop} (u : Sub H [(a, .lst xs)] R) (h : L2.atI xs i = some v) (q : Q v H) : WP B (subV kt (.ref a) (.int i)) H Q := wp_of (fun st F s => by simp only [subV, sub_at u s, h]) q
theorem x_dK {a : Nat} {kvs : List (L2.Key × Val)} {y v : Val} {k : L2.Key} {Q : Val → HL → Prop} (u : Sub H [(a, .dK kvs)] R) (hk : key1 y = some k) (h : look kvs k = some v) (q : Q v H) : WP B (subV kt (.ref a) y) H Q := wp_of (fun st F s => by simp only [subV, sub_at u s, dget, hk, h]) q
theorem x_cutt {xs : List Val} {l h : Option Val} {l' h' : Option Int} {Q : Val → HL → Prop} (e1 : part l = some l') (e2 : part h = some h') (q : Q (.tup (cutL xs l' h')) H) : WP B (cutV (.tup xs) l h) H Q := wp_of (fun st F s => by simp only [cutV, e1, e2]) q
theorem x_cutl {a : Nat} {xs : List Val} {l h : Option Val} {l' h' : Option Int} {Q : Val → HL → Prop} (u : Sub H [(a, .lst xs)] R) (e1 : part l = some l') (e2 : part h = some h') (q : ∀ p, Q (.ref p) ((p, .lst (cutL xs l' h')) :: H)) : WP B (cutV (.ref a) l h) H Q := fun st F s => by
  obtain ⟨v, K, st', e, q, s'⟩ := wp_mk (B := B) q st F s
  exact ⟨v, K, st', by simp only [cutV, e1, e2, sub_at u s, e], q, s'⟩
theorem x_fld {fl : Nat → PySem.Str → Bool} {a k : Nat} {fs : List (PySem.Str × Val)} {f : PySem.Str} {v : Val} {Q : Val → HL → Prop} (u : Sub H [(a, .ins k fs)] R) (h1 : fl k f = true) (h : fs.lookup f = some v) (q : Q v H) : WP B (getF fl (.ref a) f) H Q := wp_of (fun st F s => by simp only [getF, sub_at u s, h1, if_true, h]) q
theorem y_lst {a : Nat} {xs : List Val} {i : Int} {j : Nat} {v : Val} {K : HL} {Q : Val → HL → Prop} (u : Upd H a (.lst xs) (.lst (xs.set j v)) K) (h : L2.ixN xs.length i = some j) (q : Q .non K) : WP B (putV kt (.ref a) (.int i) v) H Q := fun st F s => by
  obtain ⟨R0, u0, _⟩ := u.sub
  obtain ⟨v, K, st', e, q, s'⟩ := wp_upd (B := B) u q rfl st F s
  exact ⟨v, K, st', by simp only [putV, sub_at u0 s, h, e], q, s'⟩
theorem y_dK {a : Nat} {kvs : List (L2.Key × Val)} {y v : Val} {k : L2.Key} {K : HL} {Q : Val → HL → Prop} (u : Upd H a (.dK kvs) (.dK (put kvs k v)) K) (hk : key1 y = some k) (h : kvs.length < 1000000) (q : Q .non K) : WP B (putV kt (.ref a) y v) H Q := fun st F s => by
  obtain ⟨R0, u0, _⟩ := u.sub
  obtain ⟨v, K, st', e, q, s'⟩ := wp_upd (B := B) u q rfl st F s
  have hs : kvs.length < PySem.sizeLine := by rw [PySem.sizeLine_eq]; omega
  exact ⟨v, K, st', by simp only [putV, sub_at u0 s, hk, hs, if_true, e], q, s'⟩
theorem y_fld {fl : Nat → PySem.Str → Bool} {a k : Nat} {fs : List (PySem.Str × Val)} {f : PySem.Str} {v : Val} {K : HL} {Q : Val → HL → Prop} (u : Upd H a (.ins k fs) (.ins k (setF f v fs)) K) (h1 : fl k f = true) (h : fs.length < 1000) (q : Q .non K) : WP B (putF fl (.ref a) f v) H Q := fun st F s => by
  obtain ⟨R0, u0, _⟩ := u.sub
  obtain ⟨v, K, st', e, q, s'⟩ := wp_upd (B := B) u q rfl st F s
  exact ⟨v, K, st', by simp only [putF, sub_at u0 s]; rw [if_pos ⟨h1, h⟩]; exact e, q, s'⟩
theorem d_get {a : Nat} {kvs : List (L2.Key × Val)} {y v : Val} {k : L2.Key} {Q : Val → HL → Prop} (u : Sub H [(a, .dK kvs)] R) (hk : key1 y = some k) (h : look kvs k = some v) (q : Q v H) : WP B (getD kt (.ref a) y) H Q := wp_of (fun st F s => by simp only [getD, sub_at u s, dget, hk, h]) q
theorem d_put {a : Nat} {kvs : List (L2.Key × Val)} {y v : Val} {k : L2.Key} {K : HL} {Q : Val → HL → Prop} (u : Upd H a (.dK kvs) (.dK (put kvs k v)) K) (hk : key1 y = some k) (h : kvs.length < 1000000) (q : Q .non K) : WP B (putD kt (.ref a) y v) H Q := fun st F s => by
  obtain ⟨R0, u0, _⟩ := u.sub
  obtain ⟨v, K, st', e, q, s'⟩ := wp_upd (B := B) u q rfl st F s
  have hs : kvs.length < PySem.sizeLine := by rw [PySem.sizeLine_eq]; omega
  exact ⟨v, K, st', by simp only [putD, sub_at u0 s, hk, hs, if_true, e], q, s'⟩
/-! ### built-in functions -/
theorem f_lent {xs : List Val} {Q : Val → HL → Prop} (q : Q (.int xs.length) H) : WP B (bfn .len [.tup xs]) H Q := wp_ok q
theorem f_lenl {a : Nat} {xs : List Val} {Q : Val → HL → Prop} (u : Sub H [(a, .lst xs)] R) (q : Q (.int xs.length) H) : WP B (bfn .len [.ref a]) H Q := wp_of (fun st F s => by simp only [bfn, sub_at u s]) q
theorem f_lend {a : Nat} {xs : List (L2.Key × Val)} {Q : Val → HL → Prop} (u : Sub H [(a, .dK xs)] R) (q : Q (.int xs.length) H) : WP B (bfn .len [.ref a]) H Q := wp_of (fun st F s => by simp only [bfn, sub_at u s, sub_rw u s, Bool.false_eq_true, if_false]) q
theorem f_abs {i : Int} {Q : Val → HL → Prop} (q : Q (.int (if i < 0 then -i else i)) H) : WP B (bfn .abs [.int i]) H Q := wp_ok q
theorem f_listt {xs : List Val} {Q : Val → HL → Prop} (q : ∀ p, Q (.ref p) ((p, .lst xs) :: H)) : WP B (bfn .list [.tup xs]) H Q := wp_mk q
theorem f_listl {a : Nat} {xs : List Val} {Q : Val → HL → Prop} (u : Sub H [(a, .lst xs)] R) (q : ∀ p, Q (.ref p) ((p, .lst xs) :: H)) : WP B (bfn .list [.ref a]) H Q := fun st F s => by
  obtain ⟨v, K, st', e, q, s'⟩ := wp_mk (B := B) q st F s
  exact ⟨v, K, st', by simp only [bfn, sub_at u s, e], q, s'⟩
theorem f_tupt {xs : List Val} {Q : Val → HL → Prop} (q : Q (.tup xs) H) : WP B (bfn .tuple [.tup xs]) H Q := wp_ok q
theorem f_tupl {a : Nat} {xs : List Val} {Q : Val → HL → Prop} (u : Sub H [(a, .lst xs)] R) (q : Q (.tup xs) H) : WP B (bfn .tuple [.ref a]) H Q := wp_of (fun st F s => by simp only [bfn, sub_at u s]) q
theorem f_inti {i : Int} {Q : Val → HL → Prop} (q : Q (.int i) H) : WP B (bfn .int [.int i]) H Q := wp_ok q
theorem f_intb {k : Bool} {Q : Val → HL → Prop} (q : Q (.int (if k then 1 else 0)) H) : WP B (bfn .int [.bl k]) H Q := wp_ok q
theorem f_any {a : Nat} {xs : List Val} {bs : List Bool} {Q : Val → HL → Prop} (u : Sub H [(a, .lst xs)] R) (h : bools xs = some bs) (q : Q (.bl (bs.any id)) H) : WP B (bfn .any [.ref a]) H Q := wp_of (fun st F s => by simp only [bfn, sub_at u s, h]) q
theorem x_cut3 {a : Nat} {xs : List Val} {l h : Option Val} {l' h' : Option Int} {k : Int} {Q : Val → HL → Prop} (u : Sub H [(a, .lst xs)] R) (e1 : part l = some l') (e2 : part h = some h') (hk : k ≠ 0) (hf : fits (pickL xs l' h' k).length = true) (q : ∀ p, Q (.ref p) ((p, .lst (pickL xs l' h' k)) :: H)) : WP B (cut3V k (.ref a) l h) H Q := fun st F s => by
  obtain ⟨v, K, st', e, q, s'⟩ := wp_mk (B := B) q st F s
  exact ⟨v, K, st', by simp only [cut3V, e1, e2, sub_at u s]; rw [if_pos ⟨hk, hf⟩]; exact e, q, s'⟩
theorem f_str {i : Int} {Q : Val → HL → Prop} (h : i.natAbs.log2 < 1920) (q : Q (.str (toString i)) H) : WP B (bfn .str [.int i]) H Q := wp_of (fun st F s => by simp only [bfn]; rw [if_pos h]) q
theorem f_sorted {a : Nat} {xs : List Val} {is : List Int} {Q : Val → HL → Prop} (u : Sub H [(a, .lst xs)] R) (h : intsO xs = some is) (q : ∀ p, Q (.ref p) ((p, .lst ((is.mergeSort (fun i j => decide (i ≤ j))).map .int)) :: H)) : WP B (bfn .sorted [.ref a]) H Q := fun st F s => by
  obtain ⟨v, K, st', e, q, s'⟩ := wp_mk (B := B) q st F s
  exact ⟨v, K, st', by simp only [bfn, sub_at u s, h]; exact e, q, s'⟩
theorem f_sortedD {a : Nat} {kvs : List (L2.Key × Val)} {ks : List Int} {Q : Val → HL → Prop} (u : Sub H [(a, .dK kvs)] R) (h : keysI kvs = some ks) (hl : ks.length < 64) (q : ∀ p, Q (.ref p) ((p, .lst ((ks.mergeSort (fun i j => decide (i ≤ j))).map .int)) :: H)) : WP B (bfn .sorted [.ref a]) H Q := fun st F s => by
  obtain ⟨v, K, st', e, q, s'⟩ := wp_mk (B := B) q st F s
  exact ⟨v, K, st', by simp only [bfn, sub_at u s, h]; rw [if_pos hl]; exact e, q, s'⟩
theorem x_dictT {xs : List Val} {kvs : List (L2.Key × Val)} {Q : Val → HL → Prop} (h : pairsO xs = some kvs) (q : ∀ p, Q (.ref p) ((p, .dK (merge [] kvs)) :: H)) : WP B (dictT (.tup xs)) H Q := fun st F s => by
  obtain ⟨v, K, st', e, q, s'⟩ := wp_mk (B := B) q st F s
  exact ⟨v, K, st', by simp only [dictT, h]; exact e, q, s'⟩
theorem x_sset {xs : List Val} {is : List Int} {Q : Val → HL → Prop} (h : intsO xs = some is) (hl : is.length < 60) (q : ∀ p, Q (.ref p) ((p, .lst (((uniqI is).mergeSort (fun i j => decide (i ≤ j))).map .int)) :: H)) : WP B (ssetV (.tup xs)) H Q := fun st F s => by
  obtain ⟨v, K, st', e, q, s'⟩ := wp_mk (B := B) q st F s
  exact ⟨v, K, st', by simp only [ssetV, h]; rw [if_pos hl]; exact e, q, s'⟩
theorem f_dict {a : Nat} {xs : List Val} {kvs : List (L2.Key × Val)} {Q : Val → HL → Prop} (u : Sub H [(a, .lst xs)] R) (h : pairsO xs = some kvs) (q : ∀ p, Q (.ref p) ((p, .dK (merge [] kvs)) :: H)) : WP B (bfn .dict [.ref a]) H Q := fun st F s => by
  obtain ⟨v, K, st', e, q, s'⟩ := wp_mk (B := B) q st F s
  exact ⟨v, K, st', by simp only [bfn, sub_at u s, h]; exact e, q, s'⟩
theorem f_dictD {a : Nat} {kvs : List (L2.Key × Val)} {Q : Val → HL → Prop} (u : Sub H [(a, .dK kvs)] R) (q : ∀ p, Q (.ref p) ((p, .dK kvs) :: H)) : WP B (bfn .dict [.ref a]) H Q := fun st F s => by
  obtain ⟨v, K, st', e, q, s'⟩ := wp_mk (B := B) q st F s
  exact ⟨v, K, st', by simp only [bfn, sub_at u s]; exact e, q, s'⟩
theorem f_all {a : Nat} {xs : List Val} {bs : List Bool} {Q : Val → HL → Prop} (u : Sub H [(a, .lst xs)] R) (h : bools xs = some bs) (q : Q (.bl (bs.all id)) H) : WP B (bfn .all [.ref a]) H Q := wp_of (fun st F s => by simp only [bfn, sub_at u s, h]) q
theorem f_min {i j : Int} {Q : Val → HL → Prop} (q : Q (.int (if j < i then j else i)) H) : WP B (bfn .min2 [.int i, .int j]) H Q := wp_ok q
theorem f_max {i j : Int} {Q : Val → HL → Prop} (q : Q (.int (if j > i then j else i)) H) : WP B (bfn .max2 [.int i, .int j]) H Q := wp_ok q
theorem m_app {a : Nat} {xs : List Val} {v : Val} {K : HL} {Q : Val → HL → Prop} (u : Upd H a (.lst xs) (.lst (xs ++ [v])) K) (h : xs.length < 1000000) (q : Q .non K) : WP B (bmt .append (.ref a) [v]) H Q := fun st F s => by
  obtain ⟨R0, u0, _⟩ := u.sub
  obtain ⟨v, K, st', e, q, s'⟩ := wp_upd (B := B) u q rfl st F s
  have hs : xs.length < PySem.sizeLine := by rw [PySem.sizeLine_eq]; omega
  exact ⟨v, K, st', by simp only [bmt, sub_at u0 s, hs, if_true, e], q, s'⟩
theorem m_pop {a : Nat} {xs : List Val} {v : Val} {K : HL} {Q : Val → HL → Prop} (u : Upd H a (.lst xs) (.lst xs.dropLast) K) (h : xs.getLast? = some v) (q : Q v K) : WP B (bmt .pop (.ref a) []) H Q := fun st F s => by
  obtain ⟨R0, u0, _⟩ := u.sub
  obtain ⟨v', K, st', e, q, s'⟩ := wp_bind (k := fun _ st => .ok v st) (wp_upd (B := B) (Q := fun _ K => WP B (fun st => .ok v st) K Q) u (wp_ok q)) st F s
  exact ⟨v', K, st', by simp only [bmt, sub_at u0 s, h, e], q, s'⟩
/-! ### isinstance -/
theorem t_non {t : Ty} {Q : Val → HL → Prop} (q : Q (.bl false) H) : WP B (fun st => okB (isT st .non t) st) H Q := wp_ok q
theorem t_bl' {k : Bool} {t : Ty} {Q : Val → HL → Prop} (q : Q (.bl (t = .int || t = .bool)) H) : WP B (fun st => okB (isT st (.bl k) t) st) H Q := wp_ok q
theorem t_int' {i : Int} {t : Ty} {Q : Val → HL → Prop} (q : Q (.bl (t = .int)) H) : WP B (fun st => okB (isT st (.int i) t) st) H Q := wp_ok q
theorem t_str' {i : PySem.Str} {t : Ty} {Q : Val → HL → Prop} (q : Q (.bl (t = .str)) H) : WP B (fun st => okB (isT st (.str i) t) st) H Q := wp_ok q
theorem t_tup' {i : List Val} {t : Ty} {Q : Val → HL → Prop} (q : Q (.bl (t = .tuple)) H) : WP B (fun st => okB (isT st (.tup i) t) st) H Q := wp_ok q
theorem t_lst' {a : Nat} {xs : List Val} {t : Ty} {Q : Val → HL → Prop} (u : Sub H [(a, .lst xs)] R) (q : Q (.bl (t = .list)) H) : WP B (fun st => okB (isT st (.ref a) t) st) H Q := wp_of (fun st F s => by simp only [isT, sub_at u s, okB]) q
theorem t_dK' {a : Nat} {xs : List (L2.Key × Val)} {t : Ty} {Q : Val → HL → Prop} (u : Sub H [(a, .dK xs)] R) (q : Q (.bl (t = .dict)) H) : WP B (fun st => okB (isT st (.ref a) t) st) H Q := wp_of (fun st F s => by simp only [isT, sub_at u s, okB]) q
end
/-! ### dict displays -/
section
variable {B H R : HL} {c : Ctx} {s : Env}
theorem ep_nil {Q : List (Val × Val) → HL → Prop} (q : Q [] H) : WP B (evp c .nil s) H Q := wp_of (fun st F _ => by simp only [evp]) q
theorem ep_cons {k v : E} {ps : Ps} {Q : List (Val × Val) → HL → Prop} (h : WP B (ev c k s) H fun x H1 => WP B (ev c v s) H1 fun y H2 => WP B (evp c ps s) H2 fun r H3 => Q ((x, y) :: r) H3) : WP B (evp c (.cons k v ps) s) H Q := by
  have := wp_bind (k := fun x st => (ev c v s st).bind fun y st => (evp c ps s st).bind fun r st => .ok ((x, y) :: r) st) (Q := Q) (wp_mono h fun x H1 h1 => wp_bind (wp_mono h1 fun y H2 h2 => wp_bind (wp_mono h2 fun r H3 h3 => wp_ok h3)))
  exact wp_eq (fun st => by rw [evp] <;> rfl) this
theorem e_dic {ps : Ps} {Q : Val → HL → Prop} (h : ∀ p, WP B (evp c ps s) ((p, .dK []) :: H) fun r K => ∃ kvs K', keyed r = some kvs ∧ kvs.length ≤ 15 ∧ Upd K p (.dK []) (.dK (merge [] kvs)) K' ∧ Q (.ref p) K') : WP B (ev c (.dic ps) s) H Q := by
  have := wp_new (B := B) (H := H) (o := .dK []) (Q := Q) (k := fun p st => (evp c ps s st).bind fun ps st' => match keyed ps with
    | some kvs => if st'.m p = some (.dK []) ∧ kvs.length ≤ 15 then (wr p (.dK (merge [] kvs)) st').bind fun _ st2 => .ok (.ref p) st2 else .fail
    | none => .fail) fun p => wp_bind (wp_mono (h p) fun r K ⟨kvs, R, e1, e2, u, q⟩ => by
      intro st F sp
      obtain ⟨R0, u0, _⟩ := u.sub
      obtain ⟨v', K, st', e, q, s'⟩ := wp_bind (k := fun _ st => .ok (Val.ref p) st) (wp_upd (B := B) (Q := fun _ K => WP B (fun st => .ok (Val.ref p) st) K Q) u (wp_ok q)) st F sp
      refine ⟨v', K, st', ?_, q, s'⟩
      simp only [e1]
      rw [if_pos ⟨sub_at u0 sp, e2⟩]
      exact e)
  exact wp_eq (fun st => by rw [ev] <;> rfl) this
end

/-! ### statements -/
/-- how a statement ends -/
def post (N : Env → HL → Prop) (T : Val → HL → Prop) (K C : Env → HL → Prop) (fl : Fl) (H : HL) : Prop := match fl with
  | .nx s => N s H
  | .rt v => T v H
  | .bk s => K s H
  | .ct s => C s H
def WS (B : HL) (c : Ctx) (x : S) (s : Env) (H : HL) (N : Env → HL → Prop) (T : Val → HL → Prop) (K C : Env → HL → Prop) : Prop := WP B (exec c x s) H (post N T K C)
def WSs (B : HL) (c : Ctx) (x : Ss) (s : Env) (H : HL) (N : Env → HL → Prop) (T : Val → HL → Prop) (K C : Env → HL → Prop) : Prop := WP B (execs c x s) H (post N T K C)
section
variable {B H R : HL} {c : Ctx} {s : Env} {N K C : Env → HL → Prop} {T : Val → HL → Prop}
theorem wss_mono {N' K' C' : Env → HL → Prop} {T' : Val → HL → Prop} {x : Ss} (h : WSs B c x s H N' T' K' C') (n : ∀ s H, N' s H → N s H) (t : ∀ v H, T' v H → T v H) (k : ∀ s H, K' s H → K s H) (cc : ∀ s H, C' s H → C s H) : WSs B c x s H N T K C :=
  wp_mono h fun fl H p => by
    cases fl
    · exact n _ _ p
    · exact t _ _ p
    · exact k _ _ p
    · exact cc _ _ p
theorem ss_nil (n : N s H) : WSs B c .nil s H N T K C := wp_of (a := Fl.nx s) (fun st F _ => by simp only [execs]) n
theorem ss_cons {x : S} {r : Ss} (h : WS B c x s H (fun s1 H1 => WSs B c r s1 H1 N T K C) T K C) : WSs B c (.cons x r) s H N T K C := by
  have := wp_bind (k := thenF fun s st => execs c r s st) (Q := post N T K C) (wp_mono h fun fl H1 p => by
    cases fl
    · exact p
    · exact wp_ok p
    · exact wp_ok p
    · exact wp_ok p)
  exact wp_eq (fun st => by rw [execs] <;> rfl) this
/-- with what holds between the two told -/
theorem ss_mid {x : S} {r : Ss} (M : Env → HL → Prop) (h : WS B c x s H M T K C) (k : ∀ s1 H1, M s1 H1 → WSs B c r s1 H1 N T K C) : WSs B c (.cons x r) s H N T K C :=
  ss_cons (wp_mono h fun fl H1 p => by
    cases fl
    · exact k _ _ p
    · exact p
    · exact p
    · exact p)
theorem ws_of {m : Store → Res Fl} {x : S} (h : WP B m H (post N T K C)) (e : ∀ st, exec c x s st = m st) : WS B c x s H N T K C := wp_eq e h
theorem s_asg1 {i : Nat} {e : E} (h : WP B (ev c e s) H fun v H1 => N (s.set i (some v)) H1) : WS B c (.asg (.one i) e) s H N T K C := by
  have := wp_bind (k := fun v st => (asg1 c (.one i) v s st).bind fun s st => .ok (Fl.nx s) st) (Q := post N T K C) (wp_mono h fun v H1 q => wp_of (a := Fl.nx (s.set i (some v))) (fun st F _ => by simp only [asg1, bind_ok]) q)
  exact wp_eq (fun st => by rw [exec] <;> rfl) (wp_noex this)
theorem s_asgs {o i : E} {e : E} (h : WP B (ev c e s) H fun v H1 => WP B (ev c o s) H1 fun x H2 => WP B (ev c i s) H2 fun y H3 => WP B (putV c.G.kt x y v) H3 fun _ H4 => N s H4) : WS B c (.asg (.sub o i) e) s H N T K C := by
  have := wp_bind (k := fun v st => (asg1 c (.sub o i) v s st).bind fun s st => .ok (Fl.nx s) st) (Q := post N T K C) (wp_mono h fun v H1 q => wp_bind (m := asg1 c (.sub o i) v s) (by
    have := wp_bind (k := fun x st => (ev c i s st).bind fun y st => (putV c.G.kt x y v st).bind fun _ st => .ok s st) (Q := fun s1 K1 => WP B (fun st => .ok (Fl.nx s1) st) K1 (post N T K C)) (wp_mono q fun x H2 q => wp_bind (wp_mono q fun y H3 q => wp_bind (wp_mono q fun _ H4 q => wp_ok (wp_ok q))))
    exact wp_eq (fun st => by rw [asg1] <;> rfl) this))
  exact wp_eq (fun st => by rw [exec] <;> rfl) (wp_noex this)
theorem s_asgf {o : E} {f : PySem.Str} {e : E} (h : WP B (ev c e s) H fun v H1 => WP B (ev c o s) H1 fun x H2 => WP B (putF c.G.fl x f v) H2 fun _ H4 => N s H4) : WS B c (.asg (.fld o f) e) s H N T K C := by
  have := wp_bind (k := fun v st => (asg1 c (.fld o f) v s st).bind fun s st => .ok (Fl.nx s) st) (Q := post N T K C) (wp_mono h fun v H1 q => wp_bind (m := asg1 c (.fld o f) v s) (by
    have := wp_bind (k := fun x st => (putF c.G.fl x f v st).bind fun _ st => .ok s st) (Q := fun s1 K1 => WP B (fun st => .ok (Fl.nx s1) st) K1 (post N T K C)) (wp_mono q fun x H2 q => wp_bind (wp_mono q fun _ H4 q => wp_ok (wp_ok q)))
    exact wp_eq (fun st => by rw [asg1] <;> rfl) this))
  exact wp_eq (fun st => by rw [exec] <;> rfl) (wp_noex this)
/-- targets one by one -/
def WT (B : HL) (c : Ctx) (ts : List CL.T) (vs : List Val) (s : Env) (H : HL) (N : Env → HL → Prop) : Prop := WP B (asgs c ts vs s) H N
theorem a_nil (n : N s H) : WT B c [] [] s H N := wp_of (fun st F _ => by simp only [asgs]) n
theorem a_one {i : Nat} {ts : List CL.T} {v : Val} {vs : List Val} (h : WT B c ts vs (s.set i (some v)) H N) : WT B c (.one i :: ts) (v :: vs) s H N :=
  wp_eq (fun st => by rw [asgs] <;> rfl) (wp_bind (m := asg1 c (.one i) v s) (k := fun s st => asgs c ts vs s st) (wp_of (a := s.set i (some v)) (fun st F _ => by simp only [asg1]) h))
theorem a_sub {o i : E} {ts : List CL.T} {v : Val} {vs : List Val} (h : WP B (ev c o s) H fun x H2 => WP B (ev c i s) H2 fun y H3 => WP B (putV c.G.kt x y v) H3 fun _ H4 => WT B c ts vs s H4 N) : WT B c (.sub o i :: ts) (v :: vs) s H N :=
  wp_eq (fun st => by rw [asgs] <;> rfl) (wp_bind (m := asg1 c (.sub o i) v s) (k := fun s st => asgs c ts vs s st) (by
    have := wp_bind (k := fun x st => (ev c i s st).bind fun y st => (putV c.G.kt x y v st).bind fun _ st => .ok s st) (Q := fun s1 K1 => WP B (fun st => asgs c ts vs s1 st) K1 N) (wp_mono h fun x H2 q => wp_bind (wp_mono q fun y H3 q => wp_bind (wp_mono q fun _ H4 q => wp_ok q)))
    exact wp_eq (fun st => by rw [asg1] <;> rfl) this))
theorem a_fld {o : E} {f : PySem.Str} {ts : List CL.T} {v : Val} {vs : List Val} (h : WP B (ev c o s) H fun x H2 => WP B (putF c.G.fl x f v) H2 fun _ H4 => WT B c ts vs s H4 N) : WT B c (.fld o f :: ts) (v :: vs) s H N :=
  wp_eq (fun st => by rw [asgs] <;> rfl) (wp_bind (m := asg1 c (.fld o f) v s) (k := fun s st => asgs c ts vs s st) (by
    have := wp_bind (k := fun x st => (putF c.G.fl x f v st).bind fun _ st => .ok s st) (Q := fun s1 K1 => WP B (fun st => asgs c ts vs s1 st) K1 N) (wp_mono h fun x H2 q => wp_bind (wp_mono q fun _ H4 q => wp_ok q))
    exact wp_eq (fun st => by rw [asg1] <;> rfl) this))
theorem s_asT {ts : List CL.T} {e : E} (h : WP B (ev c e s) H fun v H1 => ∃ xs, Its B H1 v xs ∧ WT B c ts xs s H1 N) : WS B c (.asT ts e) s H N T K C := by
  have := wp_bind (k := fun v st => match itemsOf v st with
    | some xs => (asgs c ts xs s st).bind fun s st => .ok (Fl.nx s) st
    | none => .fail) (Q := post N T K C) (wp_mono h fun v H1 ⟨xs, e, q⟩ => fun st F sp => by
      obtain ⟨a, K', st', e', q, s'⟩ := wp_bind (k := fun s st => .ok (Fl.nx s) st) (Q := post N T K C) (wp_mono q fun s1 H1 q => wp_ok q) st F sp
      exact ⟨a, K', st', by simp only [e st F sp]; exact e', q, s'⟩)
  exact wp_eq (fun st => by rw [exec] <;> rfl) (wp_noex this)
theorem s_par {is : List Nat} {es : Es} (h : WP B (evs c es s) H fun vs H1 => ∃ s1, setAll is vs s = some s1 ∧ N s1 H1) : WS B c (.par is es) s H N T K C := by
  have := wp_bind (k := fun vs st => match setAll is vs s with
    | some s => .ok (Fl.nx s) st
    | none => .fail) (Q := post N T K C) (wp_mono h fun v H1 ⟨s1, e, q⟩ => wp_of (a := Fl.nx s1) (fun st F _ => by simp only [e]) q)
  exact wp_eq (fun st => by rw [exec] <;> rfl) (wp_noex this)
theorem s_aug {i : Nat} {o : Bop} {e : E} {x : Val} (hx : s[i]? = some (some x)) (h : WP B (ev c e s) H fun y H1 => WP B (iop o x y) H1 fun z H2 => N (s.set i (some z)) H2) : WS B c (.aug i o e) s H N T K C := by
  have := wp_bind (k := fun y st => (iop o x y st).bind fun z st => .ok (Fl.nx (s.set i (some z))) st) (Q := post N T K C) (wp_mono h fun y H1 q => wp_bind (wp_mono q fun z H2 q => wp_ok q))
  exact wp_eq (fun st => by rw [exec]; simp only [hx]) (wp_noex this)
theorem o_add {i j : Int} {Q : Val → HL → Prop} (q : Q (.int (i + j)) H) : WP B (iop .add (.int i) (.int j)) H Q := wp_ok q
theorem o_sub {i j : Int} {Q : Val → HL → Prop} (q : Q (.int (i - j)) H) : WP B (iop .sub (.int i) (.int j)) H Q := wp_ok q
theorem s_aus {a i : E} {o : Bop} {e : E} (h : WP B (ev c a s) H fun x H1 => WP B (ev c i s) H1 fun y H2 => WP B (getD c.G.kt x y) H2 fun old H3 => WP B (ev c e s) H3 fun v H4 => WP B (iop o old v) H4 fun z H5 => WP B (putD c.G.kt x y z) H5 fun _ H6 => N s H6) : WS B c (.aus a i o e) s H N T K C := by
  have := wp_bind (k := fun x st => (ev c i s st).bind fun y st => (getD c.G.kt x y st).bind fun old st => (ev c e s st).bind fun v st => (iop o old v st).bind fun z st => (putD c.G.kt x y z st).bind fun _ st => .ok (Fl.nx s) st) (Q := post N T K C)
    (wp_mono h fun x H1 q => wp_bind (wp_mono q fun y H2 q => wp_bind (wp_mono q fun old H3 q => wp_bind (wp_mono q fun v H4 q => wp_bind (wp_mono q fun z H5 q => wp_bind (wp_mono q fun _ H6 q => wp_ok q))))))
  exact wp_eq (fun st => by rw [exec] <;> rfl) (wp_noex this)
/-- x.f op= e, where e leaves the heap as it is -/
theorem s_auf {a : E} {f : PySem.Str} {o : Bop} {e : E} (h : WP B (ev c a s) H fun x H1 => ∃ i k fs R old, x = .ref i ∧ Sub H1 [(i, .ins k fs)] R ∧ c.G.fl k f = true ∧ fs.lookup f = some old ∧ fs.length < 1000 ∧
    WP B (ev c e s) H1 fun v H2 => WP B (iop o old v) H2 fun z H3 => H3 = H1 ∧ ∃ K', Upd H1 i (.ins k fs) (.ins k (setF f z fs)) K' ∧ N s K') : WS B c (.auf a f o e) s H N T K C := by
  have := wp_bind (k := fun x st1 => (getF c.G.fl x f st1).bind fun old st => (ev c e s st).bind fun v st =>
      (iop o old v st).bind fun z st => if clsOf x st = clsOf x st1 then (putF c.G.fl x f z st).bind fun _ st => .ok (Fl.nx s) st else .fail) (Q := post N T K C) (wp_mono h fun x H1 ⟨i, k, fs, R, old, e1, u, e2, e3, e4, q⟩ => fun st F sp => by
    subst e1
    have hg : getF c.G.fl (.ref i) f st = .ok old st := by simp only [getF, sub_at u sp, e2, if_true, e3]
    have hc : clsOf (.ref i) st = some k := by simp only [clsOf, sub_at u sp]
    obtain ⟨v, K2, st2, e5, q, s2⟩ := q st F sp
    obtain ⟨z, K3, st3, e6, ⟨e8, K9, u9, q9⟩, s3⟩ := q st2 F s2
    subst e8
    have hc2 : clsOf (.ref i) st3 = some k := by simp only [clsOf, sub_at u s3]
    obtain ⟨a, K', st', e7, q, s'⟩ := wp_bind (k := fun _ st => .ok (Fl.nx s) st) (Q := post N T K C) (y_fld (B := B) (fl := c.G.fl) (v := z) (Q := fun _ K1 => WP B (fun st => .ok (Fl.nx s) st) K1 (post N T K C)) u9 e2 e4 (wp_ok q9)) st3 F s3
    refine ⟨a, K', st', ?_, q, s'⟩
    simp only [hg, bind_ok, e5, e6, hc, hc2, if_true]
    exact e7)
  exact wp_eq (fun st => by rw [exec] <;> rfl) (wp_noex this)
theorem s_ex {e : E} (h : WP B (ev c e s) H fun _ H1 => N s H1) : WS B c (.ex e) s H N T K C := by
  have := wp_bind (k := fun _ st => .ok (Fl.nx s) st) (Q := post N T K C) (wp_mono h fun v H1 q => wp_ok q)
  exact wp_eq (fun st => by rw [exec] <;> rfl) (wp_noex this)
theorem s_ret {e : E} (h : WP B (ev c e s) H T) : WS B c (.ret e) s H N T K C := by
  have := wp_bind (k := fun v st => .ok (Fl.rt v) st) (Q := post N T K C) (wp_mono h fun v H1 q => wp_ok q)
  exact wp_eq (fun st => by rw [exec] <;> rfl) (wp_noex this)
theorem s_rtN (t : T .non H) : WS B c .rtN s H N T K C := wp_of (a := Fl.rt .non) (fun st F _ => by rw [exec]) t
theorem s_cond {t : CL.B} {a b : Ss} (h : WP B (ts c t s) H fun k H1 => Br k (WSs B c a s H1 N T K C) (WSs B c b s H1 N T K C)) : WS B c (.cond t a b) s H N T K C := by
  have := wp_bind (k := fun (k : Bool) st => if k then execs c a s st else execs c b s st) (Q := post N T K C) (wp_noex (wp_mono h fun k H1 q => by
    cases k
    · exact q.2 rfl
    · exact q.1 rfl))
  exact wp_eq (fun st => by rw [exec] <;> rfl) this
theorem s_pass (n : N s H) : WS B c .pass s H N T K C := wp_of (a := Fl.nx s) (fun st F _ => by rw [exec]) n
theorem s_brk (n : K s H) : WS B c .brk s H N T K C := wp_of (a := Fl.bk s) (fun st F _ => by rw [exec]) n
theorem s_cnt (n : C s H) : WS B c .cnt s H N T K C := wp_of (a := Fl.ct s) (fun st F _ => by rw [exec]) n
/-- what is watched is there -/
def Sees (B H : HL) (w : Watch) : Prop := ∀ i xs, (i, xs) ∈ w → (i, Ob.lst xs) ∈ H ∨ (i, Ob.lst xs) ∈ B
theorem sees_nil : Sees B H [] := fun _ _ h => by cases h
theorem sees_sub {i : Nat} {xs : List Val} {w : Watch} (u : Sub H [(i, .lst xs)] R) (h : Sees B H w) : Sees B H ((i, xs) :: w) := fun j ys m => by
  rcases List.mem_cons.mp m with e | m
  · cases e; exact .inl ((List.Perm.mem_iff u).mpr (by simp))
  · exact h j ys m
theorem sees_ok {st : Store} {F : HL} : ∀ {w : Watch}, Sees B H w → Sep B st (H ++ F) → st.sees w = true
  | [], _, _ => rfl
  | (i, xs) :: r, h, sp => by
    unfold Store.sees
    rw [sees_ok (fun j ys m => h j ys (List.mem_cons_of_mem _ m)) sp, Bool.and_true]
    refine decide_eq_true ?_
    rcases h i xs (by simp) with m | m
    · exact sp.at' _ _ (List.mem_append_left _ m)
    · exact fix_at m sp
def postF (N : Env → HL → Prop) (T : Val → HL → Prop) : Fl → HL → Prop := post N T (fun _ _ => False) (fun _ _ => False)
/-- a for loop's rest -/
def WF (B : HL) (c : Ctx) (t : Tg) (b : Ss) (w : Watch) (xs : List Val) (s : Env) (H : HL) (N : Env → HL → Prop) (T : Val → HL → Prop) : Prop := WP B (forLoop w (onTg t fun s st => execs c b s st) xs s) H (postF N T)
theorem for_nil {t : Tg} {b : Ss} {w : Watch} (h : Sees B H w) (n : N s H) : WF B c t b w [] s H N T := wp_of (a := Fl.nx s) (fun st F sp => by rw [forLoop, sees_ok h sp]; rfl) n
theorem for_cons {t : Tg} {b : Ss} {w : Watch} {x : Val} {xs : List Val} {s1 : Env} (h : Sees B H w) (e : setTg t x s = some s1) (k : WSs B c b s1 H (fun s2 H2 => WF B c t b w xs s2 H2 N T) T N (fun s2 H2 => WF B c t b w xs s2 H2 N T)) : WF B c t b w (x :: xs) s H N T := fun st F sp => by
  have := wp_bind (m := fun st => execs c b s1 st) (k := fun fl st => match fl with
      | .nx s => forLoop w (onTg t fun s st => execs c b s st) xs s st
      | .ct s => forLoop w (onTg t fun s st => execs c b s st) xs s st
      | .bk s => .ok (Fl.nx s) st
      | .rt v => .ok (Fl.rt v) st) (Q := postF N T) (wp_mono k fun fl H1 p => by
        cases fl
        · exact p
        · exact wp_ok p
        · exact wp_ok p
        · exact p)
  obtain ⟨a, K', st', e', q, s'⟩ := this st F sp
  refine ⟨a, K', st', ?_, q, s'⟩
  rw [forLoop, sees_ok h sp, if_pos rfl, onTg, e]
  exact e'
theorem s_for {t : Tg} {w : I} {b : Ss} (h : WQ B (evw c w s) H fun xs wt H1 => WF B c t b wt xs s H1 N T) : WS B c (.for t w b) s H N T K C := by
  have := wp_bind (k := fun (p : List Val × Watch) st => forLoop p.2 (onTg t fun s st => execs c b s st) p.1 s st) (Q := post N T K C) (wp_noex (wp_mono h fun p H1 q => wp_mono q fun fl K1 r => by
    cases fl
    · exact r
    · exact r
    · exact r.elim
    · exact r.elim))
  exact wp_eq (fun st => by rw [exec] <;> rfl) this
/-- a for loop by a word: what holds ahead of the rest -/
theorem for_by {t : Tg} {b : Ss} {w : Watch} (Iv : List Val → Env → HL → Prop) (hs : ∀ xs s H, Iv xs s H → Sees B H w)
    (step : ∀ x xs s H, Iv (x :: xs) s H → ∃ s1, setTg t x s = some s1 ∧ WSs B c b s1 H (Iv xs) T N (Iv xs)) (done : ∀ s H, Iv [] s H → N s H) : ∀ xs s H, Iv xs s H → WF B c t b w xs s H N T
  | [], s, H, h => for_nil (hs _ _ _ h) (done _ _ h)
  | x :: xs, s, H, h => by
    obtain ⟨s1, e, k⟩ := step _ _ _ _ h
    exact for_cons (hs _ _ _ h) e (wss_mono k (fun s H h => for_by Iv hs step done xs s H h) (fun _ _ h => h) (fun _ _ h => h) (fun s H h => for_by Iv hs step done xs s H h))
/-- a while loop -/
def WW (B : HL) (c : Ctx) (t : CL.B) (b : Ss) (n : Nat) (s : Env) (H : HL) (N : Env → HL → Prop) (T : Val → HL → Prop) : Prop := WP B (whlLoop (fun s st => noex (ts c t s st)) (fun s st => execs c b s st) n s) H (postF N T)
theorem whl_step {t : CL.B} {b : Ss} {n : Nat} (h : WP B (ts c t s) H fun k H1 => Br k (WSs B c b s H1 (fun s2 H2 => WW B c t b n s2 H2 N T) T N (fun s2 H2 => WW B c t b n s2 H2 N T)) (N s H1)) : WW B c t b (n + 1) s H N T := by
  have := wp_bind (k := fun (k : Bool) st => if k then (execs c b s st).bind fun fl st => match fl with
      | .nx s => whlLoop (fun s st => noex (ts c t s st)) (fun s st => execs c b s st) n s st
      | .ct s => whlLoop (fun s st => noex (ts c t s st)) (fun s st => execs c b s st) n s st
      | .bk s => .ok (Fl.nx s) st
      | .rt v => .ok (Fl.rt v) st
    else .ok (Fl.nx s) st) (Q := postF N T) (wp_noex (wp_mono h fun k H1 q => by
      cases k
      · exact wp_ok (q.2 rfl)
      · exact wp_bind (wp_mono (q.1 rfl) fun fl H1 p => by
          cases fl
          · exact p
          · exact wp_ok p
          · exact wp_ok p
          · exact p)))
  exact wp_eq (fun st => by rw [whlLoop] <;> rfl) this
theorem s_whl {t : CL.B} {b : Ss} (h : WW B c t b c.fuel s H N T) : WS B c (.whl t b) s H N T K C :=
  wp_eq (fun st => by rw [exec]) (wp_mono h fun fl K1 r => by
    cases fl
    · exact r
    · exact r
    · exact r.elim
    · exact r.elim)
/-- a while loop by a word and a number that falls -/
theorem whl_by {t : CL.B} {b : Ss} (Iv : Nat → Env → HL → Prop) (step : ∀ n s H, Iv n s H → WP B (ts c t s) H fun k H1 => Br k (WSs B c b s H1 (fun s2 H2 => ∃ m, m < n ∧ Iv m s2 H2) T N (fun s2 H2 => ∃ m, m < n ∧ Iv m s2 H2)) (N s H1)) : ∀ f n s H, n < f → Iv n s H → WW B c t b f s H N T
  | 0, n, s, H, hf, h => by omega
  | f + 1, n, s, H, hf, h => whl_step (wp_mono (step n s H h) fun k H1 q => ⟨fun e => wss_mono (q.1 e) (fun s2 H2 ⟨m, hm, h⟩ => whl_by Iv step f m s2 H2 (by omega) h) (fun _ _ h => h) (fun _ _ h => h) (fun s2 H2 ⟨m, hm, h⟩ => whl_by Iv step f m s2 H2 (by omega) h), q.2⟩)
/-! ### calls -/
theorem w_run {d : FDef} {vs : List Val} {Q : Val → HL → Prop} (hn : vs.length = d.np) (h : WSs B c d.body (vs.map some ++ List.replicate (d.nl - d.np) none) H (fun _ K => Q .non K) Q (fun _ _ => False) (fun _ _ => False)) : WP B (runF c d vs) H Q := by
  have := wp_bind (k := endF) (Q := Q) (wp_mono h fun fl H1 p => by
    cases fl
    · exact wp_ok p
    · exact wp_ok p
    · exact p.elim
    · exact p.elim)
  exact wp_eq (fun st => by rw [runF, if_pos hn]) this
theorem w_call {G : Prog} {fuel d f : Nat} {fd : FDef} {vs : List Val} {Q : Val → HL → Prop} (e : G.fn f = some fd) (hn : vs.length = fd.np) (h : WSs B (cxN G fuel d) fd.body (vs.map some ++ List.replicate (fd.nl - fd.np) none) H (fun _ K => Conv Q .non K) (Conv Q) (fun _ _ => False) (fun _ _ => False)) : WP B (callN G fuel (d + 1) f vs) H Q :=
  wp_conv (wp_eq (fun st => by rw [callN_succ, e]) (w_run hn h))
end
/-! ### comprehensions -/
section
variable {B H R : HL} {c : Ctx} {s : Env} {Q : Val → HL → Prop}
def WL (B : HL) (c : Ctx) (t : Tg) (k : CL.B) (e : E) (s : Env) (D : Nat) (w : Watch) (xs : List Val) (H : HL) (Q : Val → HL → Prop) : Prop := WP B (lcLoop D w (onLc t (fun s st => ts c k s st) (fun s st => ev c e s st) s) xs) H Q
theorem e_lc' {t : Tg} {w : I} {k : CL.B} {e : E} (h : WQ B (evw c w s) H fun xs wt H1 => ∀ D, WL B c t k e s D wt xs ((D, .lst []) :: H1) Q) : WP B (ev c (.lc t w k e) s) H Q := e_lc h
theorem lc_nil {t : Tg} {k : CL.B} {e : E} {D : Nat} {w : Watch} (h : Sees B H w) (q : Q (.ref D) H) : WL B c t k e s D w [] H Q := wp_of (a := Val.ref D) (fun st F sp => by rw [lcLoop, sees_ok h sp]; rfl) q
theorem lc_cons {t : Tg} {k : CL.B} {e : E} {D : Nat} {w : Watch} {x : Val} {xs : List Val} {s1 : Env} (h : Sees B H w) (es : setTg t x s = some s1) (q : WP B (ts c k s1) H fun b H1 => Br b (WP B (ev c e s1) H1 fun v H2 => ∃ ys K', Upd H2 D (.lst ys) (.lst (ys ++ [v])) K' ∧ ys.length < 1000000 ∧ WL B c t k e s D w xs K' Q) (WL B c t k e s D w xs H1 Q)) : WL B c t k e s D w (x :: xs) H Q := fun st F sp => by
  have := wp_bind (m := fun st => (ts c k s1 st).bind fun k st => if k then (ev c e s1 st).bind fun v st => .ok (some v) st else .ok none st) (k := fun o st => match o with
      | none => lcLoop D w (onLc t (fun s st => ts c k s st) (fun s st => ev c e s st) s) xs st
      | some v => (bmt .append (.ref D) [v] st).bind fun _ st => lcLoop D w (onLc t (fun s st => ts c k s st) (fun s st => ev c e s st) s) xs st) (Q := Q) (H := H) (B := B)
    (wp_bind (wp_mono q fun b H1 r => by
      cases b
      · exact wp_ok (r.2 rfl)
      · exact wp_bind (wp_mono (r.1 rfl) fun v H2 ⟨ys, R, u, hl, z⟩ => wp_ok (wp_bind (m_app u hl z)))))
  obtain ⟨a, K', st', e', q, s'⟩ := this st F sp
  refine ⟨a, K', st', ?_, q, s'⟩
  rw [lcLoop, sees_ok h sp, if_pos rfl]
  simp only [onLc, es]
  exact e'
/-- a comprehension whose turns leave the heap as it is: what each item gives -/
theorem lc_pure {t : Tg} {k : CL.B} {e : E} {D : Nat} {w : Watch} (g : Val → Option Val) (R : HL) : ∀ (xs ys : List Val), (∀ x ∈ xs, ∃ s1, setTg t x s = some s1 ∧ ∀ zs, WP B (ts c k s1) ((D, .lst zs) :: R) fun b K => K = (D, .lst zs) :: R ∧ Br b (WP B (ev c e s1) ((D, .lst zs) :: R) fun v K => K = (D, .lst zs) :: R ∧ g x = some v) (g x = none)) →
    Sees B R w → ys.length + xs.length < 1000000 → Q (.ref D) ((D, .lst (ys ++ xs.filterMap g)) :: R) → WL B c t k e s D w xs ((D, .lst ys) :: R) Q
  | [], ys, _, hs, _, q => lc_nil (fun i xs m => (hs i xs m).imp_left (List.mem_cons_of_mem _)) (by simpa using q)
  | x :: xs, ys, h, hs, hl, q => by
    obtain ⟨s1, es, h1⟩ := h x (by simp)
    refine lc_cons (fun i xs m => (hs i xs m).imp_left (List.mem_cons_of_mem _)) es (wp_mono (h1 ys) fun b K ⟨e1, br⟩ => ?_)
    subst e1
    simp only [List.length_cons] at hl
    refine ⟨fun hb => wp_mono (br.1 hb) fun v K ⟨e2, e3⟩ => ?_, fun hb => ?_⟩
    · subst e2
      refine ⟨ys, _, .here, by omega, lc_pure g R xs (ys ++ [v]) (fun y hy => h y (by simp [hy])) hs (by simp; omega) ?_⟩
      rw [List.filterMap_cons, e3] at q
      simpa using q
    · have e3 := br.2 hb
      refine lc_pure g R xs ys (fun y hy => h y (by simp [hy])) hs (by omega) ?_
      rw [List.filterMap_cons, e3] at q
      exact q
end
end CL
namespace CL
section
variable {B H R : HL} {s : Env} {G : Prog} {fuel d : Nat}
theorem e_dcallN {f : Nat} {Q : Val → HL → Prop} (hl : litF G f = true) (h : WP B (callN G fuel d f []) H fun v H1 => WP B (dictT v) H1 Q) : WP B (ev (cxN G fuel d) (.dcall f) s) H Q := e_dcall hl h
theorem e_callN {f : Nat} {es : Es} {Q : Val → HL → Prop} (h : WP B (evs (cxN G fuel d) es s) H fun vs H1 => WP B (callN G fuel d f vs) H1 Q) : WP B (ev (cxN G fuel d) (.call f es) s) H Q := e_call h
theorem e_metN {a : E} {m : PySem.Str} {es : Es} {Q : Val → HL → Prop} (h : WP B (ev (cxN G fuel d) a s) H fun x H1 => ∃ i k fs R f, x = .ref i ∧ Sub H1 [(i, .ins k fs)] R ∧ fs.lookup m = none ∧ G.mt k m = some f ∧ WP B (evs (cxN G fuel d) es s) H1 fun vs H2 => WP B (callN G fuel d f (.ref i :: vs)) H2 Q) :
    WP B (ev (cxN G fuel d) (.met a m es) s) H Q := e_met h
theorem e_makeN {k : Nat} {es : Es} {Q : Val → HL → Prop} (h : WP B (evs (cxN G fuel (d + 1)) es s) H fun vs H1 => ∃ f, G.ini k = some f ∧ ∀ p, WP B (callN G fuel d f (.ref p :: vs)) ((p, .ins k []) :: H1) fun v H2 => v = .non ∧ Q (.ref p) H2) : WP B (ev (cxN G fuel (d + 1)) (.make k es) s) H Q := e_make h
theorem w_callB {f np nl : Nat} {body : Ss} {vs : List Val} {Q : Val → HL → Prop} (e : G.fn f = some ⟨np, nl, body⟩) (hn : vs.length = np) (h : WSs B (cxN G fuel d) body (vs.map some ++ List.replicate (nl - np) none) H (fun _ K => Conv Q .non K) (Conv Q) (fun _ _ => False) (fun _ _ => False)) : WP B (callN G fuel (d + 1) f vs) H Q := w_call e hn h
/-- a call by what it is told to do -/
theorem wp_callee {m : Store → Res Val} {P Q : Val → HL → Prop} (h : WP B m H P) (k : ∀ v K, P v K → Q v K) : WP B m H Q := wp_mono h k
/-- what holds of an init's end -/
theorem non_and {P : Prop} (p : P) : Val.non = .non ∧ P := ⟨rfl, p⟩
end
end CL

/-! CL, part t2: runs that end in an error; a try that keeps it -/
namespace CL
section
variable {α β : Type} {B H K R : HL}
/-- a run that ends in an error -/
def WX {α : Type} (B : HL) (m : Store → Res α) (H : HL) (E : Nat → List (PySem.Str × Val) → HL → Prop) : Prop :=
  ∀ st F, Sep B st (H ++ F) → ∃ k fs K st', m st = .ex k fs st' ∧ E k fs K ∧ Sep B st' (K ++ F)
theorem wx_mono {m : Store → Res α} {D E : Nat → List (PySem.Str × Val) → HL → Prop} (h : WX B m H D) (q : ∀ k fs K, D k fs K → E k fs K) : WX B m H E := fun st F s => by
  obtain ⟨k, fs, K, st', e, p, s'⟩ := h st F s
  exact ⟨k, fs, K, st', e, q _ _ _ p, s'⟩
theorem wx_eq {m m' : Store → Res α} {E : Nat → List (PySem.Str × Val) → HL → Prop} (e : ∀ st, m' st = m st) (h : WX B m H E) : WX B m' H E := by
  have : m' = m := funext e
  rw [this]; exact h
theorem wx_left {m : Store → Res α} {k : α → Store → Res β} {E : Nat → List (PySem.Str × Val) → HL → Prop} (h : WX B m H E) : WX B (fun st => (m st).bind k) H E := fun st F s => by
  obtain ⟨c, fs, K, st', e, p, s'⟩ := h st F s
  exact ⟨c, fs, K, st', by simp only [e, bind_ex], p, s'⟩
theorem wx_bind {m : Store → Res α} {k : α → Store → Res β} {E : Nat → List (PySem.Str × Val) → HL → Prop} (h : WP B m H fun a K => WX B (k a) K E) : WX B (fun st => (m st).bind k) H E := fun st F s => by
  obtain ⟨a, K, st', e, p, s'⟩ := h st F s
  obtain ⟨c, fs, K2, st2, e2, q, s2⟩ := p st' F s'
  exact ⟨c, fs, K2, st2, by simp only [e, bind_ok, e2], q, s2⟩
theorem wx_ex {k : Nat} {fs : List (PySem.Str × Val)} {E : Nat → List (PySem.Str × Val) → HL → Prop} (q : E k fs H) : WX B (fun st => (.ex k fs st : Res α)) H E := fun st F s => ⟨k, fs, H, st, rfl, q, s⟩
/-- what is then told, less perhaps -/
def ConvX (E : Nat → List (PySem.Str × Val) → HL → Prop) (k : Nat) (fs : List (PySem.Str × Val)) (H : HL) : Prop := ∃ K X, Sub H K X ∧ E k fs K
theorem wx_conv {m : Store → Res α} {E : Nat → List (PySem.Str × Val) → HL → Prop} (h : WX B m H (ConvX E)) : WX B m H E := fun st F s => by
  obtain ⟨k, fs, K, st', e, ⟨K2, X, p, q⟩, s'⟩ := h st F s
  refine ⟨k, fs, K2, st', e, q, ?_⟩
  have p2 : (K ++ F).Perm (X ++ (K2 ++ F)) := by
    refine (List.Perm.append_right F p).trans ?_
    rw [← List.append_assoc]
    exact List.perm_append_comm.append_right F
  exact (s'.perm p2).sub (List.sublist_append_right _ _)
end
section
variable {B H K R : HL} {c : Ctx} {s : Env} {E : Nat → List (PySem.Str × Val) → HL → Prop}
def WXs (B : HL) (c : Ctx) (x : Ss) (s : Env) (H : HL) (E : Nat → List (PySem.Str × Val) → HL → Prop) : Prop := WX B (execs c x s) H E
theorem xs_head {x : S} {r : Ss} (h : WX B (exec c x s) H E) : WXs B c (.cons x r) s H E := by
  have := wx_left (k := thenF fun s st => execs c r s st) h
  exact wx_eq (fun st => by rw [execs] <;> rfl) this
theorem xs_tail {x : S} {r : Ss} (h : WS B c x s H (fun s1 H1 => WXs B c r s1 H1 E) (fun _ _ => False) (fun _ _ => False) (fun _ _ => False)) : WXs B c (.cons x r) s H E := by
  have := wx_bind (k := thenF fun s st => execs c r s st) (wp_mono h fun fl H1 p => by
    cases fl
    · exact p
    · exact p.elim
    · exact p.elim
    · exact p.elim)
  exact wx_eq (fun st => by rw [execs] <;> rfl) this
theorem x_rse0 {k : Nat} (h : c.G.xs k k = true) (hd : 2 ≤ c.dp) (q : E k [(c.G.xf, .int 0)] H) : WX B (exec c (.rse k none) s) H E :=
  wx_eq (fun st => by rw [exec, h, Bool.true_and, if_pos (decide_eq_true hd)] <;> rfl) (wx_ex q)
theorem x_rse1 {k : Nat} {e : CL.E} (h : c.G.xs k k = true) (hd : 2 ≤ c.dp) (q : WP B (ev c e s) H fun v K => ∃ i, v = .int i ∧ E k [(c.G.xf, .int i)] K) : WX B (exec c (.rse k (some e)) s) H E := by
  have := wx_bind (B := B) (H := H) (k := fun v st => match v with
      | .int i => (.ex k [(c.G.xf, .int i)] st : Res Fl)
      | _ => .fail) (E := E) (wp_noex (wp_mono q fun v K ⟨i, e1, q⟩ => by subst e1; exact wx_ex q))
  exact wx_eq (fun st => by rw [exec, h, Bool.true_and, if_pos (decide_eq_true hd)] <;> rfl) this
theorem x_cond {t : CL.B} {a b : Ss} (h : WP B (ts c t s) H fun k H1 => Br k (WXs B c a s H1 E) (WXs B c b s H1 E)) : WX B (exec c (.cond t a b) s) H E := by
  have := wx_bind (k := fun (k : Bool) st => if k then execs c a s st else execs c b s st) (E := E) (wp_noex (wp_mono h fun k H1 q => by
    cases k
    · exact q.2 rfl
    · exact q.1 rfl))
  exact wx_eq (fun st => by rw [exec] <;> rfl) this
theorem x_exX {x : XE} (h : WX B (evX c x s) H E) : WX B (exec c (.exX x) s) H E := wx_eq (fun st => by rw [exec] <;> rfl) (wx_left (k := fun _ st => .ok (Fl.nx s) st) h)
theorem x_asX {i : Nat} {x : XE} (h : WX B (evX c x s) H E) : WX B (exec c (.asX i x) s) H E := wx_eq (fun st => by rw [exec] <;> rfl) (wx_left (k := fun v st => .ok (Fl.nx (s.set i (some v))) st) h)
theorem x_retX {x : XE} (h : WX B (evX c x s) H E) : WX B (exec c (.retX x) s) H E := wx_eq (fun st => by rw [exec] <;> rfl) (wx_left (k := fun v st => .ok (Fl.rt v) st) h)
/-! ### expressions that may raise -/
theorem xe_pu {e : CL.E} {Q : Val → HL → Prop} (h : WP B (ev c e s) H Q) : WP B (evX c (.pu e) s) H Q := wp_eq (fun st => by rw [evX]) (wp_noex h)
theorem xe_nil {Q : List Val → HL → Prop} (q : Q [] H) : WP B (evXs c .nil s) H Q := wp_of (a := []) (fun st F _ => by rw [evXs]) q
theorem xe_cons {x : XE} {xs : XEs} {Q : List Val → HL → Prop} (h : WP B (evX c x s) H fun v H1 => WP B (evXs c xs s) H1 fun vs H2 => Q (v :: vs) H2) : WP B (evXs c (.cons x xs) s) H Q := by
  have := wp_bind (k := fun v st => (evXs c xs s st).bind fun vs st => .ok (v :: vs) st) (Q := Q) (wp_mono h fun v H1 q => wp_bind (wp_mono q fun vs H2 q => wp_ok q))
  exact wp_eq (fun st => by rw [evXs] <;> rfl) this
theorem xe_fn {f : Nat} {xs : XEs} {Q : Val → HL → Prop} (hf : (c.G.fn f).isSome = true) (h : WP B (evXs c xs s) H fun vs K => WP B (c.call f vs) K Q) : WP B (evX c (.fn f xs) s) H Q :=
  wp_eq (fun st => by rw [evX, if_pos hf]) (wp_bind h)
theorem xx_fn {f : Nat} {xs : XEs} (hf : (c.G.fn f).isSome = true) (h : WP B (evXs c xs s) H fun vs K => WX B (c.call f vs) K E) : WX B (evX c (.fn f xs) s) H E :=
  wx_eq (fun st => by rw [evX, if_pos hf]) (wx_bind h)
section
variable {N KK C : Env → HL → Prop} {T : Val → HL → Prop}
theorem s_exX {x : XE} (h : WP B (evX c x s) H fun _ H1 => N s H1) : WS B c (.exX x) s H N T KK C := by
  have := wp_bind (k := fun _ st => .ok (Fl.nx s) st) (Q := post N T KK C) (wp_mono h fun v H1 q => wp_ok q)
  exact wp_eq (fun st => by rw [exec] <;> rfl) this
theorem s_asX {i : Nat} {x : XE} (h : WP B (evX c x s) H fun v H1 => N (s.set i (some v)) H1) : WS B c (.asX i x) s H N T KK C := by
  have := wp_bind (k := fun v st => .ok (Fl.nx (s.set i (some v))) st) (Q := post N T KK C) (wp_mono h fun v H1 q => wp_ok q)
  exact wp_eq (fun st => by rw [exec] <;> rfl) this
theorem s_retX {x : XE} (h : WP B (evX c x s) H T) : WS B c (.retX x) s H N T KK C := by
  have := wp_bind (k := fun v st => .ok (Fl.rt v) st) (Q := post N T KK C) (wp_mono h fun v H1 q => wp_ok q)
  exact wp_eq (fun st => by rw [exec] <;> rfl) this
def dstS (dst : Option Nat) (s : Env) (v : Val) : Env := match dst with
  | some i => s.set i (some v)
  | none => s
theorem s_tryK_ok {dst : Option Nat} {x : XE} {k n w : Nat} (hk : c.G.xs k k = true) (h : WP B (evX c x s) H fun v H1 => N (dstS dst s v) H1) : WS B c (.tryK dst x k n w) s H N T KK C := fun st F sp => by
  obtain ⟨v, K1, st', e, q, s'⟩ := h st F sp
  refine ⟨.nx (dstS dst s v), K1, st', ?_, q, s'⟩
  rw [exec, if_pos hk, e]
  cases dst <;> rfl
theorem Sep.newR {st : Store} {L : HL} {k : Nat} {fs : List (PySem.Str × Val)} (s : Sep B st L) : Sep B (st.newR (.exc k fs)) ((st.n, .exc k fs) :: L) := by
  refine ⟨fun a o m => ?_, ?_, fun a o m => ?_, fun a o m hx => ?_, fun a o m => ?_⟩
  · rcases List.mem_cons.mp m with e | m
    · cases e; exact if_pos rfl
    · have := s.lt a o m
      exact (if_neg (by omega)).trans (s.at' a o m)
  · rw [List.map_cons, List.nodup_cons]
    refine ⟨fun h => ?_, s.nd⟩
    obtain ⟨⟨b, o'⟩, m, e⟩ := List.mem_map.mp h
    have := s.lt b o' m
    simp only at e
    omega
  · rcases List.mem_cons.mp m with e | m
    · cases e; exact Nat.lt_succ_self _
    · exact Nat.lt_succ_of_lt (s.lt a o m)
  · rcases List.mem_cons.mp m with e | m
    · cases e; cases hx
    · have := s.lt a o m
      exact (if_neg (by omega)).trans (s.rw' a o m hx)
  · obtain ⟨h1, h2, h3⟩ := s.fix a o m
    exact ⟨(if_neg (by omega)).trans h1, Nat.lt_succ_of_lt h2, (if_neg (by omega)).trans h3⟩
theorem s_tryK_ex {dst : Option Nat} {x : XE} {k n w : Nat} (hk : c.G.xs k k = true) (h : WX B (evX c x s) H fun k' fs H1 => c.G.xs k' k = true ∧ c.G.xs k' k' = true ∧ ∀ p, N ((s.set w (some (.ref p))).set n none) ((p, .exc k' fs) :: H1)) : WS B c (.tryK dst x k n w) s H N T KK C := fun st F sp => by
  obtain ⟨k', fs, K1, st', e, ⟨e1, e2, q⟩, s'⟩ := h st F sp
  refine ⟨.nx ((s.set w (some (.ref st'.n))).set n none), _, st'.newR (.exc k' fs), ?_, q st'.n, s'.newR⟩
  rw [exec, if_pos hk, e]
  simp only
  rw [e1, e2, Bool.true_and, if_pos rfl]
end
/-! ### isinstance -/
inductive IsX (xs : Nat → Nat → Bool) (H : HL) (ks : List (Option Nat)) : Val → Bool → Prop
  | non (h : isXo xs ks = true) : IsX xs H ks .non false
  | exc {i k : Nat} {fs : List (PySem.Str × Val)} {R : HL} (u : Sub H [(i, .exc k fs)] R) (h : (xs k k && isXo xs ks) = true) : IsX xs H ks (.ref i) (ks.any (isX1 xs k))
theorem e_isX {a : CL.E} {ks : List (Option Nat)} {m : Bool} {Q : Val → HL → Prop} (h : WP B (ev c a s) H fun x K => ∃ b, IsX c.G.xs K ks x b ∧ Q (.bl b) K) : WP B (ev c (.isX a ks m) s) H Q := by
  have := wp_bind (k := fun x st => okB (isXV c.G.xs st x ks) st) (Q := Q) (wp_mono h fun x K ⟨b, hb, q⟩ => fun st F sp => by
    refine ⟨.bl b, K, st, ?_, q, sp⟩
    cases hb with
    | non h => simp only [isXV, h, if_true, okB]
    | exc u h => simp only [isXV, sub_at u sp, h, if_true, okB])
  exact wp_eq (fun st => by rw [ev] <;> rfl) this
theorem e_xfld {a : CL.E} {f : PySem.Str} {Q : Val → HL → Prop} (h : WP B (ev c a s) H fun x K => ∃ i k fs R v, x = .ref i ∧ Sub K [(i, .exc k fs)] R ∧ f = c.G.xf ∧ c.G.xs k k = true ∧ fs.lookup f = some v ∧ Q v K) : WP B (ev c (.xfld a f) s) H Q := by
  have := wp_bind (k := fun x st => match x with
    | .ref i => match st.m i with
      | some (.exc k fs) => if decide (f = c.G.xf) && c.G.xs k k then match fs.lookup f with
        | some v => .ok v st
        | none => .fail else .fail
      | _ => .fail
    | _ => .fail) (Q := Q) (wp_mono h fun x K ⟨i, k, fs, R, v, e1, u, e2, e3, e4, q⟩ => fun st F sp => by
    subst e1
    refine ⟨v, K, st, ?_, q, sp⟩
    simp only [sub_at u sp]
    rw [e3, Bool.and_true, if_pos (decide_eq_true e2), e4])
  exact wp_eq (fun st => by rw [ev] <;> rfl) this
end
section
variable {B H R : HL} {G : Prog} {fuel d : Nat} {E : Nat → List (PySem.Str × Val) → HL → Prop}
theorem wx_callB {f np nl : Nat} {body : Ss} {vs : List Val} (e : G.fn f = some ⟨np, nl, body⟩) (hn : vs.length = np) (h : WXs B (cxN G fuel d) body (vs.map some ++ List.replicate (nl - np) none) H (ConvX E)) : WX B (callN G fuel (d + 1) f vs) H E := by
  refine wx_conv (wx_eq (m := runF (cxN G fuel d) ⟨np, nl, body⟩ vs) (fun st => by rw [callN_succ, e]) ?_)
  have := wx_left (k := endF) h
  exact wx_eq (fun st => by rw [runF, if_pos hn]) this
end
end CL

/-! CL, part t3: methods of texts, extend, divmod; runs that end well or in an error -/
namespace CL
section
variable {B H K R : HL} {c : Ctx} {s : Env} {Q : Val → HL → Prop}
theorem e_sm {m : Sm} {a e : CL.E} (h : WP B (ev c a s) H fun x H1 => ∃ z, x = .str z ∧ WP B (ev c e s) H1 fun y H2 => WP B (smt m z y) H2 Q) : WP B (ev c (.sm m a e) s) H Q := by
  have := wp_bind (k := fun x st => match x with
    | .str z => (ev c e s st).bind fun y st => smt m z y st
    | _ => .fail) (Q := Q) (wp_mono h fun x H1 ⟨z, e1, q⟩ => by subst e1; exact wp_bind q)
  exact wp_eq (fun st => by rw [ev] <;> rfl) this
theorem strsO_map : ∀ ws : List PySem.Str, strsO (ws.map .str) = some ws
  | [] => rfl
  | w :: r => by rw [List.map_cons, strsO, strsO_map r]
theorem m_join {p : Nat} {ws : List PySem.Str} {z : PySem.Str} (u : Sub H [(p, .lst (ws.map .str))] R) (hl : (ws.map (·.length)).sum + ws.length * z.length ≤ 16777216) (q : Q (.str (PySem.Txt.join z ws)) H) : WP B (smt .join z (.ref p)) H Q :=
  wp_of (fun st F s => by simp only [smt, smJoin, sub_at u s, strsO_map]; rw [if_pos hl]) q
theorem m_split {z w : PySem.Str} (h1 : (w.length == 0) = false) (h2 : z.length ≤ 1000000) (q : ∀ p, Q (.ref p) ((p, .lst ((PySem.Txt.split z w).map .str)) :: H)) : WP B (smt .split z (.str w)) H Q := fun st F s => by
  obtain ⟨v, K, st', e, q, s'⟩ := wp_mk (B := B) q st F s
  have h3 : z.length + 2 ≤ PySem.sizeLine := by rw [PySem.sizeLine_eq]; omega
  exact ⟨v, K, st', by simp only [smt, smSplit]; rw [if_pos ⟨h1, h3⟩]; exact e, q, s'⟩
theorem m_starts {z w : PySem.Str} (q : Q (.bl (PySem.Txt.startswith z w)) H) : WP B (smt .starts z (.str w)) H Q := wp_of (fun st F s => by simp only [smt, smStarts]) q
theorem m_ext {a b : Nat} {xs zs : List Val} {K : HL} (u : Upd H a (.lst xs) (.lst (xs ++ zs)) K) (x : Sub H [(b, .lst zs)] R) (hl : xs.length + zs.length ≤ 1000000) (q : Q .non K) : WP B (bmt .extend (.ref a) [.ref b]) H Q := fun st F s => by
  obtain ⟨R0, u0, _⟩ := u.sub
  obtain ⟨v, K, st', e, q, s'⟩ := wp_upd (B := B) u q rfl st F s
  have h3 : xs.length + zs.length ≤ PySem.sizeLine := by rw [PySem.sizeLine_eq]; omega
  exact ⟨v, K, st', by simp only [bmt, sub_at u0 s, sub_at x s]; rw [if_pos ⟨sub_rw x s, h3⟩]; exact e, q, s'⟩
theorem f_divmod {i j : Int} (h : 0 < j ∧ j < 1073741824) (q : Q (.tup [.int (i / j), .int (i % j)]) H) : WP B (bfn .divmod [.int i, .int j]) H Q := wp_of (fun st F s => by simp only [bfn]; rw [if_pos h]) q
end
abbrev XT := Nat → List (PySem.Str × Val) → HL → Prop
section
variable {α β : Type} {B H K R : HL} {E E' : XT}
/-- a run that ends well or in an error -/
def WE {α : Type} (B : HL) (m : Store → Res α) (H : HL) (Q : α → HL → Prop) (E : XT) : Prop := ∀ st F, Sep B st (H ++ F) →
  (∃ a K st', m st = .ok a st' ∧ Q a K ∧ Sep B st' (K ++ F)) ∨ ∃ k fs K st', m st = .ex k fs st' ∧ E k fs K ∧ Sep B st' (K ++ F)
theorem we_wp {m : Store → Res α} {Q : α → HL → Prop} (h : WP B m H Q) : WE B m H Q E := fun st F s => .inl (h st F s)
theorem we_wx {m : Store → Res α} {Q : α → HL → Prop} (h : WX B m H E) : WE B m H Q E := fun st F s => .inr (h st F s)
theorem wx_we {m : Store → Res α} (h : WE B m H (fun _ _ => False) E) : WX B m H E := fun st F s => by
  rcases h st F s with ⟨_, _, _, _, q, _⟩ | h
  · exact q.elim
  · exact h
theorem wp_we {m : Store → Res α} {Q : α → HL → Prop} (h : WE B m H Q (fun _ _ _ => False)) : WP B m H Q := fun st F s => by
  rcases h st F s with h | ⟨_, _, _, _, _, q, _⟩
  · exact h
  · exact q.elim
theorem we_mono {m : Store → Res α} {P Q : α → HL → Prop} (h : WE B m H P E') (k : ∀ a K, P a K → Q a K) (k' : ∀ c fs K, E' c fs K → E c fs K) : WE B m H Q E := fun st F s => by
  rcases h st F s with ⟨a, K, st', e, p, s'⟩ | ⟨c, fs, K, st', e, p, s'⟩
  · exact .inl ⟨a, K, st', e, k a K p, s'⟩
  · exact .inr ⟨c, fs, K, st', e, k' c fs K p, s'⟩
theorem we_eq {m m' : Store → Res α} {Q : α → HL → Prop} (e : ∀ st, m' st = m st) (h : WE B m H Q E) : WE B m' H Q E := by
  have : m' = m := funext e
  rw [this]; exact h
theorem we_perm {m : Store → Res α} {Q : α → HL → Prop} (p : H.Perm K) (h : WE B m K Q E) : WE B m H Q E := fun st F s => h st F (s.perm (p.append_right F))
theorem we_bind {m : Store → Res α} {k : α → Store → Res β} {Q : β → HL → Prop} (h : WE B m H (fun a K => WE B (k a) K Q E) E) : WE B (fun st => (m st).bind k) H Q E := fun st F s => by
  rcases h st F s with ⟨a, K, st', e, p, s'⟩ | ⟨c, fs, K, st', e, p, s'⟩
  · rcases p st' F s' with ⟨b, K2, st2, e2, q, s2⟩ | ⟨c, fs, K2, st2, e2, q, s2⟩
    · exact .inl ⟨b, K2, st2, by simp only [e, bind_ok, e2], q, s2⟩
    · exact .inr ⟨c, fs, K2, st2, by simp only [e, bind_ok, e2], q, s2⟩
  · exact .inr ⟨c, fs, K, st', by simp only [e, bind_ex], p, s'⟩
theorem we_ok {Q : α → HL → Prop} {a : α} (q : Q a H) : WE B (fun st => .ok a st) H Q E := we_wp (wp_ok q)
/-- the rest stays -/
theorem we_frame {L : HL} {m : Store → Res α} {P Q : α → HL → Prop} (x : Sub H L R) (h : WE B m L P E') (k : ∀ a K, P a K → Q a (K ++ R)) (k' : ∀ c fs K, E' c fs K → E c fs (K ++ R)) : WE B m H Q E := fun st F s => by
  have s1 : Sep B st (L ++ (R ++ F)) := by
    rw [← List.append_assoc]
    exact s.perm (List.Perm.append_right F x)
  rcases h st _ s1 with ⟨a, K, st', e, p, s'⟩ | ⟨c, fs, K, st', e, p, s'⟩
  · exact .inl ⟨a, K ++ R, st', e, k a K p, by rw [List.append_assoc]; exact s'⟩
  · exact .inr ⟨c, fs, K ++ R, st', e, k' c fs K p, by rw [List.append_assoc]; exact s'⟩
theorem convx_keep {k : Nat} {fs : List (PySem.Str × Val)} (q : E k fs H) : ConvX E k fs H := ⟨H, [], sub_all, q⟩
theorem convx {k : Nat} {fs : List (PySem.Str × Val)} {X : HL} (h : Sub H K X) (q : E k fs K) : ConvX E k fs H := ⟨K, X, h, q⟩
theorem we_conv {m : Store → Res α} {Q : α → HL → Prop} (h : WE B m H (Conv Q) (ConvX E)) : WE B m H Q E := fun st F s => by
  have fin : ∀ {K K2 X : HL} {st' : Store}, Sub K K2 X → Sep B st' (K ++ F) → Sep B st' (K2 ++ F) := fun {K K2 X st'} p s' => by
    have p2 : (K ++ F).Perm (X ++ (K2 ++ F)) := by
      refine (List.Perm.append_right F p).trans ?_
      rw [← List.append_assoc]
      exact List.perm_append_comm.append_right F
    exact (s'.perm p2).sub (List.sublist_append_right _ _)
  rcases h st F s with ⟨a, K, st', e, ⟨K2, X, p, q⟩, s'⟩ | ⟨c, fs, K, st', e, ⟨K2, X, p, q⟩, s'⟩
  · exact .inl ⟨a, K2, st', e, q, fin p s'⟩
  · exact .inr ⟨c, fs, K2, st', e, q, fin p s'⟩
end
section
variable {B H R : HL} {c : Ctx} {s : Env} {N K C : Env → HL → Prop} {T : Val → HL → Prop} {E : XT}
def WES (B : HL) (c : Ctx) (x : S) (s : Env) (H : HL) (N : Env → HL → Prop) (T : Val → HL → Prop) (K C : Env → HL → Prop) (E : XT) : Prop := WE B (exec c x s) H (post N T K C) E
def WEs (B : HL) (c : Ctx) (x : Ss) (s : Env) (H : HL) (N : Env → HL → Prop) (T : Val → HL → Prop) (K C : Env → HL → Prop) (E : XT) : Prop := WE B (execs c x s) H (post N T K C) E
theorem wes_mono {N' K' C' : Env → HL → Prop} {T' : Val → HL → Prop} {E' : XT} {x : Ss} (h : WEs B c x s H N' T' K' C' E') (n : ∀ s H, N' s H → N s H) (t : ∀ v H, T' v H → T v H) (k : ∀ s H, K' s H → K s H) (cc : ∀ s H, C' s H → C s H) (ee : ∀ k fs H, E' k fs H → E k fs H) : WEs B c x s H N T K C E :=
  we_mono h (fun fl H p => by
    cases fl
    · exact n _ _ p
    · exact t _ _ p
    · exact k _ _ p
    · exact cc _ _ p) ee
theorem es_leaf {x : S} (h : WS B c x s H N T K C) : WES B c x s H N T K C E := we_wp h
theorem es_nil (n : N s H) : WEs B c .nil s H N T K C E := we_wp (ss_nil n)
theorem es_cons {x : S} {r : Ss} (h : WES B c x s H (fun s1 H1 => WEs B c r s1 H1 N T K C E) T K C E) : WEs B c (.cons x r) s H N T K C E := by
  have := we_bind (k := thenF fun s st => execs c r s st) (Q := post N T K C) (we_mono h (fun fl H1 p => by
    cases fl
    · exact p
    · exact we_ok p
    · exact we_ok p
    · exact we_ok p) fun _ _ _ p => p)
  exact we_eq (fun st => by rw [execs] <;> rfl) this
theorem es_cond {t : CL.B} {a b : Ss} (h : WP B (ts c t s) H fun k H1 => Br k (WEs B c a s H1 N T K C E) (WEs B c b s H1 N T K C E)) : WES B c (.cond t a b) s H N T K C E := by
  have := we_bind (k := fun (k : Bool) st => if k then execs c a s st else execs c b s st) (Q := post N T K C) (E := E) (we_wp (wp_noex (wp_mono h fun k H1 q => by
    cases k
    · exact q.2 rfl
    · exact q.1 rfl)))
  exact we_eq (fun st => by rw [exec] <;> rfl) this
theorem es_condX {x : XE} {a b : Ss} (h : WE B (evX c x s) H (fun v H1 => ∃ k, v = .bl k ∧ Br k (WEs B c a s H1 N T K C E) (WEs B c b s H1 N T K C E)) E) : WES B c (.condX x a b) s H N T K C E := by
  have := we_bind (k := fun v st => match v with
    | .bl k => if k then execs c a s st else execs c b s st
    | _ => .fail) (Q := post N T K C) (E := E) (we_mono h (fun v H1 ⟨k, e, q⟩ => by
    subst e
    cases k
    · exact q.2 rfl
    · exact q.1 rfl) fun _ _ _ p => p)
  exact we_eq (fun st => by rw [exec] <;> rfl) this
theorem es_exX {x : XE} (h : WE B (evX c x s) H (fun _ H1 => N s H1) E) : WES B c (.exX x) s H N T K C E := by
  have := we_bind (k := fun _ st => .ok (Fl.nx s) st) (Q := post N T K C) (we_mono h (fun v H1 q => we_ok q) fun _ _ _ p => p)
  exact we_eq (fun st => by rw [exec] <;> rfl) this
theorem es_asX {i : Nat} {x : XE} (h : WE B (evX c x s) H (fun v H1 => N (s.set i (some v)) H1) E) : WES B c (.asX i x) s H N T K C E := by
  have := we_bind (k := fun v st => .ok (Fl.nx (s.set i (some v))) st) (Q := post N T K C) (we_mono h (fun v H1 q => we_ok q) fun _ _ _ p => p)
  exact we_eq (fun st => by rw [exec] <;> rfl) this
theorem es_retX {x : XE} (h : WE B (evX c x s) H T E) : WES B c (.retX x) s H N T K C E := by
  have := we_bind (k := fun v st => .ok (Fl.rt v) st) (Q := post N T K C) (we_mono h (fun v H1 q => we_ok q) fun _ _ _ p => p)
  exact we_eq (fun st => by rw [exec] <;> rfl) this
theorem es_rse0 {k : Nat} (h : c.G.xs k k = true) (hd : 2 ≤ c.dp) (q : E k [(c.G.xf, .int 0)] H) : WES B c (.rse k none) s H N T K C E := we_wx (x_rse0 h hd q)
theorem es_rse1 {k : Nat} {e : CL.E} (h : c.G.xs k k = true) (hd : 2 ≤ c.dp) (q : WP B (ev c e s) H fun v K => ∃ i, v = .int i ∧ E k [(c.G.xf, .int i)] K) : WES B c (.rse k (some e)) s H N T K C E := we_wx (x_rse1 h hd q)
/-! ### loops -/
def WEF (B : HL) (c : Ctx) (t : Tg) (b : Ss) (w : Watch) (xs : List Val) (s : Env) (H : HL) (N : Env → HL → Prop) (T : Val → HL → Prop) (E : XT) : Prop := WE B (forLoop w (onTg t fun s st => execs c b s st) xs s) H (postF N T) E
theorem efor_nil {t : Tg} {b : Ss} {w : Watch} (h : Sees B H w) (n : N s H) : WEF B c t b w [] s H N T E := we_wp (for_nil h n)
theorem efor_cons {t : Tg} {b : Ss} {w : Watch} {x : Val} {xs : List Val} {s1 : Env} (h : Sees B H w) (e : setTg t x s = some s1) (k : WEs B c b s1 H (fun s2 H2 => WEF B c t b w xs s2 H2 N T E) T N (fun s2 H2 => WEF B c t b w xs s2 H2 N T E) E) : WEF B c t b w (x :: xs) s H N T E := fun st F sp => by
  have := we_bind (m := fun st => execs c b s1 st) (k := fun fl st => match fl with
      | .nx s => forLoop w (onTg t fun s st => execs c b s st) xs s st
      | .ct s => forLoop w (onTg t fun s st => execs c b s st) xs s st
      | .bk s => .ok (Fl.nx s) st
      | .rt v => .ok (Fl.rt v) st) (Q := postF N T) (we_mono k (fun fl H1 p => by
        cases fl
        · exact p
        · exact we_ok p
        · exact we_ok p
        · exact p) fun _ _ _ p => p)
  have e2 : forLoop w (onTg t fun s st => execs c b s st) (x :: xs) s st = (execs c b s1 st).bind fun fl st => match fl with
      | .nx s => forLoop w (onTg t fun s st => execs c b s st) xs s st
      | .ct s => forLoop w (onTg t fun s st => execs c b s st) xs s st
      | .bk s => .ok (Fl.nx s) st
      | .rt v => .ok (Fl.rt v) st := by
    rw [forLoop, sees_ok h sp, if_pos rfl, onTg, e]; first | done | rfl
  have r := this st F sp
  rw [e2]
  exact r
theorem es_for {t : Tg} {w : I} {b : Ss} (h : WQ B (evw c w s) H fun xs wt H1 => WEF B c t b wt xs s H1 N T E) : WES B c (.for t w b) s H N T K C E := by
  have := we_bind (k := fun (p : List Val × Watch) st => forLoop p.2 (onTg t fun s st => execs c b s st) p.1 s st) (Q := post N T K C) (E := E) (we_wp (wp_noex (wp_mono h fun p H1 q => we_mono q (fun fl K1 r => by
    cases fl
    · exact r
    · exact r
    · exact r.elim
    · exact r.elim) fun _ _ _ p => p)))
  exact we_eq (fun st => by rw [exec] <;> rfl) this
def WEW (B : HL) (c : Ctx) (t : CL.B) (b : Ss) (n : Nat) (s : Env) (H : HL) (N : Env → HL → Prop) (T : Val → HL → Prop) (E : XT) : Prop := WE B (whlLoop (fun s st => noex (ts c t s st)) (fun s st => execs c b s st) n s) H (postF N T) E
theorem ewhl_step {t : CL.B} {b : Ss} {n : Nat} (h : WP B (ts c t s) H fun k H1 => Br k (WEs B c b s H1 (fun s2 H2 => WEW B c t b n s2 H2 N T E) T N (fun s2 H2 => WEW B c t b n s2 H2 N T E) E) (N s H1)) : WEW B c t b (n + 1) s H N T E := by
  have := we_bind (k := fun (k : Bool) st => if k then (execs c b s st).bind fun fl st => match fl with
      | .nx s => whlLoop (fun s st => noex (ts c t s st)) (fun s st => execs c b s st) n s st
      | .ct s => whlLoop (fun s st => noex (ts c t s st)) (fun s st => execs c b s st) n s st
      | .bk s => .ok (Fl.nx s) st
      | .rt v => .ok (Fl.rt v) st
    else .ok (Fl.nx s) st) (Q := postF N T) (E := E) (we_wp (wp_noex (wp_mono h fun k H1 q => by
      cases k
      · exact we_ok (q.2 rfl)
      · exact we_bind (we_mono (q.1 rfl) (fun fl H1 p => by
          cases fl
          · exact p
          · exact we_ok p
          · exact we_ok p
          · exact p) fun _ _ _ p => p))))
  exact we_eq (fun st => by rw [whlLoop] <;> rfl) this
theorem es_whl {t : CL.B} {b : Ss} (h : WEW B c t b c.fuel s H N T E) : WES B c (.whl t b) s H N T K C E :=
  we_eq (fun st => by rw [exec]) (we_mono h (fun fl K1 r => by
    cases fl
    · exact r
    · exact r
    · exact r.elim
    · exact r.elim) fun _ _ _ p => p)
/-! ### expressions -/
theorem ex_pu {e : CL.E} {Q : Val → HL → Prop} (h : WP B (ev c e s) H Q) : WE B (evX c (.pu e) s) H Q E := we_wp (xe_pu h)
theorem ex_nil {Q : List Val → HL → Prop} (q : Q [] H) : WE B (evXs c .nil s) H Q E := we_wp (xe_nil q)
theorem ex_cons {x : XE} {xs : XEs} {Q : List Val → HL → Prop} (h : WE B (evX c x s) H (fun v H1 => WE B (evXs c xs s) H1 (fun vs H2 => Q (v :: vs) H2) E) E) : WE B (evXs c (.cons x xs) s) H Q E := by
  have := we_bind (k := fun v st => (evXs c xs s st).bind fun vs st => .ok (v :: vs) st) (Q := Q) (we_mono h (fun v H1 q => we_bind (we_mono q (fun vs H2 q => we_ok q) fun _ _ _ p => p)) fun _ _ _ p => p)
  exact we_eq (fun st => by rw [evXs] <;> rfl) this
theorem ex_fn {f : Nat} {xs : XEs} {Q : Val → HL → Prop} (hf : (c.G.fn f).isSome = true) (h : WE B (evXs c xs s) H (fun vs K => WE B (c.call f vs) K Q E) E) : WE B (evX c (.fn f xs) s) H Q E :=
  we_eq (fun st => by rw [evX, if_pos hf]) (we_bind h)
theorem ex_met {a : CL.E} {m : PySem.Str} {xs : XEs} {Q : Val → HL → Prop} (h : WP B (ev c a s) H fun x H1 => ∃ i k fs R f, x = .ref i ∧ Sub H1 [(i, .ins k fs)] R ∧ fs.lookup m = none ∧ c.G.mt k m = some f ∧ WE B (evXs c xs s) H1 (fun vs H2 => WE B (c.call f (.ref i :: vs)) H2 Q E) E) : WE B (evX c (.met a m xs) s) H Q E := by
  have := we_bind (k := fun x st => match x with
    | .ref i => match st.m i with
      | some (.ins k fs) => if fs.lookup m = none then match c.G.mt k m with
        | some f => (evXs c xs s st).bind fun vs st => c.call f (.ref i :: vs) st
        | none => .fail else .fail
      | _ => .fail
    | _ => .fail) (Q := Q) (E := E) (we_wp (wp_noex (wp_mono h fun x H1 ⟨i, k, fs, R, f, e1, u, e2, e3, q⟩ => fun st F sp => by
      subst e1
      have r := we_bind (k := fun vs st => c.call f (.ref i :: vs) st) q st F sp
      simp only [sub_at u sp, e2, if_true, e3]
      exact r)))
  exact we_eq (fun st => by rw [evX] <;> rfl) this
theorem ex_tup {xs : XEs} {Q : Val → HL → Prop} (h : WE B (evXs c xs s) H (fun vs K => vs.length ≤ 1000000 ∧ Q (.tup vs) K) E) : WE B (evX c (.tup xs) s) H Q E := by
  have := we_bind (k := fun vs st => mkT vs st) (Q := Q) (we_mono h (fun vs K ⟨h1, q⟩ => we_wp (wp_of (fun st F sp => by unfold mkT; rw [if_pos (fits_small h1)]) q)) fun _ _ _ p => p)
  exact we_eq (fun st => by rw [evX] <;> rfl) this
theorem ex_cmp {o : Cop} {x y : XE} {Q : Val → HL → Prop} (h : WE B (evX c x s) H (fun u H1 => WE B (evX c y s) H1 (fun v H2 => WP B (cop c.G.kt o u v) H2 Q) E) E) : WE B (evX c (.cmp o x y) s) H Q E := by
  have := we_bind (k := fun u st => (evX c y s st).bind fun v st => noex (cop c.G.kt o u v st)) (Q := Q) (we_mono h (fun u H1 q => we_bind (we_mono q (fun v H2 q => we_wp (wp_noex q)) fun _ _ _ p => p)) fun _ _ _ p => p)
  exact we_eq (fun st => by rw [evX] <;> rfl) this
theorem ex_app {a : CL.E} {x : XE} {Q : Val → HL → Prop} (h : WP B (ev c a s) H fun o H1 => ∃ i xs R, o = .ref i ∧ Sub H1 [(i, .lst xs)] R ∧ WE B (evX c x s) H1 (fun v H2 => WP B (bmt .append (.ref i) [v]) H2 Q) E) : WE B (evX c (.app a x) s) H Q E := by
  have := we_bind (k := fun o st => match o with
    | .ref i => match st.m i with
      | some (.lst _) => (evX c x s st).bind fun v st => noex (bmt .append (.ref i) [v] st)
      | _ => .fail
    | _ => .fail) (Q := Q) (E := E) (we_wp (wp_noex (wp_mono h fun o H1 ⟨i, xs, R, e1, u, q⟩ => fun st F sp => by
      subst e1
      have r := we_bind (k := fun v st => noex (bmt .append (.ref i) [v] st)) (we_mono q (fun v H2 q => we_wp (E := E) (wp_noex q)) fun _ _ _ p => p) st F sp
      simp only [sub_at u sp]
      exact r)))
  exact we_eq (fun st => by rw [evX] <;> rfl) this
theorem s_tryK {dst : Option Nat} {x : XE} {k n w : Nat} (hk : c.G.xs k k = true) (h : WE B (evX c x s) H (fun v H1 => N (dstS dst s v) H1) (fun k' fs H1 => c.G.xs k' k = true ∧ c.G.xs k' k' = true ∧ ∀ p, N ((s.set w (some (.ref p))).set n none) ((p, .exc k' fs) :: H1))) : WS B c (.tryK dst x k n w) s H N T K C := fun st F sp => by
  rcases h st F sp with ⟨v, K1, st', e, q, s'⟩ | ⟨k', fs, K1, st', e, ⟨e1, e2, q⟩, s'⟩
  · refine ⟨.nx (dstS dst s v), K1, st', ?_, q, s'⟩
    rw [exec, if_pos hk, e]
    cases dst <;> rfl
  · refine ⟨.nx ((s.set w (some (.ref st'.n))).set n none), _, st'.newR (.exc k' fs), ?_, q st'.n, s'.newR⟩
    rw [exec, if_pos hk, e]
    simp only
    rw [e1, e2, Bool.true_and, if_pos rfl]
end
section
variable {B H R : HL} {G : Prog} {fuel d : Nat} {Q : Val → HL → Prop} {E : XT}
theorem we_callB {f np nl : Nat} {body : Ss} {vs : List Val} (e : G.fn f = some ⟨np, nl, body⟩) (hn : vs.length = np) (h : WEs B (cxN G fuel d) body (vs.map some ++ List.replicate (nl - np) none) H (fun _ K => Conv Q .non K) (Conv Q) (fun _ _ => False) (fun _ _ => False) (ConvX E)) : WE B (callN G fuel (d + 1) f vs) H Q E := by
  refine we_conv (we_eq (m := runF (cxN G fuel d) ⟨np, nl, body⟩ vs) (fun st => by rw [callN_succ, e]) ?_)
  have := we_bind (k := endF) (Q := Conv Q) (we_mono h (fun fl H1 p => by
    cases fl
    · exact we_ok p
    · exact we_ok p
    · exact p.elim
    · exact p.elim) fun _ _ _ p => p)
  exact we_eq (fun st => by rw [runF, if_pos hn]) this
theorem ex_fnN {f : Nat} {xs : XEs} {s : Env} (hf : (G.fn f).isSome = true) (h : WE B (evXs (cxN G fuel d) xs s) H (fun vs K => WE B (callN G fuel d f vs) K Q E) E) : WE B (evX (cxN G fuel d) (.fn f xs) s) H Q E := ex_fn hf h
theorem ex_metN {a : CL.E} {m : PySem.Str} {xs : XEs} {s : Env} (h : WP B (ev (cxN G fuel d) a s) H fun x H1 => ∃ i k fs R f, x = .ref i ∧ Sub H1 [(i, .ins k fs)] R ∧ fs.lookup m = none ∧ G.mt k m = some f ∧ WE B (evXs (cxN G fuel d) xs s) H1 (fun vs H2 => WE B (callN G fuel d f (.ref i :: vs)) H2 Q E) E) : WE B (evX (cxN G fuel d) (.met a m xs) s) H Q E := ex_met h
end
end CL

/-! CL, part u: middles as plain data, and what a run of one does -/
namespace Md
open CL
inductive Kd where
  | num | tru | rc (r : PySem.Str) | row (k : Kd) | fn (ps : List Kd) (k : Kd)
mutual
def Kd.v : Kd → Val
  | .num => .tup [.str "number"]
  | .tru => .tup [.str "truth"]
  | .rc r => .tup [.str "record", .str r]
  | .row k => .tup [.str "row", k.v]
  | .fn ps k => .tup [.str "fun", .tup (Kd.vs ps), k.v]
def Kd.vs : List Kd → List Val
  | [] => []
  | k :: r => k.v :: Kd.vs r
end
inductive Op where
  | number | truth | add | sub | mul | lt | eq | and | or | not | long | close | div | rem | cell | get | store | set | make | fill | call | ask | tell | tick
  deriving DecidableEq
def Op.s : Op → PySem.Str
  | .number => "number" | .truth => "truth" | .add => "+" | .sub => "-" | .mul => "*" | .lt => "<" | .eq => "=" | .and => "and" | .or => "or" | .not => "not" | .long => "long" | .close => "close"
  | .div => "div" | .rem => "rem" | .cell => "cell" | .get => "get" | .store => "store" | .set => "set" | .make => "make" | .fill => "fill" | .call => "call" | .ask => "ask" | .tell => "tell" | .tick => "tick"
inductive More where
  | no | num (n : Int) | tru (b : Bool) | nm (f : PySem.Str)
@[reducible] def More.v : More → Val
  | .no => .tup []
  | .num n => .tup [.int n]
  | .tru b => .tup [.bl b]
  | .nm f => .tup [.str f]
@[reducible] def oI : Option Int → Val
  | none => .non
  | some x => .int x
@[reducible] def oK : Option Kd → Val
  | none => .non
  | some k => k.v
structure Row where
  x : Option Int
  kd : Option Kd
  op : Op
  args : List Int
  more : More
  line : Int
abbrev intsV (xs : List Int) : Val := .tup (xs.map .int)
abbrev Row.v (r : Row) : Val := .tup [oI r.x, oK r.kd, .str r.op.s, intsV r.args, r.more.v, .int r.line]
inductive End where
  | jump (b : Nat) (args : List Int) | branch (x : Int) (b c : Nat) | give (x : Int) | fail (w : PySem.Str) (l : Int)
@[reducible] def End.v : End → Val
  | .jump b args => .tup [.str "jump", .int b, intsV args]
  | .branch x b c => .tup [.str "branch", .int x, .int b, .int c]
  | .give x => .tup [.str "give", .int x]
  | .fail w l => .tup [.str "fail", .str w, .int l]
abbrev parV (p : Int × Kd) : Val := .tup [.int p.1, p.2.v]
structure Block where
  params : List (Int × Kd)
  rows : List Row
  en : End
abbrev Block.v (b : Block) : Val := .tup [.tup (b.params.map parV), .tup (b.rows.map Row.v), b.en.v]
structure Fun where
  name : PySem.Str
  kd : Kd
  blocks : List Block
abbrev Fun.v (f : Fun) : Val := .tup [.str f.name, f.kd.v, .tup (f.blocks.map Block.v)]
structure Mid where
  recs : List (PySem.Str × List Kd)
  funs : List Fun
abbrev recV (r : PySem.Str × List Kd) : Val := .tup [.str r.1, .tup (Kd.vs r.2)]
abbrev Mid.v (m : Mid) : Val := .tup [.tup (m.recs.map recV), .tup (m.funs.map Fun.v)]

/-! ### the run -/
/-- a value: a number, a truth, a thing by its number -/
inductive MV where
  | int (i : Int) | bl (b : Bool) | ref (n : Nat)
  deriving DecidableEq
inductive Thing where
  | cells (vs : List MV) | clo (f : PySem.Str) (vs : List MV)
  deriving DecidableEq
/-- what a row does -/
inductive Act where
  | give (v : MV) | new (t : Thing) | fault (w : PySem.Str) | tick | tell (v : MV) | upd (n : Nat) (t : Thing) | call (f : PySem.Str) (vs : List MV)
def br (n : Int) : Int := (n + 2147483648).fmod 4294967296 - 2147483648
def two (op : Op) (a b : Int) : Option Act := match op with
  | .add => some (.give (.int (br (a + b))))
  | .sub => some (.give (.int (br (a - b))))
  | .mul => if mulOk a b then some (.give (.int (br (a * b)))) else none
  | .lt => some (.give (.bl (decide (a < b))))
  | .eq => some (.give (.bl (decide (a = b))))
  | .div => if b = 0 then some (.fault "nought") else if b.natAbs < 18446744073709551616 then some (.give (.int (br (a.fdiv b)))) else none
  | .rem => if b = 0 then some (.fault "nought") else some (.give (.int (a.fmod b)))
  | _ => none
def act2 (op : Op) (more : More) (vs : List MV) : Option Act := match more, vs with
  | .no, [.int a, .int b] => two op a b
  | _, _ => none
def onCells (ts : List Thing) (n : Nat) (f : List MV → Option Act) : Option Act := match ts[n]? with
  | some (.cells ws) => f ws
  | _ => none
def actO (ts : List Thing) (op : Op) (more : More) (vs : List MV) : Option Act := match op with
  | .number => match more, vs with
    | .num n, [] => some (.give (.int n))
    | _, _ => none
  | .truth => match more, vs with
    | .tru b, [] => some (.give (.bl b))
    | _, _ => none
  | .not => match more, vs with
    | .no, [.bl a] => some (.give (.bl (!a)))
    | _, _ => none
  | .and => match more, vs with
    | .no, [.bl a, .bl b] => some (.give (.bl (a && b)))
    | _, _ => none
  | .or => match more, vs with
    | .no, [.bl a, .bl b] => some (.give (.bl (a || b)))
    | _, _ => none
  | .long => match more, vs with
    | .no, [.ref n] => onCells ts n fun ws => some (.give (.int ws.length))
    | _, _ => none
  | .close => match more, vs with
    | .nm f, vs => some (.new (.clo f vs))
    | _, _ => none
  | .cell => match more, vs with
    | .num k, [.ref n] => onCells ts n fun ws => if 0 ≤ k then (ws[k.toNat]?).map .give else none
    | _, _ => none
  | .get => match more, vs with
    | .no, [.ref n, .int i] => onCells ts n fun ws => if 0 ≤ i ∧ i < ws.length then (ws[i.toNat]?).map .give else some (.fault "place")
    | _, _ => none
  | .set => match more, vs with
    | .no, [.ref n, .int i, v] => onCells ts n fun ws => some (if 0 ≤ i ∧ i < ws.length then .upd n (.cells (ws.set i.toNat v)) else .fault "place")
    | _, _ => none
  | .store => match more, vs with
    | .num k, [.ref n, v] => onCells ts n fun ws => if 0 ≤ k ∧ k < ws.length then some (.upd n (.cells (ws.set k.toNat v))) else none
    | _, _ => none
  | .make => match more, vs with
    | .nm _, vs => some (.new (.cells vs))
    | _, _ => none
  | .fill => match more, vs with
    | .no, [.int k, v] => some (if 0 ≤ k ∧ k ≤ 60 then .new (.cells (List.replicate k.toNat v)) else .fault "great")
    | _, _ => none
  | .call => match more, vs with
    | .nm f, vs => some (.call f vs)
    | _, _ => none
  | .ask => match more, vs with
    | .no, .ref n :: vs => match ts[n]? with
      | some (.clo f ws) => some (.call f (ws ++ vs))
      | _ => none
    | _, _ => none
  | .tell => match more, vs with
    | .no, [v] => some (.tell v)
    | _, _ => none
  | .tick => match more, vs with
    | .no, [] => some .tick
    | _, _ => none
  | op => act2 op more vs
abbrev Ev := List (Int × MV)
def lookE (e : Ev) (x : Int) : Option MV := (e.find? fun kv => decide (kv.1 = x)).map (·.2)
def putE (e : Ev) (x : Int) (v : MV) : Ev := if e.any (fun kv => decide (kv.1 = x)) then e.map fun kv => if kv.1 = x then (kv.1, v) else kv else e ++ [(x, v)]
def looks (e : Ev) : List Int → Option (List MV)
  | [] => some []
  | x :: r => match lookE e x, looks e r with
    | some v, some vs => some (v :: vs)
    | _, _ => none
def binds (e : Ev) : List (Int × Kd) → List MV → Ev
  | p :: ps, v :: vs => binds (putE e p.1 v) ps vs
  | _, _ => e
structure Fr where
  blocks : List Block
  env : Ev
  tgt : Option Int
  block : Block
  at' : Nat
structure MS where
  things : List Thing
  told : List MV
  ticks : Int
  frames : List Fr
inductive Out where
  | done (v : MV) | fault (w : PySem.Str) (l : Int) | tired
def Fr.enter (f : Fr) (b : Nat) (vs : List MV) : Option Fr := match f.blocks[b]? with
  | some k => some { f with env := binds f.env k.params vs, block := k, at' := 0 }
  | none => none
def begin_ (m : Mid) (f : PySem.Str) (vs : List MV) (t : Option Int) : Option Fr := match m.funs.find? fun g => decide (g.name = f) with
  | some g => match g.blocks[0]? with
    | some k => some ⟨g.blocks, binds [] k.params vs, t, k, 0⟩
    | none => none
  | none => none
/-- a row's act is done; fr is the frame whose row it was -/
def actDo (m : Mid) (s : MS) (fr : Fr) (rest : List Fr) (x : Option Int) (line : Int) (a : Act) : Option (MS × Option Out) := match a, x with
  | .give v, some x => some ({ s with frames := { fr with env := putE fr.env x v } :: rest }, none)
  | .new t, some x => some ({ s with things := s.things ++ [t], frames := { fr with env := putE fr.env x (.ref s.things.length) } :: rest }, none)
  | .fault w, _ => some ({ s with frames := fr :: rest }, some (.fault w line))
  | .tick, _ => if s.ticks = 0 then some ({ s with frames := fr :: rest }, some .tired) else some ({ s with ticks := s.ticks - 1, frames := fr :: rest }, none)
  | .tell v, _ => some ({ s with told := s.told ++ [v], frames := fr :: rest }, none)
  | .upd n t, _ => some ({ s with things := s.things.set n t, frames := fr :: rest }, none)
  | .call f vs, x => (begin_ m f vs x).map fun g => ({ s with frames := g :: fr :: rest }, none)
  | _, _ => none
def endDo (s : MS) (fr : Fr) (rest : List Fr) (e : End) : Option (MS × Option Out) := match e with
  | .give x => match lookE fr.env x with
    | some v => match rest with
      | [] => some ({ s with frames := [] }, some (.done v))
      | g :: gs => match fr.tgt with
        | some t => some ({ s with frames := { g with env := putE g.env t v } :: gs }, none)
        | none => none
    | none => none
  | .fail w l => some ({ s with frames := fr :: rest }, some (.fault w l))
  | .jump b args => match looks fr.env args with
    | some vs => (fr.enter b vs).map fun f => ({ s with frames := f :: rest }, none)
    | none => none
  | .branch x b c => match lookE fr.env x with
    | some (.bl k) => (fr.enter (if k then b else c) []).map fun f => ({ s with frames := f :: rest }, none)
    | _ => none
def step (m : Mid) (s : MS) : Option (MS × Option Out) := match s.frames with
  | [] => none
  | fr :: rest => match fr.block.rows[fr.at']? with
    | some r => match looks fr.env r.args with
      | some vs => match actO s.things r.op r.more vs with
        | some a => actDo m s { fr with at' := fr.at' + 1 } rest r.x r.line a
        | none => none
      | none => none
    | none => endDo s fr rest fr.block.en
/-- so many steps, to the end -/
inductive Runs (m : Mid) : Nat → MS → MS → Out → Prop
  | last {s s' : MS} {o : Out} : step m s = some (s', some o) → Runs m 1 s s' o
  | more {n : Nat} {s s1 s' : MS} {o : Out} : step m s = some (s1, none) → Runs m n s1 s' o → Runs m (n + 1) s s' o
end Md

/-! CL, part v: a run's values against those of the store -/
namespace Md
open CL
inductive Rel (φ : List Nat) : MV → Val → Prop
  | int (i : Int) : Rel φ (.int i) (.int i)
  | bl (b : Bool) : Rel φ (.bl b) (.bl b)
  | ref {n a : Nat} (h : φ[n]? = some a) : Rel φ (.ref n) (.ref a)
inductive Rels (φ : List Nat) : List MV → List Val → Prop
  | nil : Rels φ [] []
  | cons {v : MV} {w : Val} {vs : List MV} {ws : List Val} (h : Rel φ v w) (r : Rels φ vs ws) : Rels φ (v :: vs) (w :: ws)
inductive EnvR (φ : List Nat) : Ev → List (L2.Key × Val) → Prop
  | nil : EnvR φ [] []
  | cons {x : Int} {v : MV} {w : Val} {e : Ev} {k : List (L2.Key × Val)} (h : Rel φ v w) (r : EnvR φ e k) : EnvR φ ((x, v) :: e) ((.inl x, w) :: k)
section
variable {φ ψ : List Nat}
theorem Rel.up {v : MV} {w : Val} (h : Rel φ v w) : Rel (φ ++ ψ) v w := by
  cases h with
  | int => exact .int _
  | bl => exact .bl _
  | ref h =>
    refine .ref ?_
    rw [List.getElem?_append_left (List.getElem?_eq_some_iff.mp h).1]; exact h
theorem Rels.up : ∀ {vs : List MV} {ws : List Val}, Rels φ vs ws → Rels (φ ++ ψ) vs ws
  | _, _, .nil => .nil
  | _, _, .cons h r => .cons h.up r.up
theorem EnvR.up : ∀ {e : Ev} {k : List (L2.Key × Val)}, EnvR φ e k → EnvR (φ ++ ψ) e k
  | _, _, .nil => .nil
  | _, _, .cons h r => .cons h.up r.up
theorem Rels.length : ∀ {vs : List MV} {ws : List Val}, Rels φ vs ws → ws.length = vs.length
  | _, _, .nil => rfl
  | _, _, .cons h r => by rw [List.length_cons, List.length_cons, r.length]
theorem Rels.get : ∀ {vs : List MV} {ws : List Val} {i : Nat} {v : MV}, Rels φ vs ws → vs[i]? = some v → ∃ w, ws[i]? = some w ∧ Rel φ v w
  | _, _, _, _, .nil, e => by simp at e
  | _, _, 0, _, .cons h r, e => by simp at e; subst e; exact ⟨_, rfl, h⟩
  | _, _, i + 1, _, .cons h r, e => by
    obtain ⟨w, e1, e2⟩ := r.get (i := i) (by simpa using e)
    exact ⟨w, by simpa using e1, e2⟩
theorem Rels.append : ∀ {vs vs' : List MV} {ws ws' : List Val}, Rels φ vs ws → Rels φ vs' ws' → Rels φ (vs ++ vs') (ws ++ ws')
  | _, _, _, _, .nil, h => h
  | _, _, _, _, .cons h r, k => .cons h (r.append k)
theorem Rels.set : ∀ {vs : List MV} {ws : List Val} (i : Nat) {v : MV} {w : Val}, Rels φ vs ws → Rel φ v w → Rels φ (vs.set i v) (ws.set i w)
  | _, _, _, _, _, .nil, _ => .nil
  | _, _, 0, _, _, .cons h r, k => .cons k r
  | _, _, i + 1, _, _, .cons h r, k => .cons h (r.set i k)
theorem Rels.rep (n : Nat) {v : MV} {w : Val} (h : Rel φ v w) : Rels φ (List.replicate n v) (List.replicate n w) := by
  induction n with
  | zero => exact .nil
  | succ n ih => exact .cons h ih
theorem EnvR.length : ∀ {e : Ev} {k : List (L2.Key × Val)}, EnvR φ e k → k.length = e.length
  | _, _, .nil => rfl
  | _, _, .cons h r => by rw [List.length_cons, List.length_cons, r.length]
theorem inl_dec (x y : Int) : decide ((Sum.inl x : L2.Key) = Sum.inl y) = decide (x = y) := by
  by_cases h : x = y
  · subst h; rw [decide_eq_true rfl, decide_eq_true rfl]
  · rw [decide_eq_false h, decide_eq_false (fun e => h (Sum.inl.inj e))]
theorem EnvR.look : ∀ {e : Ev} {k : List (L2.Key × Val)} {x : Int} {v : MV}, EnvR φ e k → lookE e x = some v → ∃ w, CL.look k (.inl x) = some w ∧ Rel φ v w
  | _, _, _, _, .nil, e => by simp [lookE] at e
  | _, _, x, _, .cons (x := y) h r, e => by
    unfold lookE at e
    unfold CL.look
    rw [List.find?_cons] at e ⊢
    simp only [inl_dec] at e ⊢
    cases hd : decide (y = x) with
    | true =>
      rw [hd] at e; simp at e; subst e
      exact ⟨_, rfl, h⟩
    | false =>
      rw [hd] at e
      exact r.look e
theorem EnvR.any : ∀ {e : Ev} {k : List (L2.Key × Val)} (x : Int), EnvR φ e k → k.any (fun kv => decide (kv.1 = .inl x)) = e.any (fun kv => decide (kv.1 = x))
  | _, _, x, .nil => rfl
  | _, _, x, .cons h r => by rw [List.any_cons, List.any_cons, inl_dec, r.any x]
theorem EnvR.map : ∀ {e : Ev} {k : List (L2.Key × Val)} (x : Int) {v : MV} {w : Val}, EnvR φ e k → Rel φ v w → EnvR φ (e.map fun kv => if kv.1 = x then (kv.1, v) else kv) (k.map fun kv => if kv.1 = .inl x then (kv.1, w) else kv)
  | _, _, x, _, _, .nil, _ => .nil
  | _, _, x, _, _, .cons (x := y) h r, q => by
    rw [List.map_cons, List.map_cons]
    by_cases hd : y = x
    · subst hd
      rw [if_pos rfl, if_pos rfl]
      exact .cons q (r.map y q)
    · rw [if_neg hd, if_neg (fun e => hd (Sum.inl.inj e))]
      exact .cons h (r.map x q)
theorem EnvR.snoc : ∀ {e : Ev} {k : List (L2.Key × Val)} {x : Int} {v : MV} {w : Val}, EnvR φ e k → Rel φ v w → EnvR φ (e ++ [(x, v)]) (k ++ [(.inl x, w)])
  | _, _, _, _, _, .nil, q => .cons q .nil
  | _, _, _, _, _, .cons h r, q => .cons h (r.snoc q)
theorem EnvR.put {e : Ev} {k : List (L2.Key × Val)} (x : Int) {v : MV} {w : Val} (h : EnvR φ e k) (q : Rel φ v w) : EnvR φ (putE e x v) (CL.put k (.inl x) w) := by
  unfold putE CL.put
  rw [h.any x]
  split
  · exact h.map x q
  · exact h.snoc q
/-- values of names, as told -/
def looksV (k : List (L2.Key × Val)) : List Int → Option (List Val)
  | [] => some []
  | x :: r => match CL.look k (.inl x), looksV k r with
    | some v, some vs => some (v :: vs)
    | _, _ => none
theorem EnvR.looks {e : Ev} {k : List (L2.Key × Val)} (h : EnvR φ e k) : ∀ {xs : List Int} {vs : List MV}, looks e xs = some vs → ∃ ws, looksV k xs = some ws ∧ Rels φ vs ws
  | [], vs, q => by cases q; exact ⟨[], rfl, .nil⟩
  | x :: r, vs, q => by
    unfold Md.looks at q
    cases e1 : lookE e x with
    | none => rw [e1] at q; cases q
    | some v =>
      cases e2 : Md.looks e r with
      | none => rw [e1, e2] at q; cases q
      | some us =>
        rw [e1, e2] at q; cases q
        obtain ⟨w, h1, h2⟩ := h.look e1
        obtain ⟨ws, h3, h4⟩ := h.looks e2
        exact ⟨w :: ws, by unfold looksV; rw [h1, h3], .cons h2 h4⟩
def lkV (k : List (L2.Key × Val)) : Val → Option Val
  | .int x => CL.look k (.inl x)
  | _ => none
theorem looksV_map {k : List (L2.Key × Val)} : ∀ {xs : List Int} {ws : List Val}, looksV k xs = some ws → (xs.map Val.int).filterMap (lkV k) = ws
  | [], ws, q => by cases q; rfl
  | x :: r, ws, q => by
    unfold looksV at q
    cases e1 : CL.look k (.inl x) with
    | none => rw [e1] at q; cases q
    | some v =>
      cases e2 : looksV k r with
      | none => rw [e1, e2] at q; cases q
      | some us =>
        rw [e1, e2] at q; cases q
        rw [List.map_cons, List.filterMap_cons]
        simp only [lkV, e1, looksV_map e2]
theorem looksV_some {k : List (L2.Key × Val)} : ∀ {xs : List Int} {ws : List Val} {x : Int}, looksV k xs = some ws → x ∈ xs → ∃ v, CL.look k (.inl x) = some v
  | [], _, _, _, h => by cases h
  | y :: r, ws, x, q, h => by
    unfold looksV at q
    cases e1 : CL.look k (.inl y) with
    | none => rw [e1] at q; cases q
    | some v =>
      cases e2 : looksV k r with
      | none => rw [e1, e2] at q; cases q
      | some us =>
        rcases List.mem_cons.mp h with rfl | h
        · exact ⟨v, e1⟩
        · exact looksV_some e2 h
theorem looksV_cut {k : List (L2.Key × Val)} : ∀ {xs : List Int} {ws : List Val} (n : Nat), looksV k xs = some ws → looksV k (xs.take n) = some (ws.take n) ∧ looksV k (xs.drop n) = some (ws.drop n)
  | [], _, n, q => by cases q; simp [looksV]
  | y :: r, ws, 0, q => by simp [looksV, q]
  | y :: r, ws, n + 1, q => by
    unfold looksV at q
    cases e1 : CL.look k (.inl y) with
    | none => rw [e1] at q; cases q
    | some v =>
      cases e2 : looksV k r with
      | none => rw [e1, e2] at q; cases q
      | some us =>
        rw [e1, e2] at q; cases q
        obtain ⟨h1, h2⟩ := looksV_cut n e2
        simp only [List.take_succ_cons, List.drop_succ_cons, looksV, e1, h1, h2, and_self]
end
end Md
namespace CL
theorem put_len {κ : Type} [DecidableEq κ] (kvs : List (κ × Val)) (k : κ) (v : Val) : (put kvs k v).length ≤ kvs.length + 1 := by
  unfold put
  split
  · rw [List.length_map]; omega
  · rw [List.length_append]; simp
end CL
namespace CL
theorem ixN_nat {n i : Nat} (h : i < n) : L2.ixN n (i : Int) = some i := by
  unfold L2.ixN
  rw [if_pos (by omega), if_pos (by omega), Int.toNat_natCast]
theorem ixN_int {n : Nat} {i : Int} (h : 0 ≤ i ∧ i < n) : L2.ixN n i = some i.toNat := by
  unfold L2.ixN
  rw [if_pos h.1, if_pos h.2]
theorem atI_nat {α : Type} {xs : List α} {i : Nat} {x : α} (h : xs[i]? = some x) : L2.atI xs (i : Int) = some x := by
  unfold L2.atI
  rw [ixN_nat (List.getElem?_eq_some_iff.mp h).1]; exact h
theorem atI_int {α : Type} {xs : List α} {i : Int} {x : α} (h0 : 0 ≤ i) (h : xs[i.toNat]? = some x) : L2.atI xs i = some x := by
  have := atI_nat h
  rwa [Int.toNat_of_nonneg h0] at this
theorem atI_last {α : Type} {xs : List α} {x : α} : L2.atI (xs ++ [x]) (-1) = some x := by
  unfold L2.atI L2.ixN
  have hl : (xs ++ [x]).length = xs.length + 1 := by simp
  rw [if_neg (by omega), if_pos (by omega), hl]
  have : (-1 + ((xs.length + 1 : Nat) : Int)).toNat = xs.length := by omega
  simp only [Option.bind, this]
  simp
end CL
namespace CL
theorem cut_from {α : Type} (xs : List α) (n : Nat) : cutL xs (some (n : Int)) none = xs.drop n := by
  unfold cutL
  rw [HT.sIx_nat, HT.sIx_none]
  by_cases h : n ≤ xs.length
  · rw [Nat.min_eq_left h]
    exact List.take_of_length_le (by simp)
  · rw [Nat.min_eq_right (by omega), List.drop_of_length_le (Nat.le_refl _), List.drop_of_length_le (by omega)]
    simp
theorem cut_to {α : Type} (xs : List α) (n : Nat) : cutL xs none (some (n : Int)) = xs.take n := by
  unfold cutL
  rw [HT.sIx_nat, HT.sIx_none, List.drop_zero, Nat.sub_zero]
  by_cases h : n ≤ xs.length
  · rw [Nat.min_eq_left h]
  · rw [Nat.min_eq_right (by omega), List.take_of_length_le (Nat.le_refl _), List.take_of_length_le (by omega)]
end CL
namespace Md
theorem act2_inv {op : Op} {more : More} {vs : List MV} {a : Act} (h : act2 op more vs = some a) : more = .no ∧ ∃ x y, vs = [.int x, .int y] ∧ two op x y = some a := by
  unfold act2 at h
  split at h
  · exact ⟨rfl, _, _, rfl, h⟩
  · cases h
theorem onCells_inv {ts : List Thing} {n : Nat} {f : List MV → Option Act} {a : Act} (h : onCells ts n f = some a) : ∃ ws, ts[n]? = some (.cells ws) ∧ f ws = some a := by
  unfold onCells at h
  split at h
  · rename_i ws e; exact ⟨ws, e, h⟩
  · cases h
end Md
namespace Md
theorem two_new {op : Op} {x y : Int} {t : Thing} (h : two op x y = some (.new t)) : False := by
  cases op <;> simp only [two] at h <;> try cases h
  · split at h <;> cases h
  · split at h
    · cases h
    · split at h <;> cases h
  · split at h <;> cases h
end Md
namespace Md
theorem two_give {op : Op} {x y : Int} {a : Act} (h : two op x y = some a) (hop : (op == .div || op == .rem) = false) : (∃ v, a = .give v) ∨ ∃ t, a = .new t := by
  cases op <;> simp only [two] at h <;> try cases h
  · exact .inl ⟨_, rfl⟩
  · exact .inl ⟨_, rfl⟩
  · split at h <;> cases h; exact .inl ⟨_, rfl⟩
  · exact .inl ⟨_, rfl⟩
  · exact .inl ⟨_, rfl⟩
  · cases hop
  · cases hop
end Md
namespace CL
theorem atI_zero {α : Type} {x : α} {xs : List α} : L2.atI (x :: xs) 0 = some x := atI_nat (i := 0) rfl
end CL

/-! CL, part w: what of a run stays within bounds -/
namespace Md
theorem putE_len (e : Ev) (x : Int) (v : MV) : (putE e x v).length ≤ e.length + 1 := by
  unfold putE
  split
  · rw [List.length_map]; omega
  · rw [List.length_append]; simp
theorem binds_len : ∀ (ps : List (Int × Kd)) (vs : List MV) (e : Ev), (binds e ps vs).length ≤ e.length + ps.length
  | [], _, e => by unfold binds; simp
  | p :: ps, [], e => by unfold binds; simp
  | p :: ps, v :: vs, e => by
    unfold binds
    have := binds_len ps vs (putE e p.1 v)
    have := putE_len e p.1 v
    simp only [List.length_cons]; omega
theorem looks_len {e : Ev} : ∀ {xs : List Int} {vs : List MV}, looks e xs = some vs → vs.length = xs.length
  | [], vs, h => by cases h; rfl
  | x :: r, vs, h => by
    unfold looks at h
    cases e1 : lookE e x with
    | none => rw [e1] at h; cases h
    | some v =>
      cases e2 : looks e r with
      | none => rw [e1, e2] at h; cases h
      | some us =>
        rw [e1, e2] at h; cases h
        rw [List.length_cons, List.length_cons, looks_len e2]
structure Small (m : Mid) (P : Nat) : Prop where
  P1 : 1 ≤ P
  ne : ∀ g ∈ m.funs, g.blocks ≠ []
  par : ∀ g ∈ m.funs, ∀ k ∈ g.blocks, k.params.length ≤ P
  row : ∀ g ∈ m.funs, ∀ k ∈ g.blocks, ∀ r ∈ k.rows, r.args.length ≤ 1000
  jmp : ∀ g ∈ m.funs, ∀ k ∈ g.blocks, ∀ b args, k.en = .jump b args → args.length ≤ 1000
def FrOk (m : Mid) (P n : Nat) (f : Fr) : Prop := f.env.length + n * P + P ≤ 800000 ∧ ∃ g ∈ m.funs, f.blocks = g.blocks ∧ f.block ∈ g.blocks
structure Fits (m : Mid) (P n : Nat) (s : MS) : Prop where
  told : s.told.length + n ≤ 900000
  frames : s.frames.length + n ≤ 900000
  frs : ∀ f ∈ s.frames, FrOk m P n f
  clo : ∀ (i : Nat) f us, s.things[i]? = some (.clo f us) → us.length ≤ 1000
theorem FrOk.less {m : Mid} {P n : Nat} {f : Fr} (h : FrOk m P (n + 1) f) : FrOk m P n f := by
  obtain ⟨h1, h2⟩ := h
  refine ⟨?_, h2⟩
  rw [Nat.succ_mul] at h1
  omega
theorem FrOk.put {m : Mid} {P n : Nat} {f : Fr} (h : FrOk m P (n + 1) f) (hP : 1 ≤ P) (x : Int) (v : MV) : FrOk m P n { f with env := putE f.env x v } := by
  obtain ⟨h1, h2⟩ := h
  refine ⟨?_, h2⟩
  have := putE_len f.env x v
  rw [Nat.succ_mul] at h1
  show (putE f.env x v).length + n * P + P ≤ 800000
  omega
theorem clo_set {ts : List Thing} {n : Nat} {vs : List MV} (h : ∀ (i : Nat) f us, ts[i]? = some (.clo f us) → us.length ≤ 1000) : ∀ (i : Nat) f us, (ts.set n (.cells vs))[i]? = some (.clo f us) → us.length ≤ 1000 := fun i f us e => by
  rw [List.getElem?_set] at e
  split at e
  · split at e <;> cases e
  · exact h i f us e
theorem clo_new {ts : List Thing} {t : Thing} (h : ∀ (i : Nat) f us, ts[i]? = some (.clo f us) → us.length ≤ 1000) (ht : ∀ f us, t = .clo f us → us.length ≤ 1000) : ∀ (i : Nat) f us, (ts ++ [t])[i]? = some (.clo f us) → us.length ≤ 1000 := fun i f us e => by
  rw [List.getElem?_append] at e
  split at e
  · exact h i f us e
  · cases hk : i - ts.length with
    | zero => rw [hk] at e; simp at e; exact ht f us e
    | succ k => rw [hk] at e; simp at e
/-- acts that make or change things: what of closes is told -/
theorem act_new {ts : List Thing} {op : Op} {more : More} {vs : List MV} {t : Thing} (h : actO ts op more vs = some (.new t)) : ∀ f us, t = .clo f us → us = vs := by
  intro f us e
  subst e
  cases op <;> simp only [actO] at h
  case close => split at h <;> cases h; rfl
  case make => split at h <;> cases h
  case fill =>
    split at h
    · split at h <;> cases h
    · cases h
  case get =>
    split at h
    · obtain ⟨us, e, h⟩ := onCells_inv h
      split at h
      · obtain ⟨v, _, h⟩ := Option.map_eq_some_iff.mp h; cases h
      · cases h
    · cases h
  case cell =>
    split at h
    · obtain ⟨us, e, h⟩ := onCells_inv h
      split at h
      · obtain ⟨v, _, h⟩ := Option.map_eq_some_iff.mp h; cases h
      · cases h
    · cases h
  case set =>
    split at h
    · obtain ⟨us, e, h⟩ := onCells_inv h
      split at h <;> cases h
    · cases h
  case store =>
    split at h
    · obtain ⟨us, e, h⟩ := onCells_inv h
      split at h <;> cases h
    · cases h
  case long =>
    split at h
    · obtain ⟨us, e, h⟩ := onCells_inv h; cases h
    · cases h
  case ask =>
    split at h
    · split at h <;> cases h
    · cases h
  all_goals first
    | (split at h <;> cases h; done)
    | (obtain ⟨_, x, y, _, h2⟩ := act2_inv h; exact (two_new h2).elim)
theorem act_upd {ts : List Thing} {op : Op} {more : More} {vs : List MV} {n : Nat} {t : Thing} (h : actO ts op more vs = some (.upd n t)) : ∃ us, t = .cells us := by
  cases op <;> simp only [actO] at h
  case set =>
    split at h
    · obtain ⟨us, e, h⟩ := onCells_inv h
      split at h <;> cases h; exact ⟨_, rfl⟩
    · cases h
  case store =>
    split at h
    · obtain ⟨us, e, h⟩ := onCells_inv h
      split at h <;> cases h; exact ⟨_, rfl⟩
    · cases h
  case fill =>
    split at h
    · split at h <;> cases h
    · cases h
  case get =>
    split at h
    · obtain ⟨us, e, h⟩ := onCells_inv h
      split at h
      · obtain ⟨v, _, h⟩ := Option.map_eq_some_iff.mp h; cases h
      · cases h
    · cases h
  case cell =>
    split at h
    · obtain ⟨us, e, h⟩ := onCells_inv h
      split at h
      · obtain ⟨v, _, h⟩ := Option.map_eq_some_iff.mp h; cases h
      · cases h
    · cases h
  case long =>
    split at h
    · obtain ⟨us, e, h⟩ := onCells_inv h; cases h
    · cases h
  case ask =>
    split at h
    · split at h <;> cases h
    · cases h
  all_goals first
    | (split at h <;> cases h; done)
    | (obtain ⟨_, x, y, _, h2⟩ := act2_inv h
       simp only [two] at h2
       first
         | (cases h2; done)
         | (split at h2 <;> first | (cases h2; done) | (split at h2 <;> cases h2)))
theorem Fits.step {m : Mid} {P n : Nat} {s s1 : MS} (S : Small m P) (F : Fits m P (n + 1) s) (h : step m s = some (s1, none)) : Fits m P n s1 := by
  have hP := S.P1
  unfold Md.step at h
  split at h
  · cases h
  · rename_i fr rest efr
    have Ff : ∀ f ∈ fr :: rest, FrOk m P (n + 1) f := by rw [← efr]; exact F.frs
    have Fl : (fr :: rest).length + (n + 1) ≤ 900000 := by rw [← efr]; exact F.frames
    have F0 := Ff fr (by simp)
    have Fr0 : ∀ f ∈ rest, FrOk m P n f := fun f hf => (Ff f (by simp [hf])).less
    have Ft := F.told
    simp only [List.length_cons] at Fl
    split at h
    · rename_i row erow
      split at h
      · rename_i vs evs
        split at h
        · rename_i a ea
          have hfr' : FrOk m P (n + 1) { fr with at' := fr.at' + 1 } := F0
          have hm : row ∈ fr.block.rows := List.mem_of_getElem? erow
          obtain ⟨_, g, hg, hgb, hgk⟩ := F0
          have hal := S.row g hg _ hgk _ hm
          have hvl := looks_len evs
          unfold actDo at h
          split at h
          · cases h
            exact ⟨by show s.told.length + n ≤ 900000; omega, by show rest.length + 1 + n ≤ 900000; omega, fun f hf => (by
              rcases List.mem_cons.mp hf with rfl | hf
              · exact hfr'.put hP _ _
              · exact Fr0 f hf), F.clo⟩
          · cases h
            exact ⟨by show s.told.length + n ≤ 900000; omega, by show rest.length + 1 + n ≤ 900000; omega, fun f hf => (by
              rcases List.mem_cons.mp hf with rfl | hf
              · exact hfr'.put hP _ _
              · exact Fr0 f hf), clo_new F.clo (fun f us e => by rw [act_new ea f us e]; omega)⟩
          · cases h
          · split at h
            · cases h
            · cases h
              exact ⟨by show s.told.length + n ≤ 900000; omega, by show rest.length + 1 + n ≤ 900000; omega, fun f hf => (by
                rcases List.mem_cons.mp hf with rfl | hf
                · exact hfr'.less
                · exact Fr0 f hf), F.clo⟩
          · cases h
            exact ⟨by show (s.told ++ [_]).length + n ≤ 900000; rw [List.length_append]; simp only [List.length_singleton]; omega, by show rest.length + 1 + n ≤ 900000; omega, fun f hf => (by
              rcases List.mem_cons.mp hf with rfl | hf
              · exact hfr'.less
              · exact Fr0 f hf), F.clo⟩
          · cases h
            obtain ⟨us, rfl⟩ := act_upd ea
            exact ⟨by show s.told.length + n ≤ 900000; omega, by show rest.length + 1 + n ≤ 900000; omega, fun f hf => (by
              rcases List.mem_cons.mp hf with rfl | hf
              · exact hfr'.less
              · exact Fr0 f hf), clo_set F.clo⟩
          · obtain ⟨g', hg', he⟩ := Option.map_eq_some_iff.mp h
            cases he
            unfold begin_ at hg'
            split at hg'
            · rename_i g0 eg
              split at hg'
              · rename_i k0 ek
                cases hg'
                have hgm := List.mem_of_find?_eq_some eg
                have hkm := List.mem_of_getElem? ek
                refine ⟨by show s.told.length + n ≤ 900000; omega, by show rest.length + 1 + 1 + n ≤ 900000; omega, fun f hf => ?_, F.clo⟩
                rcases List.mem_cons.mp hf with rfl | hf
                · refine ⟨?_, g0, hgm, rfl, hkm⟩
                  have h1 := binds_len k0.params (by assumption) []
                  have h2 := S.par g0 hgm k0 hkm
                  have h3 := hfr'.1
                  rw [Nat.succ_mul] at h3
                  show (binds [] k0.params _).length + n * P + P ≤ 800000
                  simp only [List.length_nil] at h1
                  omega
                · rcases List.mem_cons.mp hf with rfl | hf
                  · exact hfr'.less
                  · exact Fr0 f hf
              · cases hg'
            · cases hg'
          · cases h
        · cases h
      · cases h
    · unfold endDo at h
      split at h
      · split at h
        · split at h
          · cases h
          · rename_i g gs
            split at h
            · cases h
              simp only [List.length_cons] at Fl
              exact ⟨by show s.told.length + n ≤ 900000; omega, by show gs.length + 1 + n ≤ 900000; omega, fun f hf => (by
                rcases List.mem_cons.mp hf with rfl | hf
                · exact (Ff g (by simp)).put hP _ _
                · exact Fr0 f (by simp [hf])), F.clo⟩
            · cases h
        · cases h
      · cases h
      · split at h
        · rename_i vs evs
          obtain ⟨g', hg', he⟩ := Option.map_eq_some_iff.mp h
          cases he
          unfold Fr.enter at hg'
          split at hg'
          · rename_i k ek
            cases hg'
            refine ⟨by show s.told.length + n ≤ 900000; omega, by show rest.length + 1 + n ≤ 900000; omega, fun f hf => ?_, F.clo⟩
            rcases List.mem_cons.mp hf with rfl | hf
            · obtain ⟨h3, g, hg, hgb, hgk⟩ := F0
              have hkm := List.mem_of_getElem? ek
              rw [hgb] at hkm
              refine ⟨?_, g, hg, hgb, hkm⟩
              have h1 := binds_len k.params vs fr.env
              have h2 := S.par g hg k hkm
              rw [Nat.succ_mul] at h3
              show (binds fr.env k.params _).length + n * P + P ≤ 800000
              omega
            · exact Fr0 f hf
          · cases hg'
        · cases h
      · split at h
        · obtain ⟨g', hg', he⟩ := Option.map_eq_some_iff.mp h
          cases he
          unfold Fr.enter at hg'
          split at hg'
          · rename_i k ek
            cases hg'
            refine ⟨by show s.told.length + n ≤ 900000; omega, by show rest.length + 1 + n ≤ 900000; omega, fun f hf => ?_, F.clo⟩
            rcases List.mem_cons.mp hf with rfl | hf
            · obtain ⟨h3, g, hg, hgb, hgk⟩ := F0
              have hkm := List.mem_of_getElem? ek
              rw [hgb] at hkm
              refine ⟨?_, g, hg, hgb, hkm⟩
              have h1 := binds_len k.params [] fr.env
              have h2 := S.par g hg k hkm
              rw [Nat.succ_mul] at h3
              show (binds fr.env k.params _).length + n * P + P ≤ 800000
              omega
            · exact Fr0 f hf
          · cases hg'
        · cases h
end Md

/-! CL, part w2: dicts with written keys -/
namespace CL
inductive LookD : List (L2.Key × Val) → L2.Key → Val → Prop
  | here {k : L2.Key} {v : Val} {r : List (L2.Key × Val)} : LookD ((k, v) :: r) k v
  | there {k j : L2.Key} {v w : Val} {r : List (L2.Key × Val)} (h : decide (j = k) = false) (l : LookD r k v) : LookD ((j, w) :: r) k v
theorem LookD.eq : ∀ {kvs : List (L2.Key × Val)} {k : L2.Key} {v : Val}, LookD kvs k v → look kvs k = some v
  | _, _, _, .here => by unfold look; rw [List.find?_cons, decide_eq_true rfl]; rfl
  | _, _, _, .there h l => by
    have := l.eq
    unfold look at *
    rw [List.find?_cons]
    simp only [h, this]
inductive PutD : List (L2.Key × Val) → L2.Key → Val → List (L2.Key × Val) → Prop
  | nil {k : L2.Key} {v : Val} : PutD [] k v [(k, v)]
  | here {k : L2.Key} {v w : Val} {r : List (L2.Key × Val)} (h : r.any (fun kv => decide (kv.1 = k)) = false) : PutD ((k, w) :: r) k v ((k, v) :: r)
  | there {k j : L2.Key} {v w : Val} {r r' : List (L2.Key × Val)} (h : decide (j = k) = false) (l : PutD r k v r') : PutD ((j, w) :: r) k v ((j, w) :: r')
theorem map_none {k : L2.Key} {v : Val} : ∀ {r : List (L2.Key × Val)}, r.any (fun kv => decide (kv.1 = k)) = false → r.map (fun kv => if kv.1 = k then (kv.1, v) else kv) = r
  | [], _ => rfl
  | a :: r, h => by
    rw [List.any_cons, Bool.or_eq_false_iff] at h
    rw [List.map_cons, map_none h.2, if_neg (of_decide_eq_false h.1)]
theorem PutD.eq : ∀ {kvs : List (L2.Key × Val)} {k : L2.Key} {v : Val} {kvs' : List (L2.Key × Val)}, PutD kvs k v kvs' → put kvs k v = kvs'
  | _, _, _, _, .nil => rfl
  | _, _, _, _, .here h => by
    unfold put
    rw [List.any_cons, decide_eq_true rfl, Bool.true_or, if_pos rfl, List.map_cons, if_pos rfl, map_none h]
  | _, _, _, _, .there h l => by
    have := l.eq
    unfold put at *
    rw [List.any_cons, h, Bool.false_or, List.map_cons, if_neg (of_decide_eq_false h), List.cons_append, ← this]
    split <;> rfl
section
variable {B H R : HL} {kt : List (List Val)}
theorem x_dS {a : Nat} {kvs : List (L2.Key × Val)} {y v : Val} {k : L2.Key} {Q : Val → HL → Prop} (u : Sub H [(a, .dK kvs)] R) (hk : key1 y = some k) (h : LookD kvs k v) (q : Q v H) : WP B (subV kt (.ref a) y) H Q := x_dK u hk h.eq q
theorem d_gS {a : Nat} {kvs : List (L2.Key × Val)} {y v : Val} {k : L2.Key} {Q : Val → HL → Prop} (u : Sub H [(a, .dK kvs)] R) (hk : key1 y = some k) (h : LookD kvs k v) (q : Q v H) : WP B (getD kt (.ref a) y) H Q := d_get u hk h.eq q
theorem y_dS {a : Nat} {kvs kvs' : List (L2.Key × Val)} {y v : Val} {k : L2.Key} {K : HL} {Q : Val → HL → Prop} (u0 : Sub H [(a, .dK kvs)] R) (hk : key1 y = some k) (h : PutD kvs k v kvs') (hl : kvs.length < 1000000) (u : Upd H a (.dK kvs) (.dK kvs') K) (q : Q .non K) : WP B (putV kt (.ref a) y v) H Q :=
  y_dK (by rw [h.eq]; exact u) hk hl q
theorem d_pS {a : Nat} {kvs kvs' : List (L2.Key × Val)} {y v : Val} {k : L2.Key} {K : HL} {Q : Val → HL → Prop} (u0 : Sub H [(a, .dK kvs)] R) (hk : key1 y = some k) (h : PutD kvs k v kvs') (hl : kvs.length < 1000000) (u : Upd H a (.dK kvs) (.dK kvs') K) (q : Q .non K) : WP B (putD kt (.ref a) y v) H Q :=
  d_put (by rw [h.eq]; exact u) hk hl q
end
end CL

/-! CL, part w3: outcomes compared -/
namespace Md
open CL PySem
theorem dat_ints (st : Store) (k : Nat) : ∀ ns : List Int, allO ((ns.map Val.int).map (dat st (k + 1))) = some (ns.map PyData.int)
  | [] => rfl
  | n :: r => by
    have ih := dat_ints st k r
    show allO (some (PyData.int n) :: (r.map Val.int).map (dat st (k + 1))) = _
    rw [allO, ih]; rfl
theorem eqv_ints : ∀ ns : List Int, PyData.eqvAll (ns.map PyData.int) (ns.map PyData.int) = true
  | [] => by simp [PyData.eqvAll]
  | n :: r => by rw [List.map_cons, PyData.eqvAll, eqv_ints r]; simp [PyData.eqv]
theorem lay_ints : ∀ ns : List Int, PyData.canLayAll0 (ns.map PyData.int) = true
  | [] => by simp [PyData.canLayAll0]
  | n :: r => by rw [List.map_cons, PyData.canLayAll0, lay_ints r]; simp [PyData.canLay0]
theorem deep_ints : ∀ ns : List Int, PyData.depthAll (ns.map PyData.int) = 0
  | [] => by simp [PyData.depthAll]
  | n :: r => by rw [List.map_cons, PyData.depthAll, deep_ints r]; simp [PyData.depth]
def endV : Out → Val
  | .done (.int v) => .tup [.str "done", .int v]
  | .done _ => .non
  | .fault w l => .tup [.str "fault", .str w, .int l]
  | .tired => .tup [.str "tired"]
def endD : Out → PyData
  | .done (.int v) => .tuple [.str "done", .int v]
  | .done _ => .none
  | .fault w l => .tuple [.str "fault", .str w, .int l]
  | .tired => .tuple [.str "tired"]
/-- an end that laws speak of -/
def OutOk : Out → Prop
  | .done (.int _) => True
  | .done _ => False
  | .fault w _ => w = "nought" ∨ w = "place" ∨ w = "great" ∨ w = "fail" ∨ w = "lack"
  | .tired => True
theorem dat_end (st : Store) (o : Out) (h : OutOk o) (k : Nat) : dat st (k + 2) (endV o) = some (endD o) := by
  cases o with
  | done v => cases v <;> first | rfl | exact h.elim
  | fault w l => rfl
  | tired => rfl
theorem eqv_end (o : Out) (h : OutOk o) : PyData.eqv (endD o) (endD o) = true := by
  cases o with
  | done v => cases v <;> first | (simp [endD, PyData.eqv, PyData.eqvAll]; done) | exact h.elim
  | fault w l => simp [endD, PyData.eqv, PyData.eqvAll]
  | tired => simp [endD, PyData.eqv, PyData.eqvAll]
theorem lay_end (o : Out) (h : OutOk o) : PyData.canLay0 (endD o) = true := by
  cases o with
  | done v => cases v <;> first | (simp only [endD, PyData.canLay0, PyData.canLayAll0]; decide +kernel) | exact h.elim
  | fault w l => rcases h with rfl | rfl | rfl | rfl | rfl <;> (simp only [endD, PyData.canLay0, PyData.canLayAll0]; decide +kernel)
  | tired => simp only [endD, PyData.canLay0, PyData.canLayAll0]; decide +kernel
theorem deep_end (o : Out) : PyData.depth (endD o) ≤ 1 := by
  cases o with
  | done v => cases v <;> simp [endD, PyData.depth, PyData.depthAll]
  | fault w l => simp [endD, PyData.depth, PyData.depthAll]
  | tired => simp [endD, PyData.depth, PyData.depthAll]
theorem eq_told {st : Store} {a b : Nat} {ns : List Int} {o : Out} (ho : OutOk o) (ha : st.m a = some (.lst (ns.map .int))) (hb : st.m b = some (.lst (ns.map .int))) : eqV st (.tup [.ref a, endV o]) (.tup [.ref b, endV o]) = some true := by
  have h1 : ∀ c, st.m c = some (.lst (ns.map .int)) → dat st deep (.tup [.ref c, endV o]) = some (.tuple [.list (ns.map PyData.int), endD o]) := fun c hc => by
    show (allO [dat st 69 (.ref c), dat st 69 (endV o)]).map PyData.tuple = _
    have e1 : dat st 69 (.ref c) = some (.list (ns.map PyData.int)) := by
      show (match st.m c with | some (.lst xs) => (allO (xs.map (dat st 68))).map PyData.list | _ => none) = _
      rw [hc]
      show (allO ((ns.map Val.int).map (dat st 68))).map PyData.list = _
      rw [dat_ints st 67 ns]; rfl
    rw [e1, dat_end st o ho 67]; rfl
  unfold eqV
  have e0 : eq0 (.tup [.ref a, endV o]) (.tup [.ref b, endV o]) = none := rfl
  rw [e0]
  simp only [h1 a ha, h1 b hb]
  have s1 : SeqAt.shaped (.tuple [.list (ns.map PyData.int), endD o]) = true := by
    unfold SeqAt.shaped
    rw [Bool.and_eq_true]
    refine ⟨?_, decide_eq_true ?_⟩
    · simp only [PyData.canLay0, PyData.canLayAll0, lay_ints, lay_end o ho, Bool.and_self]
    · have := deep_end o
      simp only [PyData.depth, PyData.depthAll, deep_ints]
      omega
  rw [s1]
  simp only [Bool.and_self, if_true, PyData.eqv, PyData.eqvAll, eqv_ints, eqv_end o ho]
theorem eq_lists {st : Store} {a b : Nat} {ns : List Int} (ha : st.m a = some (.lst (ns.map .int))) (hb : st.m b = some (.lst (ns.map .int))) : eqV st (.ref a) (.ref b) = some true := by
  have h1 : ∀ c, st.m c = some (.lst (ns.map .int)) → dat st deep (.ref c) = some (.list (ns.map PyData.int)) := fun c hc => by
    show (match st.m c with | some (.lst xs) => (allO (xs.map (dat st 69))).map PyData.list | _ => none) = _
    rw [hc]
    show (allO ((ns.map Val.int).map (dat st 69))).map PyData.list = _
    rw [dat_ints st 68 ns]; rfl
  unfold eqV
  have e0 : eq0 (.ref a) (.ref b) = none := rfl
  rw [e0]
  simp only [h1 a ha, h1 b hb]
  have s1 : SeqAt.shaped (.list (ns.map PyData.int)) = true := by
    unfold SeqAt.shaped
    rw [Bool.and_eq_true]
    refine ⟨?_, decide_eq_true ?_⟩
    · simp only [PyData.canLay0, lay_ints]
    · simp only [PyData.depth, deep_ints]; omega
  rw [s1]
  simp only [Bool.and_self, if_true, PyData.eqv, eqv_ints]
end Md
namespace CL
section
variable {B H K : HL} {c : Ctx} {s : Env} {Q : Val → HL → Prop}
theorem wl_perm {t : Tg} {k : CL.B} {e : E} {D : Nat} {w : Watch} {xs : List Val} (p : H.Perm K) (h : WL B c t k e s D w xs K Q) : WL B c t k e s D w xs H Q := wp_perm p h
theorem x_cutB {a : Nat} {xs : List Val} {l h : Option Val} {l' h' : Option Int} (u : (a, .lst xs) ∈ B) (e1 : part l = some l') (e2 : part h = some h') (q : ∀ p, Q (.ref p) ((p, .lst (cutL xs l' h')) :: H)) : WP B (cutV (.ref a) l h) H Q := fun st F s => by
  obtain ⟨v, K, st', e, q, s'⟩ := wp_mk (B := B) q st F s
  exact ⟨v, K, st', by simp only [cutV, e1, e2, fix_at u s, e], q, s'⟩
theorem f_lenB {a : Nat} {xs : List Val} (u : (a, .lst xs) ∈ B) (q : Q (.int xs.length) H) : WP B (bfn .len [.ref a]) H Q := wp_of (fun st F s => by simp only [bfn, fix_at u s]) q
end
end CL
namespace Md
theorem lookE_here {x : Int} {v : MV} {e : Ev} : lookE ((x, v) :: e) x = some v := by
  unfold lookE
  rw [List.find?_cons, decide_eq_true rfl]; rfl
theorem lookE_there {x y : Int} {v : MV} {e : Ev} (h : y ≠ x) : lookE ((y, v) :: e) x = lookE e x := by
  unfold lookE
  rw [List.find?_cons, decide_eq_false (show ¬ (y, v).1 = x from h)]
theorem putE_nil {x : Int} {v : MV} : putE [] x v = [(x, v)] := rfl
theorem putE_cons_ne {x y : Int} {v w : MV} {e : Ev} (h : y ≠ x) : putE ((y, w) :: e) x v = (y, w) :: putE e x v := by
  unfold putE
  rw [List.any_cons, decide_eq_false (show ¬ (y, w).1 = x from h), Bool.false_or, List.map_cons, if_neg (show ¬ (y, w).1 = x from h), List.cons_append]
  split <;> rfl
theorem Runs.row {m : Mid} {n : Nat} {ts : List Thing} {told : List MV} {ti : Int} {bs : List Block} {e : Ev} {tg : Option Int} {k : Block} {i : Nat} {rest : List Fr} {s1 s' : MS} {o : Out} {row : Row} {vs : List MV} {a : Act}
    (hr : k.rows[i]? = some row) (hl : looks e row.args = some vs) (ha : actO ts row.op row.more vs = some a) (hd : actDo m ⟨ts, told, ti, ⟨bs, e, tg, k, i⟩ :: rest⟩ ⟨bs, e, tg, k, i + 1⟩ rest row.x row.line a = some (s1, none)) (h : Runs m n s1 s' o) : Runs m (n + 1) ⟨ts, told, ti, ⟨bs, e, tg, k, i⟩ :: rest⟩ s' o := by
  refine .more ?_ h
  unfold step
  simp only [hr, hl, ha]
  exact hd
theorem Runs.rowEnd {m : Mid} {ts : List Thing} {told : List MV} {ti : Int} {bs : List Block} {e : Ev} {tg : Option Int} {k : Block} {i : Nat} {rest : List Fr} {s' : MS} {o : Out} {row : Row} {vs : List MV} {a : Act}
    (hr : k.rows[i]? = some row) (hl : looks e row.args = some vs) (ha : actO ts row.op row.more vs = some a) (hd : actDo m ⟨ts, told, ti, ⟨bs, e, tg, k, i⟩ :: rest⟩ ⟨bs, e, tg, k, i + 1⟩ rest row.x row.line a = some (s', some o)) : Runs m 1 ⟨ts, told, ti, ⟨bs, e, tg, k, i⟩ :: rest⟩ s' o := by
  refine .last ?_
  unfold step
  simp only [hr, hl, ha]
  exact hd
theorem Runs.jmp {m : Mid} {n : Nat} {ts : List Thing} {told : List MV} {ti : Int} {bs : List Block} {e : Ev} {tg : Option Int} {k : Block} {i : Nat} {rest : List Fr} {s1 s' : MS} {o : Out}
    (hr : k.rows[i]? = none) (hd : endDo ⟨ts, told, ti, ⟨bs, e, tg, k, i⟩ :: rest⟩ ⟨bs, e, tg, k, i⟩ rest k.en = some (s1, none)) (h : Runs m n s1 s' o) : Runs m (n + 1) ⟨ts, told, ti, ⟨bs, e, tg, k, i⟩ :: rest⟩ s' o := by
  refine .more ?_ h
  unfold step
  simp only [hr]
  exact hd
theorem Runs.stop {m : Mid} {ts : List Thing} {told : List MV} {ti : Int} {bs : List Block} {e : Ev} {tg : Option Int} {k : Block} {i : Nat} {rest : List Fr} {s' : MS} {o : Out}
    (hr : k.rows[i]? = none) (hd : endDo ⟨ts, told, ti, ⟨bs, e, tg, k, i⟩ :: rest⟩ ⟨bs, e, tg, k, i⟩ rest k.en = some (s', some o)) : Runs m 1 ⟨ts, told, ti, ⟨bs, e, tg, k, i⟩ :: rest⟩ s' o := by
  refine .last ?_
  unfold step
  simp only [hr]
  exact hd
/-- a row that gives a new name -/
theorem Runs.gives {m : Mid} {n : Nat} {ts : List Thing} {told : List MV} {ti : Int} {bs : List Block} {e e' : Ev} {tg : Option Int} {k : Block} {i : Nat} {rest : List Fr} {s' : MS} {o : Out} {row : Row} {vs : List MV} {v : MV} {x : Int}
    (hr : k.rows[i]? = some row) (hx : row.x = some x) (hl : looks e row.args = some vs) (ha : actO ts row.op row.more vs = some (.give v)) (hp : putE e x v = e') (h : Runs m n ⟨ts, told, ti, ⟨bs, e', tg, k, i + 1⟩ :: rest⟩ s' o) : Runs m (n + 1) ⟨ts, told, ti, ⟨bs, e, tg, k, i⟩ :: rest⟩ s' o :=
  .row hr hl ha (by rw [hx]; simp only [actDo, hp]) h
theorem Runs.makes {m : Mid} {n : Nat} {ts : List Thing} {told : List MV} {ti : Int} {bs : List Block} {e e' : Ev} {tg : Option Int} {k : Block} {i : Nat} {rest : List Fr} {s' : MS} {o : Out} {row : Row} {vs : List MV} {t : Thing} {x : Int}
    (hr : k.rows[i]? = some row) (hx : row.x = some x) (hl : looks e row.args = some vs) (ha : actO ts row.op row.more vs = some (.new t)) (hp : putE e x (.ref ts.length) = e') (h : Runs m n ⟨ts ++ [t], told, ti, ⟨bs, e', tg, k, i + 1⟩ :: rest⟩ s' o) : Runs m (n + 1) ⟨ts, told, ti, ⟨bs, e, tg, k, i⟩ :: rest⟩ s' o :=
  .row hr hl ha (by rw [hx]; simp only [actDo, hp]) h
theorem Runs.tells {m : Mid} {n : Nat} {ts : List Thing} {told : List MV} {ti : Int} {bs : List Block} {e : Ev} {tg : Option Int} {k : Block} {i : Nat} {rest : List Fr} {s' : MS} {o : Out} {row : Row} {vs : List MV} {v : MV}
    (hr : k.rows[i]? = some row) (hl : looks e row.args = some vs) (ha : actO ts row.op row.more vs = some (.tell v)) (h : Runs m n ⟨ts, told ++ [v], ti, ⟨bs, e, tg, k, i + 1⟩ :: rest⟩ s' o) : Runs m (n + 1) ⟨ts, told, ti, ⟨bs, e, tg, k, i⟩ :: rest⟩ s' o :=
  .row hr hl ha (by cases row.x <;> rfl) h
theorem Runs.ticks {m : Mid} {n : Nat} {ts : List Thing} {told : List MV} {ti : Int} {bs : List Block} {e : Ev} {tg : Option Int} {k : Block} {i : Nat} {rest : List Fr} {s' : MS} {o : Out} {row : Row}
    (hr : k.rows[i]? = some row) (hl : looks e row.args = some []) (ha : actO ts row.op row.more [] = some .tick) (ht : ti ≠ 0) (h : Runs m n ⟨ts, told, ti - 1, ⟨bs, e, tg, k, i + 1⟩ :: rest⟩ s' o) : Runs m (n + 1) ⟨ts, told, ti, ⟨bs, e, tg, k, i⟩ :: rest⟩ s' o :=
  .row hr hl ha (by cases row.x <;> (simp only [actDo]; rw [if_neg ht])) h
theorem Runs.upds {m : Mid} {n : Nat} {ts : List Thing} {told : List MV} {ti : Int} {bs : List Block} {e : Ev} {tg : Option Int} {k : Block} {i : Nat} {rest : List Fr} {s' : MS} {o : Out} {row : Row} {vs : List MV} {j : Nat} {t : Thing}
    (hr : k.rows[i]? = some row) (hl : looks e row.args = some vs) (ha : actO ts row.op row.more vs = some (.upd j t)) (h : Runs m n ⟨ts.set j t, told, ti, ⟨bs, e, tg, k, i + 1⟩ :: rest⟩ s' o) : Runs m (n + 1) ⟨ts, told, ti, ⟨bs, e, tg, k, i⟩ :: rest⟩ s' o :=
  .row hr hl ha (by cases row.x <;> rfl) h
theorem Runs.faults {m : Mid} {ts : List Thing} {told : List MV} {ti : Int} {bs : List Block} {e : Ev} {tg : Option Int} {k : Block} {i : Nat} {rest : List Fr} {row : Row} {vs : List MV} {w : PySem.Str} {l : Int}
    (hr : k.rows[i]? = some row) (hl : looks e row.args = some vs) (ha : actO ts row.op row.more vs = some (.fault w)) (hi : row.line = l) : Runs m 1 ⟨ts, told, ti, ⟨bs, e, tg, k, i⟩ :: rest⟩ ⟨ts, told, ti, ⟨bs, e, tg, k, i + 1⟩ :: rest⟩ (.fault w l) :=
  .rowEnd hr hl ha (by subst hi; cases row.x <;> rfl)
/-- a give in the last frame -/
theorem Runs.done {m : Mid} {ts : List Thing} {told : List MV} {ti : Int} {bs : List Block} {e : Ev} {tg : Option Int} {k : Block} {i : Nat} {x : Int} {v : MV} (hr : k.rows[i]? = none) (he : k.en = .give x) (hv : lookE e x = some v) : Runs m 1 ⟨ts, told, ti, [⟨bs, e, tg, k, i⟩]⟩ ⟨ts, told, ti, []⟩ (.done v) :=
  .stop hr (by rw [he]; simp only [endDo, hv])
theorem Runs.branch {m : Mid} {n : Nat} {ts : List Thing} {told : List MV} {ti : Int} {bs : List Block} {e : Ev} {tg : Option Int} {k k' : Block} {i b c : Nat} {x : Int} {t : Bool} {rest : List Fr} {s' : MS} {o : Out} (hr : k.rows[i]? = none) (he : k.en = .branch x b c) (hv : lookE e x = some (.bl t)) (hb : bs[if t then b else c]? = some k') (hp : k'.params = [])
    (h : Runs m n ⟨ts, told, ti, ⟨bs, e, tg, k', 0⟩ :: rest⟩ s' o) : Runs m (n + 1) ⟨ts, told, ti, ⟨bs, e, tg, k, i⟩ :: rest⟩ s' o :=
  .jmp hr (by rw [he]; simp only [endDo, hv, Fr.enter, hb, hp, Option.map, binds]) h
end Md

namespace LK03
open PySem
abbrev c_Words : Nat := 0
abbrev c_ChainError : Nat := 1
abbrev c_NoLine : Nat := 2
abbrev c_NoNest : Nat := 3
abbrev c_NoName : Nat := 4
abbrev c_NoKind : Nat := 5
abbrev c_NoIns : Nat := 6
abbrev c_NoPass : Nat := 7
abbrev c_NoRow : Nat := 8
abbrev g_LETTERS : Nat := 0
abbrev g_KEPT : Nat := 1
abbrev g_MOST_DEEP : Nat := 2
abbrev f__wall : Nat := 0
abbrev f_made_of : Nat := 1
abbrev f_is_name : Nat := 2
abbrev f_Words_init : Nat := 3
abbrev f_Words_sees : Nat := 4
abbrev f_Words_take : Nat := 5
abbrev f_Words_want : Nat := 6
abbrev f_Words_next_name : Nat := 7
abbrev f_Words_finish : Nat := 8
abbrev f_kind_in : Nat := 9
abbrev f_read_kind : Nat := 10
abbrev f_kind_words : Nat := 11
abbrev f_shown_kind : Nat := 12
abbrev f_l_stream : Nat := 13
abbrev f_l_next : Nat := 14
abbrev f_l_kept : Nat := 15
abbrev f_l_name : Nat := 16
abbrev f_l_many : Nat := 17
abbrev f_l_kind : Nat := 18
abbrev f_l_alike : Nat := 19
abbrev f_l_marks : Nat := 20
abbrev f_l_is_name : Nat := 21
abbrev f_l_after_kind : Nat := 22
abbrev f_l_deep : Nat := 23
abbrev f_l_spoilt : Nat := 24
abbrev f_l_asked : Nat := 25
abbrev f_law : Nat := 26
/- _wall(k): 0 k -/
def d__wall : CL.FDef := ⟨1, 1,
    (.cons (.whl (.of (.bl true)) (.cons .pass
    .nil))
    .nil)⟩
/- made_of(word, signs): 0 word 1 signs 2 sign -/
def d_made_of : CL.FDef := ⟨2, 3,
    (.cons (.for (.one 2) (.of (.v 0)) (.cons (.cond (.of (.cmp .hasnt (.v 2) (.v 1))) (.cons (.ret (.bl false))
    .nil) .nil)
    .nil))
    (.cons (.ret (.cmp .gt (.bf .len (.cons (.v 0) .nil)) (.int 0)))
    .nil))⟩
/- is_name(word): 0 word -/
def d_is_name : CL.FDef := ⟨1, 1,
    (.cons (.ret (.and (.call f_made_of (.cons (.v 0) (.cons (.gl g_LETTERS) .nil))) (.and (.cmp .le (.bf .len (.cons (.v 0) .nil)) (.int 8)) (.cmp .hasnt (.v 0) (.gl g_KEPT)))))
    .nil)⟩
/- Words.__init__(self, words, line): 0 self 1 words 2 line -/
def d_Words_init : CL.FDef := ⟨3, 3,
    (.cons (.asg (.fld (.v 0) "words") (.bf .list (.cons (.v 1) .nil)))
    (.cons (.asg (.fld (.v 0) "line") (.v 2))
    (.cons (.asg (.fld (.v 0) "at") (.int 0))
    .nil)))⟩
/- Words.sees(self, word): 0 self 1 word -/
def d_Words_sees : CL.FDef := ⟨2, 2,
    (.cons (.ret (.and (.cmp .lt (.fld (.v 0) "at") (.bf .len (.cons (.fld (.v 0) "words") .nil))) (.cmp .eq (.sub (.fld (.v 0) "words") (.fld (.v 0) "at")) (.v 1))))
    .nil)⟩
/- Words.take(self): 0 self -/
def d_Words_take : CL.FDef := ⟨1, 1,
    (.cons (.cond (.of (.cmp .eq (.fld (.v 0) "at") (.bf .len (.cons (.fld (.v 0) "words") .nil)))) (.cons (.rse c_NoLine (some (.fld (.v 0) "line")))
    .nil) .nil)
    (.cons (.auf (.v 0) "at" .add (.int 1))
    (.cons (.ret (.sub (.fld (.v 0) "words") (.bin .sub (.fld (.v 0) "at") (.int 1))))
    .nil)))⟩
/- Words.want(self, word): 0 self 1 word -/
def d_Words_want : CL.FDef := ⟨2, 2,
    (.cons (.condX (.cmp .ne (.met (.v 0) "take" .nil) (.pu (.v 1))) (.cons (.rse c_NoLine (some (.fld (.v 0) "line")))
    .nil) .nil)
    .nil)⟩
/- Words.next_name(self): 0 self -/
def d_Words_next_name : CL.FDef := ⟨1, 1,
    (.cons (.ex (.call f__wall (.cons (.int 0) .nil)))
    .nil)⟩
/- Words.finish(self): 0 self -/
def d_Words_finish : CL.FDef := ⟨1, 1,
    (.cons (.cond (.of (.cmp .lt (.fld (.v 0) "at") (.bf .len (.cons (.fld (.v 0) "words") .nil)))) (.cons (.rse c_NoLine (some (.fld (.v 0) "line")))
    .nil) .nil)
    .nil)⟩
/- kind_in(words, deep): 0 words 1 deep 2 word 3 kind 4 kinds 5 last -/
def d_kind_in : CL.FDef := ⟨2, 6,
    (.cons (.cond (.of (.cmp .gt (.v 1) (.gl g_MOST_DEEP))) (.cons (.rse c_NoLine (some (.fld (.v 0) "line")))
    .nil) .nil)
    (.cons (.asX 2 (.met (.v 0) "take" .nil))
    (.cons (.cond (.or (.of (.cmp .eq (.v 2) (.str "number"))) (.of (.cmp .eq (.v 2) (.str "truth")))) (.cons (.ret (.tup (.cons (.v 2) .nil)))
    .nil) .nil)
    (.cons (.cond (.of (.cmp .eq (.v 2) (.str "["))) (.cons (.asX 3 (.fn f_kind_in (.cons (.pu (.v 0)) (.cons (.pu (.bin .add (.v 1) (.int 1))) .nil))))
    (.cons (.exX (.met (.v 0) "want" (.cons (.pu (.str "]")) .nil)))
    (.cons (.ret (.tup (.cons (.str "row") (.cons (.v 3) .nil))))
    .nil))) .nil)
    (.cons (.cond (.of (.cmp .eq (.v 2) (.str "("))) (.cons (.asg (.one 4) (.lst .nil))
    (.cons (.whl (.not (.of (.met (.v 0) "sees" (.cons (.str ":") .nil)))) (.cons (.exX (.app (.v 4) (.fn f_kind_in (.cons (.pu (.v 0)) (.cons (.pu (.bin .add (.v 1) (.int 1))) .nil)))))
    .nil))
    (.cons (.exX (.met (.v 0) "want" (.cons (.pu (.str ":")) .nil)))
    (.cons (.asX 5 (.fn f_kind_in (.cons (.pu (.v 0)) (.cons (.pu (.bin .add (.v 1) (.int 1))) .nil))))
    (.cons (.exX (.met (.v 0) "want" (.cons (.pu (.str ")")) .nil)))
    (.cons (.ret (.tup (.cons (.str "fun") (.cons (.bf .tuple (.cons (.v 4) .nil)) (.cons (.v 5) .nil)))))
    .nil)))))) .nil)
    (.cons (.cond (.of (.call f_is_name (.cons (.v 2) .nil))) (.cons (.ret (.tup (.cons (.str "record") (.cons (.v 2) .nil))))
    .nil) .nil)
    (.cons (.rse c_NoLine (some (.fld (.v 0) "line")))
    .nil)))))))⟩
/- read_kind(words): 0 words 1 row 2 kind -/
def d_read_kind : CL.FDef := ⟨1, 3,
    (.cons (.asg (.one 1) (.make c_Words (.cons (.v 0) (.cons (.int 0) .nil))))
    (.cons (.asX 2 (.fn f_kind_in (.cons (.pu (.v 1)) (.cons (.pu (.int 1)) .nil))))
    (.cons (.exX (.met (.v 1) "finish" .nil))
    (.cons (.ret (.v 2))
    .nil))))⟩
/- kind_words(kind): 0 kind 1 words 2 one -/
def d_kind_words : CL.FDef := ⟨1, 3,
    (.cons (.cond (.of (.cmp .eq (.sub (.v 0) (.int 0)) (.str "record"))) (.cons (.ret (.lst (.cons (.sub (.v 0) (.int 1)) .nil)))
    .nil) .nil)
    (.cons (.cond (.of (.cmp .eq (.sub (.v 0) (.int 0)) (.str "row"))) (.cons (.ret (.bin .add (.bin .add (.lst (.cons (.str "[") .nil)) (.call f_kind_words (.cons (.sub (.v 0) (.int 1)) .nil))) (.lst (.cons (.str "]") .nil))))
    .nil) .nil)
    (.cons (.cond (.of (.cmp .eq (.sub (.v 0) (.int 0)) (.str "fun"))) (.cons (.asg (.one 1) (.lst (.cons (.str "(") .nil)))
    (.cons (.for (.one 2) (.of (.sub (.v 0) (.int 1))) (.cons (.ex (.bm .extend (.v 1) (.cons (.call f_kind_words (.cons (.v 2) .nil)) .nil)))
    .nil))
    (.cons (.ret (.bin .add (.bin .add (.bin .add (.v 1) (.lst (.cons (.str ":") .nil))) (.call f_kind_words (.cons (.sub (.v 0) (.int 2)) .nil))) (.lst (.cons (.str ")") .nil))))
    .nil))) .nil)
    (.cons (.ret (.lst (.cons (.sub (.v 0) (.int 0)) .nil)))
    .nil))))⟩
/- shown_kind(kind): 0 kind -/
def d_shown_kind : CL.FDef := ⟨1, 1,
    (.cons (.ret (.sm .join (.str " ") (.call f_kind_words (.cons (.v 0) .nil))))
    .nil)⟩
/- _law_stream(_law_script): 0 _law_script -/
def d_l_stream : CL.FDef := ⟨1, 1,
    (.cons (.ret (.lst (.cons (.bin .add (.bf .list (.cons (.cut (.v 0) .no (.so (.int 63))) .nil)) (.lst (.cons (.bf .len (.cons (.v 0) .nil)) .nil))) (.cons (.int 0) (.cons (.int 0) (.cons (.int 0) .nil))))))
    .nil)⟩
/- _law_next(_law_row, _law_many_here): 0 _law_row 1 _law_many_here 2 _law_cell 3 _law_told -/
def d_l_next : CL.FDef := ⟨2, 4,
    (.cons (.cond (.of (.cmp .gt (.sub (.v 0) (.int 2)) (.int 0))) (.cons (.asT [(.sub (.v 0) (.int 2)), (.one 3)] (.bf .divmod (.cons (.sub (.v 0) (.int 2)) (.cons (.v 1) .nil))))
    (.cons (.ret (.v 3))
    .nil)) .nil)
    (.cons (.asg (.one 2) (.sub (.sub (.v 0) (.int 0)) (.bin .mod (.sub (.v 0) (.int 1)) (.bf .len (.cons (.sub (.v 0) (.int 0)) .nil)))))
    (.cons (.asg (.sub (.v 0) (.int 1)) (.bin .add (.sub (.v 0) (.int 1)) (.int 1)))
    (.cons (.cond (.and (.of (.cmp .ge (.v 2) (.bin .pow (.int 10) (.int 18)))) (.of (.cmp .le (.sub (.v 0) (.int 1)) (.bf .len (.cons (.sub (.v 0) (.int 0)) .nil))))) (.cons (.asT [(.sub (.v 0) (.int 2)), (.one 3)] (.bf .divmod (.cons (.v 2) (.cons (.v 1) .nil))))
    (.cons (.ret (.v 3))
    .nil)) .nil)
    (.cons (.asg (.sub (.v 0) (.int 3)) (.bin .mod (.bin .mul (.bin .add (.bin .add (.bin .add (.bin .mul (.sub (.v 0) (.int 3)) (.int 69621)) (.bin .mod (.v 2) (.int 2147483629))) (.bin .mul (.int 7) (.sub (.v 0) (.int 1)))) (.int 3)) (.int 48271)) (.int 2147483647)))
    (.cons (.ret (.bin .mod (.bin .fdiv (.bin .mod (.bin .mul (.sub (.v 0) (.int 3)) (.sub (.v 0) (.int 3))) (.int 2147483629)) (.int 5)) (.v 1)))
    .nil))))))⟩
/- _law_kept(): 0 _law_some -/
def d_l_kept : CL.FDef := ⟨0, 1,
    (.cons (.asg (.one 0) (.str "and at def div do else end fail field fill fun give if let long make no not number or place put record"))
    (.cons (.ret (.sm .split (.bin .add (.v 0) (.str " rem set tell truth while yes")) (.str " ")))
    .nil))⟩
/- _law_name(_law_row): 0 _law_row 1 _law_letters 2 _law_some 3 _law_name_here 4 _law_k 5 _law_word -/
def d_l_name : CL.FDef := ⟨1, 6,
    (.cons (.asg (.one 1) (.str "abcdefghijklmnopqrstuvwxyz"))
    (.cons (.asg (.one 2) (.call f_l_kept .nil))
    (.cons (.cond (.of (.cmp .eq (.call f_l_next (.cons (.v 0) (.cons (.int 4) .nil))) (.int 0))) (.cons (.asg (.one 5) (.sub (.v 2) (.call f_l_next (.cons (.v 0) (.cons (.bf .len (.cons (.v 2) .nil)) .nil)))))
    (.cons (.asg (.one 3) (.sub (.lst (.cons (.bin .add (.v 5) (.str "q")) (.cons (.bin .add (.str "q") (.v 5)) (.cons (.cut (.v 5) (.so (.int 1)) .no) (.cons (.cut (.v 5) .no (.so (.neg (.int 1)))) .nil))))) (.call f_l_next (.cons (.v 0) (.cons (.int 4) .nil)))))
    (.cons (.ret (.ite (.of (.cmp .has (.v 3) (.v 2))) (.bin .add (.v 5) (.str "q")) (.v 3)))
    .nil))) .nil)
    (.cons (.asg (.one 3) (.str ""))
    (.cons (.for (.one 4) (.rg1 (.bin .add (.int 1) (.call f_l_next (.cons (.v 0) (.cons (.int 8) .nil))))) (.cons (.asg (.one 3) (.bin .add (.v 3) (.sub (.v 1) (.call f_l_next (.cons (.v 0) (.cons (.int 26) .nil))))))
    .nil))
    (.cons (.ret (.ite (.of (.cmp .has (.v 3) (.v 2))) (.bin .add (.cut (.v 3) .no (.so (.int 7))) (.str "q")) (.v 3)))
    .nil))))))⟩
/- _law_many(_law_row, _law_most): 0 _law_row 1 _law_most 2 _law_many_here -/
def d_l_many : CL.FDef := ⟨2, 3,
    (.cons (.asg (.one 2) (.call f_l_next (.cons (.v 0) (.cons (.v 1) .nil))))
    (.cons (.ret (.ite (.of (.cmp .eq (.call f_l_next (.cons (.v 0) (.cons (.int 8) .nil))) (.int 0))) (.bin .add (.v 2) (.int 6)) (.v 2)))
    .nil))⟩
/- _law_kind(_law_row, _law_deep_here, _law_left): 0 _law_row 1 _law_deep_here 2 _law_left 3 _law_way 4 _law_words 5 _law_kinds 6 _law_k 7 _law_name_here 8 _law_some 9 _law_kind_here -/
def d_l_kind : CL.FDef := ⟨3, 10,
    (.cons (.asg (.sub (.v 2) (.int 2)) (.bin .sub (.sub (.v 2) (.int 2)) (.int 1)))
    (.cons (.asg (.one 3) (.call f_l_next (.cons (.v 0) (.cons (.int 7) .nil))))
    (.cons (.cond (.or (.of (.cmp .eq (.v 1) (.int 1))) (.of (.cmp .le (.sub (.v 2) (.int 2)) (.int 0)))) (.cons (.asg (.one 3) (.bin .mod (.v 3) (.int 3)))
    .nil) .nil)
    (.cons (.cond (.of (.cmp .lt (.v 3) (.int 2))) (.cons (.ret (.tup (.cons (.sub (.lst (.cons (.lst (.cons (.str "number") .nil)) (.cons (.lst (.cons (.str "truth") .nil)) .nil))) (.v 3)) (.cons (.sub (.lst (.cons (.tup (.cons (.str "number") .nil)) (.cons (.tup (.cons (.str "truth") .nil)) .nil))) (.v 3)) .nil))))
    .nil) .nil)
    (.cons (.cond (.of (.cmp .eq (.v 3) (.int 2))) (.cons (.asg (.one 7) (.call f_l_name (.cons (.v 0) .nil)))
    (.cons (.ret (.tup (.cons (.lst (.cons (.v 7) .nil)) (.cons (.tup (.cons (.str "record") (.cons (.v 7) .nil))) .nil))))
    .nil)) .nil)
    (.cons (.cond (.of (.cmp .lt (.v 3) (.int 5))) (.cons (.asT [(.one 4), (.one 9)] (.call f_l_kind (.cons (.v 0) (.cons (.bin .sub (.v 1) (.int 1)) (.cons (.v 2) .nil)))))
    (.cons (.ret (.tup (.cons (.bin .add (.bin .add (.lst (.cons (.str "[") .nil)) (.v 4)) (.lst (.cons (.str "]") .nil))) (.cons (.tup (.cons (.str "row") (.cons (.v 9) .nil))) .nil))))
    .nil)) .nil)
    (.cons (.asg (.one 4) (.lst (.cons (.str "(") .nil)))
    (.cons (.asg (.one 5) (.lst .nil))
    (.cons (.for (.one 6) (.rg1 (.call f_l_many (.cons (.v 0) (.cons (.int 3) .nil)))) (.cons (.asT [(.one 8), (.one 9)] (.call f_l_kind (.cons (.v 0) (.cons (.bin .sub (.v 1) (.int 1)) (.cons (.v 2) .nil)))))
    (.cons (.asg (.one 4) (.bin .add (.v 4) (.v 8)))
    (.cons (.ex (.bm .append (.v 5) (.cons (.v 9) .nil)))
    .nil))))
    (.cons (.asT [(.one 8), (.one 9)] (.call f_l_kind (.cons (.v 0) (.cons (.bin .sub (.v 1) (.int 1)) (.cons (.v 2) .nil)))))
    (.cons (.ret (.tup (.cons (.bin .add (.bin .add (.bin .add (.v 4) (.lst (.cons (.str ":") .nil))) (.v 8)) (.lst (.cons (.str ")") .nil))) (.cons (.tup (.cons (.str "fun") (.cons (.bf .tuple (.cons (.v 5) .nil)) (.cons (.v 9) .nil)))) .nil))))
    .nil)))))))))))⟩
/- _law_alike(_law_found, _law_due): 0 _law_found 1 _law_due 2 _law_one 3 _law_other -/
def d_l_alike : CL.FDef := ⟨2, 4,
    (.cons (.cond (.or (.of (.isi (.v 1) .bool)) (.of (.isi (.v 0) .bool))) (.cons (.ret (.and (.isi (.v 1) .bool) (.and (.isi (.v 0) .bool) (.cmp .eq (.v 0) (.v 1)))))
    .nil) .nil)
    (.cons (.cond (.or (.of (.isi (.v 1) .int)) (.of (.isi (.v 1) .str))) (.cons (.ret (.and (.cmp .eq (.isi (.v 0) .int) (.isi (.v 1) .int)) (.cmp .eq (.v 0) (.v 1))))
    .nil) .nil)
    (.cons (.cond (.or (.not (.of (.isi (.v 0) .tuple))) (.of (.cmp .ne (.bf .len (.cons (.v 0) .nil)) (.bf .len (.cons (.v 1) .nil))))) (.cons (.ret (.bl false))
    .nil) .nil)
    (.cons (.ret (.bf .all (.cons (.lc (.many [2, 3]) (.zip (.v 0) (.v 1)) .yes (.call f_l_alike (.cons (.v 2) (.cons (.v 3) .nil)))) .nil)))
    .nil))))⟩
/- _law_marks(_law_caught): 0 _law_caught 1 _law_found -/
def d_l_marks : CL.FDef := ⟨1, 2,
    (.cons (.asg (.one 1) (.lst (.cons (.isX (.v 0) [some c_NoLine] false) (.cons (.isX (.v 0) [some c_NoNest] false) (.cons (.isX (.v 0) [some c_NoName] false) .nil)))))
    (.cons (.asg (.one 1) (.bin .add (.v 1) (.lst (.cons (.isX (.v 0) [some c_NoKind] false) (.cons (.isX (.v 0) [some c_NoIns] false) (.cons (.isX (.v 0) [some c_NoPass] false) .nil))))))
    (.cons (.ret (.bin .add (.v 1) (.lst (.cons (.isX (.v 0) [some c_NoRow] false) (.cons (.isX (.v 0) [none] false) (.cons (.isX (.v 0) [some c_ChainError] false) .nil))))))
    .nil)))⟩
/- _law_is_name(_law_word): 0 _law_word 1 _law_sign -/
def d_l_is_name : CL.FDef := ⟨1, 2,
    (.cons (.cond (.or (.not (.of (.cm2 .le .le (.int 1) (.bf .len (.cons (.v 0) .nil)) (.int 8)))) (.of (.cmp .has (.v 0) (.call f_l_kept .nil)))) (.cons (.ret (.bl false))
    .nil) .nil)
    (.cons (.ret (.bf .all (.cons (.lc (.one 1) (.of (.v 0)) .yes (.cmp .has (.v 1) (.str "abcdefghijklmnopqrstuvwxyz"))) .nil)))
    .nil))⟩
/- _law_after_kind(_law_words, _law_at): 0 _law_words 1 _law_at 2 _law_marks_here 3 _law_word 4 _law_done -/
def d_l_after_kind : CL.FDef := ⟨2, 5,
    (.cons (.asg (.one 2) (.lst .nil))
    (.cons (.whl (.and (.of (.cmp .lt (.v 1) (.bf .len (.cons (.v 0) .nil)))) (.of (.cmp .lt (.bf .len (.cons (.v 2) .nil)) (.int 12)))) (.cons (.asg (.one 3) (.sub (.v 0) (.v 1)))
    (.cons (.asg (.one 1) (.bin .add (.v 1) (.int 1)))
    (.cons (.asg (.one 4) (.or (.cmp .has (.v 3) (.tup (.cons (.str "number") (.cons (.str "truth") .nil)))) (.call f_l_is_name (.cons (.v 3) .nil))))
    (.cons (.cond (.not (.of (.v 4))) (.cons (.cond (.and (.of (.cmp .ne (.v 3) (.str "["))) (.of (.cmp .ne (.v 3) (.str "(")))) (.cons (.ret (.neg (.int 1)))
    .nil) .nil)
    (.cons (.ex (.bm .append (.v 2) (.cons (.v 3) .nil)))
    .nil)) .nil)
    (.cons (.whl (.of (.v 4)) (.cons (.cond (.of (.cmp .eq (.v 2) (.lst .nil))) (.cons (.ret (.v 1))
    .nil) .nil)
    (.cons (.asg (.one 4) (.cmp .ne (.sub (.v 2) (.neg (.int 1))) (.str "(")))
    (.cons (.cond (.of (.v 4)) (.cons (.cond (.of (.cmp .ne (.cut (.v 0) (.so (.v 1)) (.so (.bin .add (.v 1) (.int 1)))) (.lst (.cons (.sub (.dic (.cons (.str "[") (.str "]") (.cons (.str ":") (.str ")") .nil))) (.sub (.v 2) (.neg (.int 1)))) .nil)))) (.cons (.ret (.neg (.int 1)))
    .nil) .nil)
    (.cons (.ex (.bm .pop (.v 2) .nil))
    (.cons (.asg (.one 1) (.bin .add (.v 1) (.int 1)))
    .nil))) .nil)
    .nil))))
    (.cons (.cond (.and (.of (.cmp .eq (.sub (.v 2) (.neg (.int 1))) (.str "("))) (.of (.cmp .eq (.cut (.v 0) (.so (.v 1)) (.so (.bin .add (.v 1) (.int 1)))) (.lst (.cons (.str ":") .nil))))) (.cons (.asg (.sub (.v 2) (.neg (.int 1))) (.str ":"))
    (.cons (.asg (.one 1) (.bin .add (.v 1) (.int 1)))
    .nil)) .nil)
    .nil)))))))
    (.cons (.ret (.neg (.int 1)))
    .nil)))⟩
/- _law_deep(_law_row): 0 _law_row 1 _law_k 2 _law_words 3 _law_kind_here -/
def d_l_deep : CL.FDef := ⟨1, 4,
    (.cons (.asT [(.one 2), (.one 3)] (.call f_l_kind (.cons (.v 0) (.cons (.int 1) (.cons (.lst (.cons (.int 0) (.cons (.int 0) (.cons (.int 1) .nil)))) .nil)))))
    (.cons (.for (.one 1) (.rg1 (.bin .add (.int 10) (.call f_l_next (.cons (.v 0) (.cons (.int 4) .nil))))) (.cons (.cond (.of (.cmp .eq (.call f_l_next (.cons (.v 0) (.cons (.int 2) .nil))) (.int 0))) (.cons (.asg (.one 2) (.bin .add (.bin .add (.lst (.cons (.str "[") .nil)) (.v 2)) (.lst (.cons (.str "]") .nil))))
    (.cons (.asg (.one 3) (.tup (.cons (.str "row") (.cons (.v 3) .nil))))
    .nil)) (.cons (.asg (.one 2) (.bin .add (.bin .add (.lst (.cons (.str "(") (.cons (.str ":") .nil))) (.v 2)) (.lst (.cons (.str ")") .nil))))
    (.cons (.asg (.one 3) (.tup (.cons (.str "fun") (.cons (.tup .nil) (.cons (.v 3) .nil)))))
    .nil)))
    .nil))
    (.cons (.ret (.tup (.cons (.v 2) (.cons (.v 3) .nil))))
    .nil)))⟩
/- _law_spoilt(_law_row, _law_words): 0 _law_row 1 _law_words 2 _law_some 3 _law_way 4 _law_at 5 _law_word -/
def d_l_spoilt : CL.FDef := ⟨2, 6,
    (.cons (.asg (.one 2) (.lst (.cons (.str "[") (.cons (.str "]") (.cons (.str "(") (.cons (.str ")") (.cons (.str ":") (.cons (.str "number") (.cons (.str "truth") (.cons (.str "a") (.cons (.str "yes") (.cons (.str "A") (.cons (.str "") (.cons (.str "a1") (.cons (.str "abcdefghi") (.cons (.str "-") (.cons (.str "end") (.cons (.str "[") .nil))))))))))))))))))
    (.cons (.asg (.one 3) (.call f_l_next (.cons (.v 0) (.cons (.int 4) .nil))))
    (.cons (.asg (.one 4) (.call f_l_next (.cons (.v 0) (.cons (.bf .len (.cons (.v 1) .nil)) .nil))))
    (.cons (.asg (.one 5) (.sub (.v 2) (.call f_l_next (.cons (.v 0) (.cons (.int 16) .nil)))))
    (.cons (.cond (.of (.cmp .eq (.v 3) (.int 0))) (.cons (.ret (.bin .add (.bin .add (.cut (.v 1) .no (.so (.v 4))) (.lst (.cons (.v 5) .nil))) (.cut (.v 1) (.so (.v 4)) .no)))
    .nil) .nil)
    (.cons (.cond (.of (.cmp .eq (.v 3) (.int 1))) (.cons (.ret (.bin .add (.cut (.v 1) .no (.so (.v 4))) (.cut (.v 1) (.so (.bin .add (.v 4) (.int 1))) .no)))
    .nil) .nil)
    (.cons (.cond (.of (.cmp .eq (.v 3) (.int 2))) (.cons (.ret (.bin .add (.bin .add (.cut (.v 1) .no (.so (.v 4))) (.lst (.cons (.v 5) .nil))) (.cut (.v 1) (.so (.bin .add (.v 4) (.int 1))) .no)))
    .nil) .nil)
    (.cons (.ret (.bin .add (.cut (.v 1) .no (.so (.bin .add (.v 4) (.int 1)))) (.cut (.v 1) (.so (.v 4)) .no)))
    .nil))))))))⟩
/- _law_asked(_law_words): 0 _law_words 1 _law_handed 2 _law_told 3 _law_caught 4 e -/
def d_l_asked : CL.FDef := ⟨1, 5,
    (.cons (.asg (.one 1) (.bf .list (.cons (.v 0) .nil)))
    (.cons (.asg (.one 2) .non)
    (.cons (.asg (.one 3) .non)
    (.cons (.tryK (some 2) (.fn f_read_kind (.cons (.pu (.v 1)) .nil)) c_ChainError 4 3)
    (.cons (.cond (.of (.cmp .ne (.v 1) (.v 0))) (.cons (.ret (.bl false))
    .nil) .nil)
    (.cons (.cond (.or (.of (.cmp .ne (.call f_l_after_kind (.cons (.v 0) (.cons (.int 0) .nil))) (.bf .len (.cons (.v 0) .nil)))) (.of (.cmp .eq (.v 0) (.lst .nil)))) (.cons (.ret (.and (.cmp .eq (.call f_l_marks (.cons (.v 3) .nil)) (.bin .add (.bin .add (.lst (.cons (.bl true) .nil)) (.bin .mul (.lst (.cons (.bl false) .nil)) (.int 6))) (.lst (.cons (.bl true) (.cons (.bl true) .nil))))) (.cmp .eq (.xfld (.v 3) "line") (.int 0))))
    .nil) .nil)
    (.cons (.ret (.and (.isN (.v 3)) (.cmp .eq (.call f_shown_kind (.cons (.v 2) .nil)) (.sm .join (.str " ") (.v 0)))))
    .nil)))))))⟩
/- law(_law_script): 0 _law_script 1 _law_row 2 _law_k 3 _law_words 4 _law_kind_here -/
def d_law : CL.FDef := ⟨1, 5,
    (.cons (.asg (.one 1) (.call f_l_stream (.cons (.v 0) .nil)))
    (.cons (.for (.one 2) (.rg1 (.int 4)) (.cons (.asT [(.one 3), (.one 4)] (.call f_l_kind (.cons (.v 1) (.cons (.int 12) (.cons (.lst (.cons (.int 0) (.cons (.int 0) (.cons (.int 14) .nil)))) .nil)))))
    (.cons (.cond (.of (.cmp .eq (.v 2) (.int 3))) (.cons (.asT [(.one 3), (.one 4)] (.call f_l_deep (.cons (.v 1) .nil)))
    .nil) .nil)
    (.cons (.cond (.and (.of (.cmp .eq (.call f_l_after_kind (.cons (.v 3) (.cons (.int 0) .nil))) (.bf .len (.cons (.v 3) .nil)))) (.not (.of (.call f_l_alike (.cons (.call f_read_kind (.cons (.bf .list (.cons (.v 3) .nil)) .nil)) (.cons (.v 4) .nil)))))) (.cons (.ret (.bl false))
    .nil) .nil)
    (.cons (.cond (.or (.not (.of (.call f_l_asked (.cons (.v 3) .nil)))) (.not (.of (.call f_l_asked (.cons (.call f_l_spoilt (.cons (.v 1) (.cons (.v 3) .nil))) .nil))))) (.cons (.ret (.bl false))
    .nil) .nil)
    (.cons (.cond (.or (.not (.of (.call f_l_asked (.cons (.call f_l_spoilt (.cons (.v 1) (.cons (.v 3) .nil))) .nil)))) (.not (.of (.call f_l_asked (.cons (.v 3) .nil))))) (.cons (.ret (.bl false))
    .nil) .nil)
    .nil))))))
    (.cons (.ret (.call f_l_asked (.cons (.lst .nil) .nil)))
    .nil)))⟩
def fns : List CL.FDef := (([d__wall, d_made_of, d_is_name, d_Words_init, d_Words_sees, d_Words_take, d_Words_want, d_Words_next_name, d_Words_finish, d_kind_in, d_read_kind, d_kind_words, d_shown_kind, d_l_stream, d_l_next, d_l_kept, d_l_name, d_l_many, d_l_kind, d_l_alike] : List CL.FDef) ++ ([d_l_marks, d_l_is_name, d_l_after_kind, d_l_deep, d_l_spoilt, d_l_asked, d_law] : List CL.FDef))
def nmF : List Str := ["_wall", "made_of", "is_name", "__init__", "sees", "take", "want", "next_name", "finish", "kind_in", "read_kind", "kind_words", "shown_kind", "_law_stream", "_law_next", "_law_kept", "_law_name", "_law_many", "_law_kind", "_law_alike", "_law_marks", "_law_is_name", "_law_after_kind", "_law_deep", "_law_spoilt", "_law_asked", "law"]
def nm : CL.Nms := ⟨fun f => nmF.getD f "", fun f => (([true, true, true, false, false, false, false, false, false, true, true, true, true, true, true, true, true, true, true, true] : List Bool) ++ ([true, true, true, true, true, true, true] : List Bool)).getD f false, fun c => (["Words", "ChainError", "NoLine", "NoNest", "NoName", "NoKind", "NoIns", "NoPass", "NoRow"] : List Str).getD c "", fun g => (["LETTERS", "KEPT", "MOST_DEEP"] : List Str).getD g ""⟩
def mts : List (Nat × Str × Nat) := [(0, "__init__", f_Words_init), (0, "sees", f_Words_sees), (0, "take", f_Words_take), (0, "want", f_Words_want), (0, "next_name", f_Words_next_name), (0, "finish", f_Words_finish)]
def flds : List (Nat × Str) := [(0, "at"), (0, "line"), (0, "words")]
def gls : List CL.Val := [(.str "abcdefghijklmnopqrstuvwxyz"), (.tup [(.str "and"), (.str "at"), (.str "def"), (.str "div"), (.str "do"), (.str "else"), (.str "end"), (.str "fail"), (.str "field"), (.str "fill"), (.str "fun"), (.str "give"), (.str "if"), (.str "let"), (.str "long"), (.str "make"), (.str "no"), (.str "not"), (.str "number"), (.str "or"), (.str "place"), (.str "put"), (.str "record"), (.str "rem"), (.str "set"), (.str "tell"), (.str "truth"), (.str "while"), (.str "yes")]), (.int 12)]
def kts : List (List CL.Val) := [[(.str "and"), (.str "at"), (.str "def"), (.str "div"), (.str "do"), (.str "else"), (.str "end"), (.str "fail"), (.str "field"), (.str "fill"), (.str "fun"), (.str "give"), (.str "if"), (.str "let"), (.str "long"), (.str "make"), (.str "no"), (.str "not"), (.str "number"), (.str "or"), (.str "place"), (.str "put"), (.str "record"), (.str "rem"), (.str "set"), (.str "tell"), (.str "truth"), (.str "while"), (.str "yes")]]
def xss : List (Nat × Nat) := [(1, 1), (2, 2), (2, 1), (3, 3), (3, 1), (4, 4), (4, 1), (5, 5), (5, 1), (6, 6), (6, 1), (7, 7), (7, 1), (8, 8), (8, 1)]
def G : CL.Prog := ⟨fun f => fns[f]?, fun c m => (mts.find? fun x => decide (x.1 = c) && decide (x.2.1 = m)).map (·.2.2), fun c => (mts.find? fun x => decide (x.1 = c) && decide (x.2.1 = ("__init__" : Str))).map (·.2.2), fun g => gls[g]?, fun c f => flds.contains (c, f), kts, fun a b => xss.contains (a, b), "line"⟩
def top (i : Nat) : Stmt := PySem.Challenge.pw_chainwright_k03_kinds_read.main.body.getD i (.Pass ⟨0, 0, 0, 0⟩)
def n__wall : List Str := ["k"]
theorem sc__wall : L2.FnScope n__wall ["k"] (L2.defScope (top 0)) := ⟨rfl, rfl, rfl, by decide +kernel, rfl, by decide +kernel, by decide +kernel⟩
theorem ch__wall : CL.chSs nm n__wall (L2.defScope (top 0)) (fun _ => true) d__wall.body (L2.defBody (top 0)) = true := by decide +kernel
def n_made_of : List Str := ["word", "signs", "sign"]
theorem sc_made_of : L2.FnScope n_made_of ["word", "signs"] (L2.defScope (top 14)) := ⟨rfl, rfl, rfl, by decide +kernel, rfl, by decide +kernel, by decide +kernel⟩
theorem ch_made_of : CL.chSs nm n_made_of (L2.defScope (top 14)) (fun _ => true) d_made_of.body (L2.defBody (top 14)) = true := by decide +kernel
def n_is_name : List Str := ["word"]
theorem sc_is_name : L2.FnScope n_is_name ["word"] (L2.defScope (top 15)) := ⟨rfl, rfl, rfl, by decide +kernel, rfl, by decide +kernel, by decide +kernel⟩
theorem ch_is_name : CL.chSs nm n_is_name (L2.defScope (top 15)) (fun _ => true) d_is_name.body (L2.defBody (top 15)) = true := by decide +kernel
def n_Words_init : List Str := ["self", "words", "line"]
theorem sc_Words_init : L2.FnScope n_Words_init ["self", "words", "line"] (L2.defScope (L2.inClass (top 16) 0)) := ⟨rfl, rfl, rfl, by decide +kernel, rfl, by decide +kernel, by decide +kernel⟩
theorem ch_Words_init : CL.chSs nm n_Words_init (L2.defScope (L2.inClass (top 16) 0)) (fun _ => true) d_Words_init.body (L2.defBody (L2.inClass (top 16) 0)) = true := by decide +kernel
def n_Words_sees : List Str := ["self", "word"]
theorem sc_Words_sees : L2.FnScope n_Words_sees ["self", "word"] (L2.defScope (L2.inClass (top 16) 1)) := ⟨rfl, rfl, rfl, by decide +kernel, rfl, by decide +kernel, by decide +kernel⟩
theorem ch_Words_sees : CL.chSs nm n_Words_sees (L2.defScope (L2.inClass (top 16) 1)) (fun _ => true) d_Words_sees.body (L2.defBody (L2.inClass (top 16) 1)) = true := by decide +kernel
def n_Words_take : List Str := ["self"]
theorem sc_Words_take : L2.FnScope n_Words_take ["self"] (L2.defScope (L2.inClass (top 16) 2)) := ⟨rfl, rfl, rfl, by decide +kernel, rfl, by decide +kernel, by decide +kernel⟩
theorem ch_Words_take : CL.chSs nm n_Words_take (L2.defScope (L2.inClass (top 16) 2)) (fun _ => true) d_Words_take.body (L2.defBody (L2.inClass (top 16) 2)) = true := by decide +kernel
def n_Words_want : List Str := ["self", "word"]
theorem sc_Words_want : L2.FnScope n_Words_want ["self", "word"] (L2.defScope (L2.inClass (top 16) 3)) := ⟨rfl, rfl, rfl, by decide +kernel, rfl, by decide +kernel, by decide +kernel⟩
theorem ch_Words_want : CL.chSs nm n_Words_want (L2.defScope (L2.inClass (top 16) 3)) (fun _ => true) d_Words_want.body (L2.defBody (L2.inClass (top 16) 3)) = true := by decide +kernel
def n_Words_next_name : List Str := ["self"]
theorem sc_Words_next_name : L2.FnScope n_Words_next_name ["self"] (L2.defScope (L2.inClass (top 16) 4)) := ⟨rfl, rfl, rfl, by decide +kernel, rfl, by decide +kernel, by decide +kernel⟩
theorem ch_Words_next_name : CL.chSs nm n_Words_next_name (L2.defScope (L2.inClass (top 16) 4)) (fun _ => true) d_Words_next_name.body (L2.defBody (L2.inClass (top 16) 4)) = true := by decide +kernel
def n_Words_finish : List Str := ["self"]
theorem sc_Words_finish : L2.FnScope n_Words_finish ["self"] (L2.defScope (L2.inClass (top 16) 5)) := ⟨rfl, rfl, rfl, by decide +kernel, rfl, by decide +kernel, by decide +kernel⟩
theorem ch_Words_finish : CL.chSs nm n_Words_finish (L2.defScope (L2.inClass (top 16) 5)) (fun _ => true) d_Words_finish.body (L2.defBody (L2.inClass (top 16) 5)) = true := by decide +kernel
def n_kind_in : List Str := ["words", "deep", "word", "kind", "kinds", "last"]
theorem sc_kind_in : L2.FnScope n_kind_in ["words", "deep"] (L2.defScope (top 17)) := ⟨rfl, rfl, rfl, by decide +kernel, rfl, by decide +kernel, by decide +kernel⟩
theorem ch_kind_in : CL.chSs nm n_kind_in (L2.defScope (top 17)) (fun _ => true) d_kind_in.body (L2.defBody (top 17)) = true := by decide +kernel
def n_read_kind : List Str := ["words", "row", "kind"]
theorem sc_read_kind : L2.FnScope n_read_kind ["words"] (L2.defScope (top 18)) := ⟨rfl, rfl, rfl, by decide +kernel, rfl, by decide +kernel, by decide +kernel⟩
theorem ch_read_kind : CL.chSs nm n_read_kind (L2.defScope (top 18)) (fun _ => true) d_read_kind.body (L2.defBody (top 18)) = true := by decide +kernel
def n_kind_words : List Str := ["kind", "words", "one"]
theorem sc_kind_words : L2.FnScope n_kind_words ["kind"] (L2.defScope (top 20)) := ⟨rfl, rfl, rfl, by decide +kernel, rfl, by decide +kernel, by decide +kernel⟩
theorem ch_kind_words : CL.chSs nm n_kind_words (L2.defScope (top 20)) (fun _ => true) d_kind_words.body (L2.defBody (top 20)) = true := by decide +kernel
def n_shown_kind : List Str := ["kind"]
theorem sc_shown_kind : L2.FnScope n_shown_kind ["kind"] (L2.defScope (top 21)) := ⟨rfl, rfl, rfl, by decide +kernel, rfl, by decide +kernel, by decide +kernel⟩
theorem ch_shown_kind : CL.chSs nm n_shown_kind (L2.defScope (top 21)) (fun _ => true) d_shown_kind.body (L2.defBody (top 21)) = true := by decide +kernel
def n_l_stream : List Str := ["_law_script"]
theorem sc_l_stream : L2.FnScope n_l_stream ["_law_script"] (L2.defScope (top 23)) := ⟨rfl, rfl, rfl, by decide +kernel, rfl, by decide +kernel, by decide +kernel⟩
theorem ch_l_stream : CL.chSs nm n_l_stream (L2.defScope (top 23)) (fun _ => true) d_l_stream.body (L2.defBody (top 23)) = true := by decide +kernel
def n_l_next : List Str := ["_law_row", "_law_many_here", "_law_cell", "_law_told"]
theorem sc_l_next : L2.FnScope n_l_next ["_law_row", "_law_many_here"] (L2.defScope (top 24)) := ⟨rfl, rfl, rfl, by decide +kernel, rfl, by decide +kernel, by decide +kernel⟩
theorem ch_l_next : CL.chSs nm n_l_next (L2.defScope (top 24)) (fun _ => true) d_l_next.body (L2.defBody (top 24)) = true := by decide +kernel
def n_l_kept : List Str := ["_law_some"]
theorem sc_l_kept : L2.FnScope n_l_kept [] (L2.defScope (top 25)) := ⟨rfl, rfl, rfl, by decide +kernel, rfl, by decide +kernel, by decide +kernel⟩
theorem ch_l_kept : CL.chSs nm n_l_kept (L2.defScope (top 25)) (fun _ => true) d_l_kept.body (L2.defBody (top 25)) = true := by decide +kernel
def n_l_name : List Str := ["_law_row", "_law_letters", "_law_some", "_law_name_here", "_law_k", "_law_word"]
theorem sc_l_name : L2.FnScope n_l_name ["_law_row"] (L2.defScope (top 26)) := ⟨rfl, rfl, rfl, by decide +kernel, rfl, by decide +kernel, by decide +kernel⟩
theorem ch_l_name : CL.chSs nm n_l_name (L2.defScope (top 26)) (fun _ => true) d_l_name.body (L2.defBody (top 26)) = true := by decide +kernel
def n_l_many : List Str := ["_law_row", "_law_most", "_law_many_here"]
theorem sc_l_many : L2.FnScope n_l_many ["_law_row", "_law_most"] (L2.defScope (top 27)) := ⟨rfl, rfl, rfl, by decide +kernel, rfl, by decide +kernel, by decide +kernel⟩
theorem ch_l_many : CL.chSs nm n_l_many (L2.defScope (top 27)) (fun _ => true) d_l_many.body (L2.defBody (top 27)) = true := by decide +kernel
def n_l_kind : List Str := ["_law_row", "_law_deep_here", "_law_left", "_law_way", "_law_words", "_law_kinds", "_law_k", "_law_name_here", "_law_some", "_law_kind_here"]
theorem sc_l_kind : L2.FnScope n_l_kind ["_law_row", "_law_deep_here", "_law_left"] (L2.defScope (top 28)) := ⟨rfl, rfl, rfl, by decide +kernel, rfl, by decide +kernel, by decide +kernel⟩
theorem ch_l_kind : CL.chSs nm n_l_kind (L2.defScope (top 28)) (fun _ => true) d_l_kind.body (L2.defBody (top 28)) = true := by decide +kernel
def n_l_alike : List Str := ["_law_found", "_law_due", "_law_one", "_law_other"]
theorem sc_l_alike : L2.FnScope n_l_alike ["_law_found", "_law_due"] (L2.defScope (top 29)) := ⟨rfl, rfl, rfl, by decide +kernel, rfl, by decide +kernel, by decide +kernel⟩
theorem ch_l_alike : CL.chSs nm n_l_alike (L2.defScope (top 29)) (fun _ => true) d_l_alike.body (L2.defBody (top 29)) = true := by decide +kernel
def n_l_marks : List Str := ["_law_caught", "_law_found"]
theorem sc_l_marks : L2.FnScope n_l_marks ["_law_caught"] (L2.defScope (top 30)) := ⟨rfl, rfl, rfl, by decide +kernel, rfl, by decide +kernel, by decide +kernel⟩
theorem ch_l_marks : CL.chSs nm n_l_marks (L2.defScope (top 30)) (fun _ => true) d_l_marks.body (L2.defBody (top 30)) = true := by decide +kernel
def n_l_is_name : List Str := ["_law_word", "_law_sign"]
theorem sc_l_is_name : L2.FnScope n_l_is_name ["_law_word"] (L2.defScope (top 31)) := ⟨rfl, rfl, rfl, by decide +kernel, rfl, by decide +kernel, by decide +kernel⟩
theorem ch_l_is_name : CL.chSs nm n_l_is_name (L2.defScope (top 31)) (fun _ => true) d_l_is_name.body (L2.defBody (top 31)) = true := by decide +kernel
def n_l_after_kind : List Str := ["_law_words", "_law_at", "_law_marks_here", "_law_word", "_law_done"]
theorem sc_l_after_kind : L2.FnScope n_l_after_kind ["_law_words", "_law_at"] (L2.defScope (top 32)) := ⟨rfl, rfl, rfl, by decide +kernel, rfl, by decide +kernel, by decide +kernel⟩
theorem ch_l_after_kind : CL.chSs nm n_l_after_kind (L2.defScope (top 32)) (fun _ => true) d_l_after_kind.body (L2.defBody (top 32)) = true := by decide +kernel
def n_l_deep : List Str := ["_law_row", "_law_k", "_law_words", "_law_kind_here"]
theorem sc_l_deep : L2.FnScope n_l_deep ["_law_row"] (L2.defScope (top 33)) := ⟨rfl, rfl, rfl, by decide +kernel, rfl, by decide +kernel, by decide +kernel⟩
theorem ch_l_deep : CL.chSs nm n_l_deep (L2.defScope (top 33)) (fun _ => true) d_l_deep.body (L2.defBody (top 33)) = true := by decide +kernel
def n_l_spoilt : List Str := ["_law_row", "_law_words", "_law_some", "_law_way", "_law_at", "_law_word"]
theorem sc_l_spoilt : L2.FnScope n_l_spoilt ["_law_row", "_law_words"] (L2.defScope (top 34)) := ⟨rfl, rfl, rfl, by decide +kernel, rfl, by decide +kernel, by decide +kernel⟩
theorem ch_l_spoilt : CL.chSs nm n_l_spoilt (L2.defScope (top 34)) (fun _ => true) d_l_spoilt.body (L2.defBody (top 34)) = true := by decide +kernel
def n_l_asked : List Str := ["_law_words", "_law_handed", "_law_told", "_law_caught", "e"]
theorem sc_l_asked : L2.FnScope n_l_asked ["_law_words"] (L2.defScope (top 35)) := ⟨rfl, rfl, rfl, by decide +kernel, rfl, by decide +kernel, by decide +kernel⟩
theorem ch_l_asked : CL.chSs nm n_l_asked (L2.defScope (top 35)) (fun _ => true) d_l_asked.body (L2.defBody (top 35)) = true := by decide +kernel
def n_law : List Str := ["_law_script", "_law_row", "_law_k", "_law_words", "_law_kind_here"]
theorem sc_law : L2.FnScope n_law ["_law_script"] (L2.defScope (top 36)) := ⟨rfl, rfl, rfl, by decide +kernel, rfl, by decide +kernel, by decide +kernel⟩
theorem ch_law : CL.chSs nm n_law (L2.defScope (top 36)) (fun _ => true) d_law.body (L2.defBody (top 36)) = true := by decide +kernel
abbrev fuel : Nat := 1000000
end LK03
set_option maxHeartbeats 4000000
namespace LK03
open CL Md
local macro_rules | `(tactic| walk_at "sub") => `(tactic| first | with_reducible exact sub_one | with_reducible assumption | with_reducible exact sub_all | with_reducible exact sub_here | ((with_reducible apply sub_cons); walk_at "sub") | ((with_reducible apply sub_there); walk_at "sub"))
local macro_rules | `(tactic| walk_at "upd") => `(tactic| first | with_reducible exact Upd.here | ((with_reducible apply Upd.there); walk_at "upd") | ((with_reducible apply Upd.left); walk_at "upd"))
local macro_rules | `(tactic| walk_at "subs") => `(tactic| first | ((with_reducible apply sub_add); (· walk_at "sub"); walk_at "subs") | walk_at "sub" | with_reducible exact sub_nil)
local macro_rules | `(tactic| walk_at "look") => `(tactic| first | with_reducible exact LookD.here | ((with_reducible apply LookD.there); (· exact rfl); walk_at "look"))
local macro_rules | `(tactic| walk_at "put") => `(tactic| first | with_reducible exact PutD.nil | ((with_reducible apply PutD.here); (· exact rfl)) | ((with_reducible apply PutD.there); (· exact rfl); walk_at "put"))
local macro_rules | `(tactic| walk_at "lk") => `(tactic| (simp (disch := omega) only [Md.looks, Md.lookE_here, Md.lookE_there] <;> rfl))
local macro_rules | `(tactic| walk_at "pt") => `(tactic| (simp (disch := omega) only [Md.putE_nil, Md.putE_cons_ne] <;> rfl))
local macro_rules | `(tactic| walk_at "1e1") => `(tactic| first
  | ((with_reducible apply e_v); (· exact rfl))
  | ((with_reducible apply e_int))
  | ((with_reducible apply e_str))
  | ((with_reducible apply e_sub)))
local macro_rules | `(tactic| walk_at "1e2") => `(tactic| first
  | ((with_reducible apply e_callN))
  | ((with_reducible apply e_cmp))
  | ((with_reducible apply e_tup))
  | ((with_reducible apply e_bin))
  | ((with_reducible apply e_fld))
  | ((with_reducible apply e_non))
  | ((with_reducible apply e_bf)))
local macro_rules | `(tactic| walk_at "1e3") => `(tactic| first
  | ((with_reducible apply e_cut))
  | ((with_reducible apply e_bl))
  | ((with_reducible apply e_bm))
  | ((with_reducible apply e_metN))
  | ((with_reducible apply e_makeN))
  | ((with_reducible apply e_lst))
  | ((with_reducible apply e_ite))
  | ((with_reducible apply e_lc'))
  | ((with_reducible apply e_dic)))
local macro_rules | `(tactic| walk_at "1e4") => `(tactic| first
  | ((with_reducible apply e_and))
  | ((with_reducible apply e_or))
  | ((with_reducible apply e_not))
  | ((with_reducible apply e_isN))
  | ((with_reducible apply e_noN))
  | ((with_reducible apply e_cm2))
  | ((with_reducible apply e_neg))
  | ((with_reducible apply e_isi))
  | ((with_reducible apply e_lzip))
  | ((with_reducible apply e_lrg1))
  | ((with_reducible apply e_lrg2))
  | ((with_reducible apply e_cut3))
  | ((with_reducible apply e_sset))
  | ((with_reducible apply e_get2))
  | ((with_reducible apply e_dzip))
  | ((with_reducible apply e_dcallN); (· exact rfl))
  | ((with_reducible apply e_gl); (· exact rfl))
  | ((with_reducible apply e_sm))
  | ((with_reducible apply e_isX))
  | ((with_reducible apply e_xfld)))
local macro_rules | `(tactic| walk_at "1S") => `(tactic| first
  | ((with_reducible apply ss_cons))
  | ((with_reducible apply ss_nil)))
local macro_rules | `(tactic| walk_at "1s1") => `(tactic| first
  | ((with_reducible apply s_cond))
  | ((with_reducible apply s_ret))
  | ((with_reducible apply s_asg1))
  | ((with_reducible apply s_ex))
  | ((with_reducible apply s_asgf))
  | ((with_reducible apply s_asgs)))
local macro_rules | `(tactic| walk_at "1s2") => `(tactic| first
  | ((with_reducible apply s_auf))
  | ((with_reducible apply s_asT))
  | ((with_reducible apply s_par))
  | ((with_reducible apply s_aus))
  | ((with_reducible apply s_aug); (· exact rfl))
  | ((with_reducible apply s_for))
  | ((with_reducible apply s_whl))
  | ((with_reducible apply s_rtN))
  | ((with_reducible apply s_pass))
  | ((with_reducible apply s_cnt))
  | ((with_reducible apply s_brk)))
local macro_rules | `(tactic| walk_at "1v") => `(tactic| first
  | ((with_reducible apply e_cons))
  | ((with_reducible apply e_nil)))
local macro_rules | `(tactic| walk_at "1o") => `(tactic| first
  | ((with_reducible apply e_no))
  | ((with_reducible apply e_so)))
local macro_rules | `(tactic| walk_at "1d") => `(tactic| first
  | ((with_reducible apply ep_nil))
  | ((with_reducible apply ep_cons)))
local macro_rules | `(tactic| walk_at "1b") => `(tactic| first
  | ((with_reducible apply b_of))
  | ((with_reducible apply b_and))
  | ((with_reducible apply b_or))
  | ((with_reducible apply b_not))
  | ((with_reducible apply b_yes)))
local macro_rules | `(tactic| walk_at "1x") => `(tactic| first
  | ((with_reducible apply x_tup); (· first | exact rfl | exact atI_zero))
  | ((with_reducible apply x_dS); (· walk_at "sub"); (· exact rfl); (· walk_at "look"))
  | ((with_reducible apply x_lst); (· walk_at "sub"); (· first | exact rfl | exact atI_zero)))
local macro_rules | `(tactic| walk_at "1c") => `(tactic| first
  | ((with_reducible apply c_eqs))
  | ((with_reducible apply c_int); (· exact rfl))
  | ((with_reducible apply c_eqi))
  | ((with_reducible apply c_nei))
  | ((with_reducible apply c_lt))
  | ((with_reducible apply c_le))
  | ((with_reducible apply c_gt))
  | ((with_reducible apply c_ge))
  | ((with_reducible apply c_nes))
  | ((with_reducible apply c_ltB)))
local macro_rules | `(tactic| walk_at "1p") => `(tactic| first
  | ((with_reducible apply p_add'))
  | ((with_reducible apply p_sub'))
  | ((with_reducible apply p_addl'); (· walk_at "sub"); (· walk_at "sub"); (· exact rfl)))
local macro_rules | `(tactic| walk_at "1f") => `(tactic| first
  | ((with_reducible apply f_lent))
  | ((with_reducible apply f_lenl); (· walk_at "sub"))
  | ((with_reducible apply f_listt))
  | ((with_reducible apply f_listl); (· walk_at "sub"))
  | ((with_reducible apply f_tupl); (· walk_at "sub"))
  | ((with_reducible apply f_tupt)))
local macro_rules | `(tactic| walk_at "1r") => `(tactic| first
  | ((with_reducible apply br_t); (· exact rfl))
  | ((with_reducible apply br_f); (· exact rfl)))
local macro_rules | `(tactic| walk_at "1a") => `(tactic| first
  | ((with_reducible apply a_nil))
  | ((with_reducible apply a_one))
  | ((with_reducible apply a_sub))
  | ((with_reducible apply a_fld)))
local macro_rules | `(tactic| walk_at "1i") => `(tactic| first
  | ((with_reducible apply i_of))
  | ((with_reducible apply i_tup))
  | ((with_reducible apply i_lst); (· walk_at "sub"))
  | ((with_reducible apply i_zip))
  | ((with_reducible apply i_rg1))
  | ((with_reducible apply i_rg2))
  | ((with_reducible apply i_rg3))
  | ((with_reducible apply i_enu)))
local macro_rules | `(tactic| walk_at "1y") => `(tactic| first
  | ((with_reducible apply x_fld); (· walk_at "sub"); (· exact rfl); (· exact rfl))
  | ((with_reducible apply y_fld); (· walk_at "upd"); (· exact rfl); (· exact Nat.le_of_ble_eq_true rfl))
  | ((with_reducible apply d_gS); (· walk_at "sub"); (· exact rfl); (· walk_at "look"))
  | ((with_reducible apply d_pS); (· walk_at "sub"); (· exact rfl); (· walk_at "put"); (· exact Nat.le_of_ble_eq_true rfl); (· walk_at "upd"))
  | ((with_reducible apply y_dS); (· walk_at "sub"); (· exact rfl); (· walk_at "put"); (· exact Nat.le_of_ble_eq_true rfl); (· walk_at "upd"))
  | ((with_reducible apply x_cutt); (· exact rfl); (· exact rfl))
  | ((with_reducible apply x_cutl); (· walk_at "sub"); (· exact rfl); (· exact rfl))
  | ((with_reducible apply o_add))
  | ((with_reducible apply o_sub)))
local macro_rules | `(tactic| walk_at "1t") => `(tactic| first
  | ((with_reducible apply t_bool))
  | ((with_reducible apply t_int'))
  | ((with_reducible apply t_tup'))
  | ((with_reducible apply t_str'))
  | ((with_reducible apply t_bl'))
  | ((with_reducible apply t_non))
  | ((with_reducible apply t_lst'); (· walk_at "sub"))
  | ((with_reducible apply t_int)))
local macro_rules | `(tactic| walk_at "1z") => `(tactic| first
  | ((with_reducible refine And.intro (small62_of ?_) ?_); (· omega))
  | with_reducible refine And.intro rfl ?_
  | refine ⟨_, _, _, _, _, rfl, by walk_at "sub", rfl, rfl, Nat.le_of_ble_eq_true rfl, ?_⟩
  | refine ⟨_, _, _, _, _, rfl, by walk_at "sub", rfl, rfl, ?_⟩
  | refine ⟨_, _, _, rfl, by walk_at "sub", ?_⟩
  | refine ⟨_, its_tup, ?_⟩
  | refine ⟨_, its_lst (by walk_at "sub"), ?_⟩
  | refine ⟨_, by walk_at "upd", ?_⟩
  | refine ⟨_, _, rfl, Nat.le_of_ble_eq_true rfl, by walk_at "upd", ?_⟩
  | refine ⟨_, rfl, ?_⟩
  | refine And.intro rfl ?_)
local macro_rules | `(tactic| walk_at "1E") => `(tactic| first
  | ((with_reducible apply es_cons))
  | ((with_reducible apply es_nil)))
local macro_rules | `(tactic| walk_at "1E1") => `(tactic| first
  | ((with_reducible apply es_cond))
  | ((with_reducible apply es_condX))
  | ((with_reducible apply es_exX))
  | ((with_reducible apply es_asX))
  | ((with_reducible apply es_retX))
  | ((with_reducible apply es_rse1); (· exact rfl); (· (dsimp only [cxN]; omega)))
  | ((with_reducible apply es_rse0); (· exact rfl); (· (dsimp only [cxN]; omega)))
  | ((with_reducible apply es_for))
  | ((with_reducible apply es_whl))
  | ((with_reducible apply es_leaf)))
local macro_rules | `(tactic| walk_at "1E2") => `(tactic| first
  | ((with_reducible apply ex_pu))
  | ((with_reducible apply ex_fnN); (· exact rfl))
  | ((with_reducible apply ex_metN))
  | ((with_reducible apply ex_tup))
  | ((with_reducible apply ex_cmp))
  | ((with_reducible apply ex_app)))
local macro_rules | `(tactic| walk_at "1E3") => `(tactic| first
  | ((with_reducible apply ex_cons))
  | ((with_reducible apply ex_nil)))
local macro_rules | `(tactic| walk_at "1m") => `(tactic| first
  | ((with_reducible apply m_starts)))
/-- one step of a run -/
local macro_rules | `(tactic| walk_at "1") => `(tactic| first
  | ((with_reducible show WEs _ _ _ _ _ _ _ _ _ _); walk_at "1E")
  | ((with_reducible show WES _ _ _ _ _ _ _ _ _ _); walk_at "1E1")
  | ((with_reducible show WE _ (evX _ _ _) _ _ _); walk_at "1E2")
  | ((with_reducible show WE _ (evXs _ _ _) _ _ _); walk_at "1E3")
  | ((with_reducible show WP _ (smt _ _ _) _ _); walk_at "1m")
  | ((with_reducible show WP _ (ev _ _ _) _ _); (first | walk_at "1e1" | walk_at "1e2" | walk_at "1e3" | walk_at "1e4"))
  | ((with_reducible show WP _ (subV _ _ _) _ _); walk_at "1x")
  | ((with_reducible show WSs _ _ _ _ _ _ _ _ _); walk_at "1S")
  | ((with_reducible show WS _ _ _ _ _ _ _ _ _); (first | walk_at "1s1" | walk_at "1s2"))
  | ((with_reducible show WP _ (evs _ _ _) _ _); walk_at "1v")
  | ((with_reducible show Br _ _ _); walk_at "1r")
  | ((with_reducible show WP _ (ts _ _ _) _ _); walk_at "1b")
  | ((with_reducible show WP _ (cop _ _ _ _) _ _); walk_at "1c")
  | ((with_reducible show WP _ (bop _ _ _) _ _); walk_at "1p")
  | ((with_reducible show WP _ (bfn _ _) _ _); walk_at "1f")
  | ((with_reducible show WP _ (evo _ _ _) _ _); walk_at "1o")
  | ((with_reducible show WP _ (evp _ _ _) _ _); walk_at "1d")
  | ((with_reducible show WQ _ _ _ _); walk_at "1i")
  | ((with_reducible show WT _ _ _ _ _ _ _); walk_at "1a")
  | ((with_reducible show WP _ _ _ _); (first | walk_at "1t" | walk_at "1y"))
  | walk_at "1z"
  | (with_reducible intro))
local macro_rules | `(tactic| walk_at "w") => `(tactic| repeat walk_at "1")
/-- into a def's body, errors told -/
local macro_rules | `(tactic| walk_at "inX") => `(tactic| (refine we_callB rfl rfl ?_; dsimp only [List.map, List.reduceReplicate, List.replicate_zero, List.cons_append, List.nil_append, List.append_nil, Nat.reduceSub, Nat.sub_self]))
/-- into a def's body -/
local macro_rules | `(tactic| walk_at "in") => `(tactic| (refine w_callB rfl rfl ?_; dsimp only [List.map, List.reduceReplicate, List.replicate_zero, List.cons_append, List.nil_append, List.append_nil, Nat.reduceSub, Nat.sub_self]))
section
open PySem (Str)
/-- the words of a kind -/
def kw : Kd → List PySem.Str
  | .num => ["number"]
  | .tru => ["truth"]
  | .rc r => [r]
  | .row k => "[" :: (kw k ++ [("]" : PySem.Str)])
  | .fn ps k => "(" :: (kws ps ++ ((":" : PySem.Str) :: (kw k ++ [(")" : PySem.Str)])))
where kws : List Kd → List PySem.Str
  | [] => []
  | k :: r => kw k ++ kws r
theorem kdvs : ∀ ks : List Kd, Kd.vs ks = ks.map Kd.v
  | [] => rfl
  | k :: r => by rw [Kd.vs, kdvs r]; rfl
def inLets (s : PySem.Str) : Bool := !(PySem.Builtin.Str.occurrences "abcdefghijklmnopqrstuvwxyz" s 0 (PySem.Str.ofString "abcdefghijklmnopqrstuvwxyz").length 1).isEmpty
def keptW : List PySem.Str := ["and", "at", "def", "div", "do", "else", "end", "fail", "field", "fill", "fun", "give", "if", "let", "long", "make", "no", "not", "number", "or", "place", "put", "record", "rem", "set", "tell", "truth", "while", "yes"]
def madeOf (w : PySem.Str) : Bool := w.cps.toList.all (fun c => inLets ⟨#[c]⟩) && decide (0 < w.length)
def isName (w : PySem.Str) : Bool := madeOf w && (decide (w.length ≤ 8) && !(keptW.any fun x => decide (x = w)))
/-- things up to a colon -/
def many (f : List PySem.Str → Option (Kd × List PySem.Str)) : Nat → List PySem.Str → Option (List Kd × List PySem.Str)
  | 0, _ => none
  | n + 1, ws => if ws.head? = some (":" : PySem.Str) then some ([], ws) else match f ws with
    | none => none
    | some (k, r) => match many f n r with
      | none => none
      | some (ks, r) => some (k :: ks, r)
/-- a kind that comes next, so many deep at most -/
def pk : Nat → List PySem.Str → Option (Kd × List PySem.Str)
  | 0, _ => none
  | _ + 1, [] => none
  | b + 1, w :: r => if w = "number" then some (.num, r) else if w = "truth" then some (.tru, r) else if w = "[" then (match pk b r with
      | some (k, x :: r') => if x = "]" then some (.row k, r') else none
      | _ => none)
    else if w = "(" then (match many (pk b) (r.length + 1) r with
      | some (ks, x :: r1) => if x = ":" then (match pk b r1 with
        | some (k, y :: r2) => if y = ")" then some (.fn ks k, r2) else none
        | _ => none) else none
      | _ => none)
    else if isName w then some (.rc w, r) else none
theorem many_eq {f : List PySem.Str → Option (Kd × List PySem.Str)} (hf : ∀ ws k r, f ws = some (k, r) → ws = kw k ++ r) : ∀ (n : Nat) (ws : List PySem.Str) (ks : List Kd) (r : List PySem.Str), many f n ws = some (ks, r) → ws = kw.kws ks ++ r
  | 0, ws, ks, r, h => by simp [many] at h
  | n + 1, ws, ks, r, h => by
    unfold many at h
    split at h
    · cases h; rfl
    · split at h
      · cases h
      · rename_i k r1 e1
        split at h
        · cases h
        · rename_i ks' r2 e2
          cases h
          rw [hf _ _ _ e1, many_eq hf n _ _ _ e2, kw.kws, List.append_assoc]
theorem pk_eq : ∀ (b : Nat) (ws : List PySem.Str) (k : Kd) (r : List PySem.Str), pk b ws = some (k, r) → ws = kw k ++ r
  | 0, ws, k, r, h => by simp [pk] at h
  | b + 1, [], k, r, h => by simp [pk] at h
  | b + 1, w :: rest, k, r, h => by
    unfold pk at h
    split at h
    · rename_i e; cases h; rw [e]; rfl
    · split at h
      · rename_i e; cases h; rw [e]; rfl
      · split at h
        · rename_i e
          split at h
          · rename_i k' x r' e1
            split at h
            · rename_i ex
              cases h
              rw [e, pk_eq b _ _ _ e1, ex, kw]; simp
            · cases h
          · cases h
        · split at h
          · rename_i e
            split at h
            · rename_i ks x r1 e1
              split at h
              · rename_i ex
                split at h
                · rename_i k' y r2 e2
                  split at h
                  · rename_i ey
                    cases h
                    rw [e, many_eq (pk_eq b) _ _ _ _ e1, ex, pk_eq b _ _ _ e2, ey, kw]; simp
                  · cases h
                · cases h
              · cases h
            · cases h
          · split at h
            · cases h; rfl
            · cases h
end
abbrev wO (p : Nat) (l : Int) (n : Nat) : Ob := .ins c_Words [("words", .ref p), ("line", .int l), ("at", .int (n : Nat))]
abbrev wsO (ws : List PySem.Str) : Ob := .lst (ws.map .str)
section
variable {B H R R' : HL} {d : Nat} {Q : Val → HL → Prop} {E : XT}
theorem sp_sees {w p n : Nat} {l : Int} {ws : List PySem.Str} {x : PySem.Str} (hp : Sub H [(w, wO p l n), (p, wsO ws)] R) (q : Q (.bl (decide (ws[n]? = some x))) ((w, wO p l n) :: (p, wsO ws) :: R)) : WP B (callN G fuel (d + 1) f_Words_sees [.ref w, .str x]) H Q := by
  refine wp_perm (show H.Perm ((w, wO p l n) :: (p, wsO ws) :: R) from hp) ?_
  walk_at "in"
  walk_at "w"
  refine br_dec (fun hn => ?_) fun hn => ?_
  · have hn : n < ws.length := by simpa using hn
    have hg : ws[n]? = some ws[n] := List.getElem?_eq_getElem hn
    walk_at "w"
    refine x_lst (by walk_at "sub") (v := .str ws[n]) (atI_nat (by rw [List.getElem?_map, hg]; rfl)) ?_
    walk_at "w"
    rw [hg, show decide (some ws[n] = some x) = decide (ws[n] = x) by simp] at q
    exact conv0 q
  · have hn : ¬ n < ws.length := by simpa using hn
    rw [List.getElem?_eq_none (by omega)] at q
    exact conv0 q
theorem sp_take {w p n : Nat} {l : Int} {ws : List PySem.Str} (hp : Sub H [(w, wO p l n), (p, wsO ws)] R) (hl : ws.length ≤ 900000) (hn : n ≤ ws.length) (q : ∀ x, ws[n]? = some x → Q (.str x) ((w, wO p l (n + 1)) :: (p, wsO ws) :: R)) (qe : ws[n]? = none → E c_NoLine [("line", .int l)] R) :
    WE B (callN G fuel (d + 3) f_Words_take [.ref w]) H Q E := by
  refine we_perm (show H.Perm ((w, wO p l n) :: (p, wsO ws) :: R) from hp) ?_
  walk_at "inX"
  walk_at "w"
  refine br_dec (fun hz => ?_) fun hz => ?_
  · simp only [List.length_map] at hz
    walk_at "w"
    exact convx (K := R) (X := [_, _]) (List.perm_append_comm (l₁ := [_, _])) (qe (by rw [List.getElem?_eq_none (by omega)]))
  · simp only [List.length_map] at hz
    have hg : ws[n]? = some ws[n] := List.getElem?_eq_getElem (by omega)
    walk_at "w"
    rw [show (n : Int) + 1 - 1 = (n : Int) by omega]
    refine x_lst (by walk_at "sub") (v := .str ws[n]) (atI_nat (by rw [List.getElem?_map, hg]; rfl)) ?_
    exact conv0 (q _ hg)
theorem sp_want {w p n : Nat} {l : Int} {ws : List PySem.Str} {x : PySem.Str} (hp : Sub H [(w, wO p l n), (p, wsO ws)] R) (hl : ws.length ≤ 900000) (hn : n ≤ ws.length) (q : ws[n]? = some x → Q .non ((w, wO p l (n + 1)) :: (p, wsO ws) :: R)) (qe : ws[n]? ≠ some x → E c_NoLine [("line", .int l)] R) :
    WE B (callN G fuel (d + 4) f_Words_want [.ref w, .str x]) H Q E := by
  refine we_perm (show H.Perm ((w, wO p l n) :: (p, wsO ws) :: R) from hp) ?_
  walk_at "inX"
  walk_at "w"
  refine sp_take (by walk_at "subs") hl hn (fun y hy => ?_) (fun hy => convx_keep (qe (by rw [hy]; simp)))
  walk_at "w"
  refine ⟨fun hz => ?_, fun hz => ?_⟩
  · simp only [Bool.not_eq_true', decide_eq_false_iff_not] at hz
    walk_at "w"
    exact convx (K := R) (X := [_, _]) (List.perm_append_comm (l₁ := [_, _])) (qe (by rw [hy]; simpa using hz))
  · simp only [Bool.not_eq_false', decide_eq_true_eq] at hz
    walk_at "w"
    exact conv0 (q (by rw [hy, hz]))
theorem sp_finish {w p n : Nat} {l : Int} {ws : List PySem.Str} (hp : Sub H [(w, wO p l n), (p, wsO ws)] R) (q : ws.length ≤ n → Q .non R) (qe : n < ws.length → E c_NoLine [("line", .int l)] R) :
    WE B (callN G fuel (d + 3) f_Words_finish [.ref w]) H Q E := by
  refine we_perm (show H.Perm ((w, wO p l n) :: (p, wsO ws) :: R) from hp) ?_
  walk_at "inX"
  walk_at "w"
  refine br_dec (fun hz => ?_) fun hz => ?_
  · simp only [List.length_map] at hz
    walk_at "w"
    exact convx (K := R) (X := [_, _]) (List.perm_append_comm (l₁ := [_, _])) (qe (by omega))
  · simp only [List.length_map] at hz
    walk_at "w"
    exact conv (K := R) (X := [_, _]) (List.perm_append_comm (l₁ := [_, _])) (q (by omega))
end
section
variable {B H R R' : HL} {d : Nat} {Q : Val → HL → Prop} {E : XT}
theorem c_hasS {kt : List (List Val)} {x z : PySem.Str} (q : Q (.bl (!(PySem.Builtin.Str.occurrences z x 0 z.length 1).isEmpty)) H) : WP B (cop kt .has (.str x) (.str z)) H Q := wp_of (fun st F s => by simp only [cop, inV, okB]) q
theorem c_hasntS {kt : List (List Val)} {x z : PySem.Str} (q : Q (.bl (!!(PySem.Builtin.Str.occurrences z x 0 z.length 1).isEmpty)) H) : WP B (cop kt .hasnt (.str x) (.str z)) H Q := wp_of (fun st F s => by simp only [cop, inV, okB, notO]) q
theorem any_str (w : PySem.Str) : ∀ ks : List PySem.Str, (ks.map Val.str).any (fun y => eqF y (.str w)) = ks.any fun x => decide (x = w)
  | [] => rfl
  | k :: r => by rw [List.map_cons, List.any_cons, List.any_cons, any_str w r]; rfl
theorem all_sc : ∀ ks : List PySem.Str, (ks.map Val.str).all scalar = true
  | [] => rfl
  | k :: r => by rw [List.map_cons, List.all_cons, all_sc r]; rfl
theorem c_hasntT {kt : List (List Val)} {x : PySem.Str} {ks : List PySem.Str} (q : Q (.bl (!(ks.any fun y => decide (y = x)))) H) : WP B (cop kt .hasnt (.str x) (.tup (ks.map .str))) H Q := wp_of (fun st F s => by
  have : inFlat (.str x) (ks.map Val.str) = some (ks.any fun y => decide (y = x)) := by
    unfold inFlat
    rw [all_sc, any_str]; rfl
  simp only [cop, inV, okB, notO, this]) q
def lettersV : PySem.Str := "abcdefghijklmnopqrstuvwxyz"
theorem made_loop {w : PySem.Str} {N : Env → HL → Prop} {T : Val → HL → Prop} : ∀ (cs : List Nat) (a2 : Option Val), (¬ (cs.all fun c => inLets ⟨#[c]⟩) = true → T (.bl false) H) → ((cs.all fun c => inLets ⟨#[c]⟩) = true → ∀ a2, N [some (.str w), some (.str lettersV), a2] H) →
    WF B (cxN G fuel d) (.one 2) (match d_made_of.body with | .cons (.for _ _ b) _ => b | _ => .nil) [] (cs.map fun c => .str ⟨#[c]⟩) [some (.str w), some (.str lettersV), a2] H N T
  | [], a2, _, n => for_nil sees_nil (n rfl a2)
  | c :: cs, a2, t, n => by
    rw [List.map_cons]
    refine for_cons sees_nil rfl ?_
    unfold d_made_of
    dsimp only
    walk_at "w"
    refine c_hasntS ?_
    walk_at "w"
    refine ⟨fun hb => ?_, fun hb => ?_⟩
    · have hc : inLets ⟨#[c]⟩ = false := by
        rw [Bool.not_not] at hb
        show (!_) = false
        rw [show (PySem.Str.ofString "abcdefghijklmnopqrstuvwxyz") = lettersV from rfl, hb]; rfl
      walk_at "w"
      exact t (by rw [List.all_cons, hc]; simp)
    · have hc : inLets ⟨#[c]⟩ = true := by
        rw [Bool.not_not] at hb
        show (!_) = true
        rw [show (PySem.Str.ofString "abcdefghijklmnopqrstuvwxyz") = lettersV from rfl, hb]; rfl
      walk_at "w"
      refine made_loop cs _ (fun h => t (by rw [List.all_cons, hc, Bool.true_and]; exact h)) (fun h => n (by rw [List.all_cons, hc, Bool.true_and]; exact h))
theorem i_strW {z : PySem.Str} {P : List Val → Watch → HL → Prop} (q : P (z.cps.toList.map fun c => .str ⟨#[c]⟩) [] H) : WQ B (walkOf (.str z)) H P := wp_of (a := (z.cps.toList.map fun c => Val.str ⟨#[c]⟩, [])) (fun st F s => by simp only [walkOf]) q
theorem f_lenS {z : PySem.Str} (h : z.length ≤ 1000000) (q : Q (.int (z.length : Nat)) H) : WP B (bfn .len [.str z]) H Q := wp_of (fun st F s => by simp only [bfn]; rw [if_pos (fits_small h)]) q
theorem sp_made {w : PySem.Str} (hl : w.length ≤ 1000000) (q : Q (.bl (madeOf w)) H) : WP B (callN G fuel (d + 1) f_made_of [.str w, .str lettersV]) H Q := by
  walk_at "in"
  walk_at "w"
  refine i_strW ?_
  refine made_loop w.cps.toList none (fun h => ?_) fun h a2 => ?_
  · have : madeOf w = false := by
      unfold madeOf
      rw [Bool.eq_false_iff.mpr h, Bool.false_and]
    rw [this] at q
    exact conv0 q
  · have : madeOf w = decide (0 < w.length) := by
      unfold madeOf
      rw [h, Bool.true_and]
    rw [this] at q
    walk_at "w"
    refine f_lenS hl ?_
    walk_at "w"
    have e : decide ((0 : Int) < (w.length : Int)) = decide (0 < w.length) := by
      by_cases hz : 0 < w.length
      · rw [decide_eq_true hz, decide_eq_true (by omega)]
      · rw [decide_eq_false hz, decide_eq_false (by omega)]
    rw [e]
    exact conv0 q
theorem sp_is_name {w : PySem.Str} (hl : w.length ≤ 1000000) (q : Q (.bl (isName w)) H) : WP B (callN G fuel (d + 2) f_is_name [.str w]) H Q := by
  walk_at "in"
  walk_at "w"
  refine sp_made hl ⟨_, rfl, fun h => ?_, fun h => ?_⟩
  · have e : isName w = (decide (w.length ≤ 8) && !(keptW.any fun x => decide (x = w))) := by unfold isName; rw [h, Bool.true_and]
    rw [e] at q
    walk_at "w"
    refine f_lenS hl ?_
    walk_at "w"
    refine br_dec (fun h8 => ?_) fun h8 => ?_
    · rw [decide_eq_true (by omega : w.length ≤ 8), Bool.true_and] at q
      walk_at "w"
      refine c_hasntT (ks := keptW) ?_
      exact conv0 q
    · rw [decide_eq_false (by omega : ¬ w.length ≤ 8), Bool.false_and] at q
      exact conv0 q
  · have e : isName w = false := by unfold isName; rw [h, Bool.false_and]
    rw [e] at q
    exact conv0 q
end
section
variable {B : HL}
/-- what kind_in promises, so many deep at most -/
def KindSp (B : HL) (b : Nat) : Prop := ∀ {H R : HL} {d w p n : Nat} {l : Int} {ws : List PySem.Str} {Q : Val → HL → Prop} {E : XT}, Sub H [(w, wO p l n), (p, wsO ws)] R → ws.length ≤ 900000 → (∀ x ∈ ws, x.length ≤ 1000000) → n ≤ ws.length →
  (∀ k r, pk b (ws.drop n) = some (k, r) → Q k.v ((w, wO p l (n + (kw k).length)) :: (p, wsO ws) :: R)) → (pk b (ws.drop n) = none → E c_NoLine [("line", .int l)] R) →
  WE B (callN G fuel (d + b + 5) f_kind_in [.ref w, .int (13 - (b : Int))]) H Q E
def kindLoop : Ss := match d_kind_in.body with
  | .cons _ (.cons _ (.cons _ (.cons _ (.cons (.cond _ (.cons _ (.cons (.whl _ b) _)) _) _)))) => b
  | _ => .nil
theorem drop_of {ws : List PySem.Str} {n : Nat} {xs r : List PySem.Str} (h : ws.drop n = xs ++ r) (hn : n ≤ ws.length) : ws.drop (n + xs.length) = r ∧ n + xs.length ≤ ws.length := by
  refine ⟨by rw [← List.drop_drop, h, List.drop_left], ?_⟩
  have := congrArg List.length h
  rw [List.length_drop, List.length_append] at this
  omega
theorem head_drop {ws : List PySem.Str} {n : Nat} : (ws.drop n).head? = ws[n]? := by
  rw [List.head?_drop]
theorem kind_loop {b : Nat} (hb : KindSp B b) {d w p q : Nat} {l : Int} {ws : List PySem.Str} {a2 a3 a5 : Option Val} {R : HL} {N : Env → HL → Prop} {T : Val → HL → Prop} {E : XT} (hl : ws.length ≤ 900000) (hw : ∀ x ∈ ws, x.length ≤ 1000000) : ∀ (m n f : Nat) (acc : List Kd), m < f → acc.length + m ≤ 900001 → n ≤ ws.length →
    (∀ ks r, many (pk b) m (ws.drop n) = some (ks, r) → N [some (.ref w), some (.int (13 - ((b + 1 : Nat) : Int))), a2, a3, some (.ref q), a5] ((w, wO p l (n + (kw.kws ks).length)) :: (p, wsO ws) :: (q, .lst ((acc ++ ks).map Kd.v)) :: R)) →
    (many (pk b) m (ws.drop n) = none → ∀ O, E c_NoLine [("line", .int l)] ((q, O) :: R)) → ws.length < n + m →
    WEW B (cxN G fuel (d + (b + 1) + 4)) (.not (.of (.met (.v 0) "sees" (.cons (.str ":") .nil)))) kindLoop f [some (.ref w), some (.int (13 - ((b + 1 : Nat) : Int))), a2, a3, some (.ref q), a5] ((w, wO p l n) :: (p, wsO ws) :: (q, .lst (acc.map Kd.v)) :: R) N T E
  | 0, n, f, acc, hf, ha, hn, qn, qe, hz => by omega
  | m + 1, n, f + 1, acc, hf, ha, hn, qn, qe, hz => by
    refine ewhl_step ?_
    walk_at "w"
    refine sp_sees (by walk_at "subs") ?_
    walk_at "w"
    refine ⟨fun hc => ?_, fun hc => ?_⟩
    · simp only [Bool.not_eq_true', decide_eq_false_iff_not] at hc
      have hm : many (pk b) (m + 1) (ws.drop n) = (match pk b (ws.drop n) with
        | none => none
        | some (k, r) => match many (pk b) m r with
          | none => none
          | some (ks, r) => some (k :: ks, r)) := by
        rw [many, head_drop, if_neg hc]; first | done | rfl
      rw [hm] at qn qe
      show WEs B _ (.cons _ .nil) _ _ _ _ _ _ _
      walk_at "w"
      rw [show (13 : Int) - ((b + 1 : Nat) : Int) + 1 = 13 - (b : Int) by omega]
      refine hb (R := (q, .lst (acc.map Kd.v)) :: R) (by walk_at "subs") hl hw hn (fun k r hk => ?_) (fun hk => ?_)
      · have e1 := pk_eq _ _ _ _ hk
        obtain ⟨e2, e3⟩ := drop_of e1 hn
        have kl : 0 < (kw k).length := by cases k <;> simp [kw]
        rw [hk] at qn qe
        simp only at qn qe
        refine m_app (.there (.there .here)) (by rw [List.length_map]; omega) ?_
        walk_at "w"
        have ih := kind_loop (a2 := a2) (a3 := a3) (a5 := a5) (q := q) (w := w) (p := p) (l := l) (R := R) (N := N) (T := T) (E := E) hb (d := d) hl hw m (n + (kw k).length) f (acc ++ [k]) (by omega) (by simp; omega) e3 (fun ks r' h => by
          rw [e2] at h
          have := qn (k :: ks) r' (by rw [h])
          rw [List.append_assoc]
          rw [kw.kws, List.length_append, ← Nat.add_assoc] at this
          exact this) (fun h => by
          rw [e2] at h
          exact qe (by rw [h])) (by omega)
        rw [List.map_append] at ih
        exact ih
      · rw [hk] at qe
        exact qe rfl _
    · simp only [Bool.not_eq_false', decide_eq_true_eq] at hc
      have := qn [] _ (by rw [many, head_drop, if_pos hc])
      rw [List.append_nil] at this
      exact this
theorem kind_sp (b : Nat) : b ≤ 13 → KindSp B b := by
  induction b with
  | zero =>
    intro _ H R d w p n l ws Q E hp hl hw hn q qe
    refine we_perm (show H.Perm ((w, wO p l n) :: (p, wsO ws) :: R) from hp) ?_
    walk_at "inX"
    walk_at "w"
    exact convx (K := R) (X := [_, _]) (List.perm_append_comm (l₁ := [_, _])) (qe rfl)
  | succ b ih =>
    intro hb H R d w p n l ws Q E hp hl hw hn q qe
    have ih : KindSp B b := ih (by omega)
    refine we_perm (show H.Perm ((w, wO p l n) :: (p, wsO ws) :: R) from hp) ?_
    walk_at "inX"
    walk_at "w"
    refine br_f (decide_eq_false (by omega)) ?_
    walk_at "w"
    refine sp_take (by walk_at "subs") hl hn (fun x hx => ?_) (fun hx => ?_)
    · have hd : ws.drop n = x :: ws.drop (n + 1) := by
        obtain ⟨h1, h2⟩ := List.getElem?_eq_some_iff.mp hx
        rw [List.drop_eq_getElem_cons h1, h2]
      have hn1 : n + 1 ≤ ws.length := (List.getElem?_eq_some_iff.mp hx).1
      rw [hd] at q qe
      walk_at "w"
      refine br_dec (fun h1 => ?_) fun h1 => ?_
      · subst h1
        refine br_t rfl ?_
        walk_at "w"
        exact conv0 (q .num (ws.drop (n + 1)) (by rw [pk, if_pos rfl]))
      walk_at "w"
      refine br_dec (fun h2 => ?_) fun h2 => ?_
      · subst h2
        walk_at "w"
        exact conv0 (q .tru (ws.drop (n + 1)) (by rw [pk, if_neg h1, if_pos rfl]))
      walk_at "w"
      refine br_dec (fun h3 => ?_) fun h3 => ?_
      · subst h3
        have e0 : pk (b + 1) (("[" : PySem.Str) :: ws.drop (n + 1)) = (match pk b (ws.drop (n + 1)) with
          | some (k, x :: r') => if x = "]" then some (.row k, r') else none
          | _ => none) := by rw [pk, if_neg h1, if_neg h2, if_pos rfl]; first | done | rfl
        rw [e0] at q qe
        walk_at "w"
        rw [show (13 : Int) - ((b + 1 : Nat) : Int) + 1 = 13 - (b : Int) by omega]
        refine ih (by walk_at "subs") hl hw hn1 (fun k r hk => ?_) (fun hk => ?_)
        · obtain ⟨e2, e3⟩ := drop_of (pk_eq _ _ _ _ hk) hn1
          rw [hk] at q qe
          walk_at "w"
          refine sp_want (by walk_at "subs") hl e3 (fun hx => ?_) (fun hx => ?_)
          · obtain ⟨g1, g2⟩ := List.getElem?_eq_some_iff.mp hx
            have er : r = ("]" : PySem.Str) :: ws.drop (n + 1 + (kw k).length + 1) := by rw [← e2, List.drop_eq_getElem_cons g1, g2]
            subst er
            walk_at "w"
            have := q (.row k) _ (if_pos rfl)
            rw [kw, List.length_cons, List.length_append, show n + ((kw k).length + [("]" : PySem.Str)].length + 1) = n + 1 + (kw k).length + 1 by simp; omega] at this
            exact conv0 this
          · refine convx_keep (qe ?_)
            cases r with
            | nil => rfl
            | cons y r' =>
              have : ws[n + 1 + (kw k).length]? = some y := by rw [← head_drop, e2]; rfl
              rw [this] at hx
              exact if_neg (fun z => hx (by rw [z]))
        · rw [hk] at qe
          exact convx_keep (qe rfl)
      walk_at "w"
      refine br_dec (fun h4 => ?_) fun h4 => ?_
      · subst h4
        walk_at "w"
        rename_i qk
        have e0 : pk (b + 1) (("(" : PySem.Str) :: ws.drop (n + 1)) = (match many (pk b) ((ws.drop (n + 1)).length + 1) (ws.drop (n + 1)) with
          | some (ks, x :: r1) => if x = ":" then (match pk b r1 with
            | some (k, y :: r2) => if y = ")" then some (.fn ks k, r2) else none
            | _ => none) else none
          | _ => none) := by rw [pk, if_neg h1, if_neg h2, if_neg h3, if_pos rfl]; first | done | rfl
        rw [e0] at q qe
        have ll := List.length_drop (i := n + 1) (l := ws)
        generalize hm : many (pk b) ((ws.drop (n + 1)).length + 1) (ws.drop (n + 1)) = mm at q qe
        show WEW B _ _ kindLoop _ [some (.ref w), some (.int (13 - ((b + 1 : Nat) : Int))), some (.str "("), none, some (.ref qk), none] _ _ _ _
        refine we_perm (K := (w, wO p l (n + 1)) :: (p, wsO ws) :: (qk, .lst (([] : List Kd).map Kd.v)) :: R) (List.perm_middle (l₁ := [_, _])).symm ?_
        refine kind_loop ih (d := d) hl hw ((ws.drop (n + 1)).length + 1) (n + 1) _ [] (by show _ < 1000000; omega) (by simp; omega) hn1 (fun ks r hk => ?_) (fun hk O => ?_) (by omega)
        · rw [hm] at hk
          subst hk
          obtain ⟨e2, e3⟩ := drop_of (many_eq (pk_eq b) _ _ _ _ hm) hn1
          rw [List.nil_append]
          walk_at "w"
          refine sp_want (by walk_at "subs") hl e3 (fun hx => ?_) (fun hx => ?_)
          · obtain ⟨g1, g2⟩ := List.getElem?_eq_some_iff.mp hx
            have er : r = (":" : PySem.Str) :: ws.drop (n + 1 + (kw.kws ks).length + 1) := by rw [← e2, List.drop_eq_getElem_cons g1, g2]
            subst er
            simp only [if_true] at q qe
            walk_at "w"
            rw [show (13 : Int) - ((b + 1 : Nat) : Int) + 1 = 13 - (b : Int) by omega]
            refine ih (n := n + 1 + (kw.kws ks).length + 1) (by walk_at "subs") hl hw g1 (fun k r2 hk2 => ?_) (fun hk2 => ?_)
            · obtain ⟨f2, f3⟩ := drop_of (pk_eq _ _ _ _ hk2) g1
              rw [hk2] at q qe
              walk_at "w"
              refine sp_want (by walk_at "subs") hl f3 (fun hy => ?_) (fun hy => ?_)
              · obtain ⟨k1, k2⟩ := List.getElem?_eq_some_iff.mp hy
                have er2 : r2 = (")" : PySem.Str) :: ws.drop (n + 1 + (kw.kws ks).length + 1 + (kw k).length + 1) := by rw [← f2, List.drop_eq_getElem_cons k1, k2]
                subst er2
                walk_at "w"
                have := q (.fn ks k) _ (if_pos rfl)
                rw [kw, List.length_cons, List.length_append, List.length_cons, List.length_append, show n + ((kw.kws ks).length + ((kw k).length + [(")" : PySem.Str)].length + 1) + 1) = n + 1 + (kw.kws ks).length + 1 + (kw k).length + 1 by simp; omega, Kd.v, kdvs] at this
                exact conv (K := (w, wO p l (n + 1 + (kw.kws ks).length + 1 + (kw k).length + 1)) :: (p, wsO ws) :: R) (X := [(qk, .lst (ks.map Kd.v))]) (by
                  show List.Perm _ _
                  rw [List.perm_iff_count]
                  intro x
                  simp only [List.cons_append, List.nil_append, List.count_cons, List.count_append, List.count_nil]
                  omega) this
              · refine convx (K := R) (X := [(qk, _)]) (List.perm_append_comm (l₁ := [_])) (qe ?_)
                cases r2 with
                | nil => rfl
                | cons y r' =>
                  have : ws[n + 1 + (kw.kws ks).length + 1 + (kw k).length]? = some y := by rw [← head_drop, f2]; rfl
                  rw [this] at hy
                  exact if_neg (fun z => hy (by rw [z]))
            · rw [hk2] at qe
              exact convx (K := R) (X := [(qk, _)]) (List.perm_append_comm (l₁ := [_])) (qe rfl)
          · refine convx (K := R) (X := [(qk, _)]) (List.perm_append_comm (l₁ := [_])) (qe ?_)
            cases r with
            | nil => rfl
            | cons y r' =>
              have : ws[n + 1 + (kw.kws ks).length]? = some y := by rw [← head_drop, e2]; rfl
              rw [this] at hx
              exact if_neg (fun z => hx (by rw [z]))
        · rw [hm] at hk
          subst hk
          exact convx (K := R) (X := [(qk, _)]) (List.perm_append_comm (l₁ := [_])) (qe rfl)
      walk_at "w"
      have hxl : x.length ≤ 1000000 := hw x (List.mem_of_getElem? hx)
      refine sp_is_name hxl ?_
      walk_at "w"
      refine ⟨fun h5 => ?_, fun h5 => ?_⟩
      · walk_at "w"
        exact conv0 (q (.rc x) (ws.drop (n + 1)) (by rw [pk, if_neg h1, if_neg h2, if_neg h3, if_neg h4, if_pos h5]))
      · walk_at "w"
        exact convx (K := R) (X := [_, _]) (List.perm_append_comm (l₁ := [_, _])) (qe (by rw [pk, if_neg h1, if_neg h2, if_neg h3, if_neg h4, if_neg (by rw [h5]; decide)]))
    · have hd : ws.drop n = [] := by
        rw [List.getElem?_eq_none_iff] at hx
        exact List.drop_eq_nil_iff.mpr hx
      rw [hd] at qe
      exact convx_keep (qe rfl)
end
/-- how deep a kind is -/
def kd : Kd → Nat
  | .num => 1
  | .tru => 1
  | .rc _ => 1
  | .row k => kd k + 1
  | .fn ps k => max (kds ps) (kd k) + 1
where kds : List Kd → Nat
  | [] => 0
  | k :: r => max (kd k) (kds r)
section
variable {B H R R' : HL} {d : Nat} {Q : Val → HL → Prop} {E : XT}
theorem sp_read_kind {lp : Nat} {ws : List PySem.Str} (hp : Sub H [(lp, wsO ws)] R) (hl : ws.length ≤ 900000) (hw : ∀ x ∈ ws, x.length ≤ 1000000) (q : ∀ k, pk 12 ws = some (k, []) → Q k.v H) (qe : (∀ k, pk 12 ws ≠ some (k, [])) → E c_NoLine [("line", .int 0)] H) :
    WE B (callN G fuel (d + 18) f_read_kind [.ref lp]) H Q E := by
  walk_at "inX"
  walk_at "w"
  walk_at "in"
  walk_at "w"
  rename_i w p
  refine conv_perm (K := (w, wO p 0 0) :: (p, wsO ws) :: H) (.swap _ _ _) ⟨rfl, ?_⟩
  walk_at "w"
  rw [show (1 : Int) = 13 - ((12 : Nat) : Int) from rfl]
  refine kind_sp 12 (by decide) (d := d) (by walk_at "subs") hl hw (Nat.zero_le _) (fun k r hk => ?_) (fun hk => convx_keep (qe fun k z => ?_))
  · rw [List.drop_zero] at hk
    walk_at "w"
    refine sp_finish (by walk_at "subs") (fun hn => ?_) (fun hn => convx_keep (qe fun k' z => ?_))
    · have e := pk_eq _ _ _ _ hk
      have : r = [] := by
        have := congrArg List.length e
        rw [List.length_append] at this
        exact List.length_eq_zero_iff.mp (by omega)
      subst this
      walk_at "w"
      exact conv0 (q k hk)
    · rw [hk] at z
      have e := pk_eq _ _ _ _ hk
      cases z
      have := congrArg List.length e
      rw [List.length_append] at this
      simp at this
      omega
  · rw [List.drop_zero] at hk
    rw [hk] at z
    cases z
theorem wsO_app {p q r : Nat} : True := trivial
def kwLoop : Ss := match d_kind_words.body with
  | .cons _ (.cons _ (.cons (.cond _ (.cons _ (.cons (.for _ _ b) _)) _) _)) => b
  | _ => .nil
def KwSp (B : HL) (n : Nat) : Prop := ∀ (k : Kd) {H : HL} {d : Nat} {Q : Val → HL → Prop}, kd k ≤ n → (kw k).length ≤ 100000 → (∀ p, Q (.ref p) ((p, wsO (kw k)) :: H)) → WP B (callN G fuel (d + n + 1) f_kind_words [k.v]) H Q
theorem kw_loop {n : Nat} (hn : KwSp B n) {k0 : Val} {p : Nat} {N : Env → HL → Prop} {T : Val → HL → Prop} : ∀ (ks : List Kd) (acc : List PySem.Str) (a2 : Option Val) (R : HL), kd.kds ks ≤ n → acc.length + (kw.kws ks).length ≤ 100000 →
    (∀ a2 X, N [some k0, some (.ref p), a2] ((p, wsO (acc ++ kw.kws ks)) :: (X ++ R))) →
    WF B (cxN G fuel (d + n + 1)) (.one 2) kwLoop [] (ks.map Kd.v) [some k0, some (.ref p), a2] ((p, wsO acc) :: R) N T
  | [], acc, a2, R, hk, hl, q => for_nil sees_nil (by
      have := q a2 []
      rw [kw.kws, List.append_nil] at this
      exact this)
  | k :: ks, acc, a2, R, hk, hl, q => by
    rw [kd.kds] at hk
    rw [kw.kws, List.length_append] at hl
    rw [List.map_cons]
    refine for_cons sees_nil rfl ?_
    unfold kwLoop d_kind_words
    dsimp only
    walk_at "w"
    refine hn k (d := d) (by omega) (by omega) fun p2 => ?_
    walk_at "w"
    refine m_ext (zs := (kw k).map .str) (.there .here) sub_one (by rw [List.length_map, List.length_map]; omega) ?_
    rw [← List.map_append]
    walk_at "w"
    have := kw_loop (k0 := k0) (p := p) (N := N) (T := T) hn ks (acc ++ kw k) (some k.v) ((p2, wsO (kw k)) :: R) (by omega) (by rw [List.length_append]; omega) fun a2 X => (by
      have := q a2 (X ++ [(p2, wsO (kw k))])
      rw [kw.kws, ← List.append_assoc, List.append_assoc X] at this
      exact this)
    exact wp_perm (.swap _ _ _) this
theorem kw_sp (n : Nat) : KwSp B n := by
  induction n with
  | zero => intro k H d Q hk hl q; cases k <;> simp [kd] at hk
  | succ n ih =>
    intro k H d Q hk hl q
    cases k with
    | num =>
      unfold Kd.v
      walk_at "in"
      walk_at "w"
      exact conv0 (q _)
    | tru =>
      unfold Kd.v
      walk_at "in"
      walk_at "w"
      exact conv0 (q _)
    | rc r =>
      unfold Kd.v
      walk_at "in"
      walk_at "w"
      exact conv0 (q _)
    | row k =>
      rw [kd] at hk
      rw [kw] at hl q
      simp only [List.length_cons, List.length_append, List.length_nil] at hl
      unfold Kd.v
      walk_at "in"
      walk_at "w"
      refine ih k (d := d) (by omega) (by omega) fun p2 => ?_
      walk_at "w"
      refine p_addl' (xs := [Val.str "["]) (ys := (kw k).map .str) (by walk_at "sub") (by walk_at "sub") (fits_small (by simp; omega)) fun p3 => ?_
      walk_at "w"
      rename_i p4
      refine p_addl' (xs := [Val.str "["] ++ (kw k).map .str) (ys := [Val.str "]"]) (by walk_at "sub") (by walk_at "sub") (fits_small (by simp; omega)) fun p5 => ?_
      have := q p5
      have e : [Val.str "["] ++ (kw k).map Val.str ++ [Val.str "]"] = ((("[" : PySem.Str) :: (kw k ++ [("]" : PySem.Str)])).map Val.str) := by simp
      rw [e]
      exact conv (K := (p5, _) :: H) (X := [(p4, .lst [Val.str "]"]), (p3, .lst ([Val.str "["] ++ (kw k).map .str)), (p2, wsO (kw k)), (_, .lst [Val.str "["])]) (by
        refine .cons _ ?_
        exact (List.perm_append_comm (l₁ := [_, _, _, _]))) this
    | fn ps k =>
      rw [kd] at hk
      rw [kw] at hl q
      simp only [List.length_cons, List.length_append, List.length_nil] at hl
      unfold Kd.v
      rw [kdvs]
      walk_at "in"
      walk_at "w"
      rename_i p
      refine kw_loop (k0 := .tup [.str "fun", .tup (ps.map Kd.v), k.v]) (p := p) (d := d) ih ps ["("] none H (by omega) (by simp; omega) fun a2 X => ?_
      walk_at "w"
      rename_i p1
      refine p_addl' (xs := ([("(" : PySem.Str)] ++ kw.kws ps).map .str) (ys := [Val.str ":"]) (by walk_at "sub") (by walk_at "sub") (fits_small (by simp; omega)) fun p2 => ?_
      walk_at "w"
      refine ih k (d := d) (by omega) (by omega) fun p3 => ?_
      walk_at "w"
      refine p_addl' (xs := ([("(" : PySem.Str)] ++ kw.kws ps).map .str ++ [Val.str ":"]) (ys := (kw k).map .str) (by walk_at "sub") (by walk_at "sub") (fits_small (by simp; omega)) fun p4 => ?_
      walk_at "w"
      rename_i p5
      refine p_addl' (xs := ([("(" : PySem.Str)] ++ kw.kws ps).map .str ++ [Val.str ":"] ++ (kw k).map .str) (ys := [Val.str ")"]) (by walk_at "sub") (by walk_at "sub") (fits_small (by simp; omega)) fun p6 => ?_
      have := q p6
      have e : ([("(" : PySem.Str)] ++ kw.kws ps).map Val.str ++ [Val.str ":"] ++ (kw k).map Val.str ++ [Val.str ")"] = ((("(" : PySem.Str) :: (kw.kws ps ++ ((":" : PySem.Str) :: (kw k ++ [(")" : PySem.Str)])))).map Val.str) := by simp
      rw [e]
      refine conv (K := (p6, _) :: H) (X := (p5, .lst [Val.str ")"]) :: (p4, .lst (([("(" : PySem.Str)] ++ kw.kws ps).map .str ++ [Val.str ":"] ++ (kw k).map .str)) :: (p3, wsO (kw k)) :: (p2, .lst (([("(" : PySem.Str)] ++ kw.kws ps).map .str ++ [Val.str ":"])) :: (p1, .lst [Val.str ":"]) :: (p, wsO ([("(" : PySem.Str)] ++ kw.kws ps)) :: X) ?_ this
      refine .cons _ ?_
      show List.Perm _ (H ++ _)
      rw [List.perm_iff_count]
      intro x
      simp only [List.count_cons, List.count_append]
      omega
end
section
variable {B H R R' : HL} {d : Nat} {Q : Val → HL → Prop}
theorem at_mod {xs : List Int} {k : Int} (h : xs ≠ []) (hk : 0 ≤ k) : ∃ x : Int, L2.atI (xs.map Val.int) (k.fmod (xs.length : Int)) = some (.int x) := by
  have hl : 0 < xs.length := List.length_pos_iff.mpr h
  have e : k.fmod (xs.length : Int) = k % (xs.length : Int) := fmod_pos (by omega)
  have h1 : 0 ≤ k % (xs.length : Int) := Int.emod_nonneg _ (by omega)
  have h2 : k % (xs.length : Int) < xs.length := Int.emod_lt_of_pos _ (by omega)
  rw [e]
  have h3 : (k % (xs.length : Int)).toNat < xs.length := by omega
  refine ⟨xs[(k % (xs.length : Int)).toNat], atI_int h1 ?_⟩
  rw [List.getElem?_map, List.getElem?_eq_getElem h3]; rfl
theorem fm_bd {i j : Int} (h : 0 < j) : 0 ≤ i.fmod j ∧ i.fmod j < j := by
  rw [fmod_pos h]
  exact ⟨Int.emod_nonneg _ (by omega), Int.emod_lt_of_pos _ h⟩
end
structure Row3 where
  cells : List Int
  a : Int
  b : Int
  c : Int
structure Row3.ok (P : Row3) : Prop where
  ne : P.cells ≠ []
  len : P.cells.length ≤ 100
  ha : 0 ≤ P.a
  hc : 0 ≤ P.c ∧ P.c < 2147483647
abbrev rowO (c : Nat) (P : Row3) : Ob := .lst [.ref c, .int P.a, .int P.b, .int P.c]
abbrev celO (P : Row3) : Ob := .lst (P.cells.map .int)
def nextT : Ss := match d_l_next.body with
  | .cons _ (.cons _ (.cons _ (.cons _ r))) => r
  | _ => .nil
section
variable {B H R R' : HL} {d : Nat} {Q : Val → HL → Prop}
theorem sl_next {r c : Nat} {P : Row3} {n : Int} (hP : P.ok) (hn : 0 < n) (hn2 : n < 1000000) (hp : Sub H [(r, rowO c P), (c, celO P)] R)
    (q : ∀ (x : Int) (P' : Row3), P'.ok → 0 ≤ x → x < n → Q (.int x) ((r, rowO c P') :: (c, celO P') :: R)) : WP B (callN G fuel (d + 1) f_l_next [.ref r, .int n]) H Q := by
  refine wp_perm (show H.Perm ((r, rowO c P) :: (c, celO P) :: R) from hp) ?_
  obtain ⟨cells, a, b, c3⟩ := P
  obtain ⟨h1, h2, h3, h4⟩ := hP
  dsimp only at h1 h2 h3 h4
  dsimp only [rowO, celO]
  walk_at "in"
  show WSs B _ (.cons _ (.cons _ (.cons _ (.cons _ nextT)))) _ _ _ _ _ _
  walk_at "w"
  refine br_dec (fun hb => ?_) fun hb => ?_
  · walk_at "w"
    refine f_divmod ⟨hn, by omega⟩ ?_
    walk_at "w"
    refine y_lst (by walk_at "upd") (j := 2) rfl ?_
    walk_at "w"
    exact conv0 (q _ ⟨cells, a, b / n, c3⟩ ⟨h1, h2, h3, h4⟩ (Int.emod_nonneg _ (by omega)) (Int.emod_lt_of_pos _ hn))
  · have hlen : 0 < cells.length := List.length_pos_iff.mpr h1
    walk_at "w"
    refine p_mod' (by rw [List.length_map]; omega) ?_
    walk_at "w"
    rw [List.length_map]
    obtain ⟨x, hx⟩ := at_mod (k := a) h1 h3
    refine x_lst (by walk_at "sub") hx ?_
    walk_at "w"
    refine y_lst (by walk_at "upd") (j := 1) rfl ?_
    walk_at "w"
    refine p_pow' (by decide) ?_
    walk_at "w"
    have rest : ∀ (N : Env → HL → Prop) (K C : Env → HL → Prop) (x3 : Option Val), WSs B (cxN G fuel d) nextT [some (.ref r), some (.int n), some (.int x), x3] ((r, .lst [.ref c, .int (a + 1), .int b, .int c3]) :: (c, .lst (cells.map .int)) :: R) N (Conv Q) K C := by
      intro N K C x3
      unfold nextT d_l_next
      dsimp only
      walk_at "w"
      refine p_mul' (mulOk_right (by decide)) ?_
      walk_at "w"
      refine p_mod' (by decide) ?_
      walk_at "w"
      refine p_mul' (mulOk_left (by decide)) ?_
      walk_at "w"
      refine p_mul' (mulOk_right (by decide)) ?_
      walk_at "w"
      refine p_mod' (by decide) ?_
      walk_at "w"
      generalize hz : ((c3 * 69621 + x.fmod 2147483629 + 7 * (a + 1) + 3) * 48271).fmod 2147483647 = z
      have hzb : 0 ≤ z ∧ z < 2147483647 := by rw [← hz]; exact fm_bd (by decide)
      refine y_lst (by walk_at "upd") (j := 3) rfl ?_
      walk_at "w"
      refine p_mul' (mulOk_left (by omega)) ?_
      walk_at "w"
      refine p_mod' (by decide) ?_
      walk_at "w"
      refine p_fdiv' (by decide) ?_
      walk_at "w"
      refine p_mod' (by omega) ?_
      exact conv0 (q _ ⟨cells, a + 1, b, z⟩ ⟨h1, h2, (by show 0 ≤ a + 1; omega), hzb⟩ (fm_bd hn).1 (fm_bd hn).2)
    refine br_dec (fun hx18 => ?_) fun hx18 => ?_
    · walk_at "w"
      refine br_dec (fun hle => ?_) fun hle => ?_
      · walk_at "w"
        refine f_divmod ⟨hn, by omega⟩ ?_
        walk_at "w"
        refine y_lst (by walk_at "upd") (j := 2) rfl ?_
        walk_at "w"
        exact conv0 (q _ ⟨cells, a + 1, x / n, c3⟩ ⟨h1, h2, (by show 0 ≤ a + 1; omega), h4⟩ (Int.emod_nonneg _ (by omega)) (Int.emod_lt_of_pos _ hn))
      · walk_at "w"
        exact rest _ _ _ _
    · walk_at "w"
      exact rest _ _ _ _
end
theorem kept_split : PySem.Txt.split (("and at def div do else end fail field fill fun give if let long make no not number or place put record" : PySem.Str) ++ (" rem set tell truth while yes" : PySem.Str)) " " = keptW := by decide +kernel
section
variable {B H R R' : HL} {d : Nat} {Q : Val → HL → Prop}
theorem sl_kept (q : ∀ p, Q (.ref p) ((p, wsO keptW) :: H)) : WP B (callN G fuel (d + 1) f_l_kept []) H Q := by
  walk_at "in"
  walk_at "w"
  refine p_adds' (fits_small (by decide +kernel)) ?_
  walk_at "w"
  refine m_split (by decide +kernel) (by decide +kernel) fun p => ?_
  rw [kept_split]
  exact conv0 (q p)
theorem sl_many {r c : Nat} {P : Row3} {n : Int} (hP : P.ok) (hn : 0 < n) (hn2 : n < 1000) (hp : Sub H [(r, rowO c P), (c, celO P)] R)
    (q : ∀ (x : Int) (P' : Row3), P'.ok → 0 ≤ x → x < n + 6 → Q (.int x) ((r, rowO c P') :: (c, celO P') :: R)) : WP B (callN G fuel (d + 2) f_l_many [.ref r, .int n]) H Q := by
  walk_at "in"
  walk_at "w"
  refine sl_next hP hn (by omega) hp fun x P1 hP1 x0 x1 => ?_
  walk_at "w"
  refine sl_next hP1 (n := 8) (by decide) (by decide) (by walk_at "subs") fun y P2 hP2 y0 y1 => ?_
  walk_at "w"
  refine br_dec (fun hy => ?_) fun hy => ?_
  · walk_at "w"
    exact conv0 (q _ P2 hP2 (by omega) (by omega))
  · walk_at "w"
    exact conv0 (q _ P2 hP2 (by omega) (by omega))
end
abbrev sOk (w : PySem.Str) : Bool := w.cps.toList.all fun c => decide (c < 0x110000)
theorem kept_vars : (keptW.all fun w => [w ++ "q", "q" ++ w, L2.cutS w (some 1) none, L2.cutS w none (some (-1))].all fun v => bif keptW.any (fun x => decide (x = v)) then isName (w ++ "q") && sOk (w ++ "q") else isName v && sOk v) = true := by decide +kernel
theorem kept_short : (keptW.all fun w => decide (w.length ≤ 8) && (isName (L2.cutS w none (some 7) ++ "q") && sOk (L2.cutS w none (some 7) ++ "q"))) = true := by decide +kernel
theorem letters26 : ∀ k : Fin 26, ∃ c, L2.atI lettersV.cps.toList ((k.val : Nat) : Int) = some c ∧ inLets ⟨#[c]⟩ = true ∧ c < 0x110000 := by decide +kernel
theorem vars_ok {w v : PySem.Str} (hw : w ∈ keptW) (hv : v ∈ [w ++ "q", "q" ++ w, L2.cutS w (some 1) none, L2.cutS w none (some (-1))]) : (isName (bif keptW.any (fun x => decide (x = v)) then w ++ "q" else v) && sOk (bif keptW.any (fun x => decide (x = v)) then w ++ "q" else v)) = true := by
  have h := List.all_eq_true.mp (List.all_eq_true.mp kept_vars w hw) v hv
  revert h
  cases keptW.any fun x => decide (x = v) <;> exact id
theorem name_len {w : PySem.Str} (h : isName w = true) : w.length ≤ 8 := by
  unfold isName at h
  simp only [Bool.and_eq_true, decide_eq_true_eq] at h
  exact h.2.1
theorem kept_len {w : PySem.Str} (hw : w ∈ keptW) : w.length ≤ 8 := by
  have h := List.all_eq_true.mp kept_short w hw
  simp only [Bool.and_eq_true, decide_eq_true_eq] at h
  exact h.1
section
variable {B H R R' : HL} {d : Nat} {Q : Val → HL → Prop}
theorem x_strI {kt : List (List Val)} {z : PySem.Str} {i : Int} {c : Nat} (hz : fits z.length = true) (h : L2.atI z.cps.toList i = some c) (q : Q (.str ⟨#[c]⟩) H) : WP B (subV kt (.str z) (.int i)) H Q := wp_of (fun st F s => by simp only [subV, hz, if_true, h]) q
theorem x_cuts {z : PySem.Str} {l h : Option Val} {l' h' : Option Int} (e1 : part l = some l') (e2 : part h = some h') (hz : fits z.length = true) (q : Q (.str (L2.cutS z l' h')) H) : WP B (cutV (.str z) l h) H Q := wp_of (fun st F s => by simp only [cutV, e1, e2, hz, if_true]) q
theorem in_kept (v : PySem.Str) (ks : List PySem.Str) : inFlat (.str v) (ks.map Val.str) = some (ks.any fun x => decide (x = v)) := by
  unfold inFlat
  rw [all_sc, any_str]; rfl
theorem all_snoc (z : PySem.Str) (c : Nat) : (z ++ ⟨#[c]⟩ : PySem.Str).cps.toList = z.cps.toList ++ [c] := by
  show (z.cps ++ #[c]).toList = _
  rw [Array.toList_append]
theorem letters_loop {r c kp : Nat} {T : Val → HL → Prop} {N : Env → HL → Prop} {a5 : Option Val} : ∀ (n k : Nat) (z : PySem.Str) (P : Row3) (a4 : Option Val), P.ok → z.length = k → (z.cps.toList.all fun c => inLets ⟨#[c]⟩) = true → sOk z = true → k + n ≤ 8 →
    (∀ (z : PySem.Str) (P : Row3) (a4 : Option Val), P.ok → z.length = k + n → (z.cps.toList.all fun c => inLets ⟨#[c]⟩) = true → sOk z = true → N [some (.ref r), some (.str lettersV), some (.ref kp), some (.str z), a4, a5] ((r, rowO c P) :: (c, celO P) :: (kp, wsO keptW) :: R)) →
    WF B (cxN G fuel (d + 1)) (.one 4) (.cons (.asg (.one 3) (.bin .add (.v 3) (.sub (.v 1) (.call f_l_next (.cons (.v 0) (.cons (.int 26) .nil)))))) .nil) [] (rangeL k n) [some (.ref r), some (.str lettersV), some (.ref kp), some (.str z), a4, a5] ((r, rowO c P) :: (c, celO P) :: (kp, wsO keptW) :: R) N T
  | 0, k, z, P, a4, hP, hl, ha, ho, hk, q => by
    rw [rangeL]
    exact for_nil sees_nil (q z P a4 hP hl ha ho)
  | n + 1, k, z, P, a4, hP, hl, ha, ho, hk, q => by
    rw [rangeL]
    refine for_cons sees_nil rfl ?_
    walk_at "w"
    refine sl_next hP (n := 26) (by decide) (by decide) (by walk_at "subs") fun x P1 hP1 x0 x1 => ?_
    walk_at "w"
    obtain ⟨ch, h1, h2, h3⟩ := letters26 ⟨x.toNat, by omega⟩
    rw [show ((x.toNat : Nat) : Int) = x by omega] at h1
    refine x_strI (z := lettersV) (by decide +kernel) h1 ?_
    walk_at "w"
    refine p_adds' (fits_small (show z.length + 1 ≤ _ by omega)) ?_
    walk_at "w"
    refine letters_loop n (k + 1) (z ++ ⟨#[ch]⟩) P1 _ hP1 ?_ ?_ ?_ (by omega) fun z P a4 hP hl ha ho => q z P a4 hP (by omega) ha ho
    · show (z.cps ++ #[ch]).size = _
      rw [Array.size_append, show z.cps.size = k from hl]; rfl
    · rw [all_snoc, List.all_append, ha, List.all_cons, h2]; rfl
    · rw [sOk, all_snoc, List.all_append, show (z.cps.toList.all fun c => decide (c < 0x110000)) = true from ho, List.all_cons, decide_eq_true h3]; rfl
theorem sl_name {r c : Nat} {P : Row3} (hP : P.ok) (hp : Sub H [(r, rowO c P), (c, celO P)] R)
    (q : ∀ (w : PySem.Str) (P' : Row3), P'.ok → isName w = true → sOk w = true → Q (.str w) ((r, rowO c P') :: (c, celO P') :: R)) : WP B (callN G fuel (d + 2) f_l_name [.ref r]) H Q := by
  walk_at "in"
  walk_at "w"
  refine sl_kept fun kp => ?_
  walk_at "w"
  refine sl_next hP (n := 4) (by decide) (by decide) (by walk_at "subs") fun x P1 hP1 x0 x1 => ?_
  walk_at "w"
  refine br_dec (fun hx => ?_) fun hx => ?_
  · walk_at "w"
    refine sl_next hP1 (n := 29) (by decide) (by decide) (by walk_at "subs") fun y P2 hP2 y0 y1 => ?_
    walk_at "w"
    obtain ⟨w, hw⟩ : ∃ w, keptW[y.toNat]? = some w := ⟨keptW[y.toNat]'(by show _ < 29; omega), List.getElem?_eq_getElem _⟩
    have hm : w ∈ keptW := List.mem_of_getElem? hw
    have hl := kept_len hm
    refine x_lst (by walk_at "sub") (v := .str w) (atI_int y0 (by rw [List.getElem?_map, hw]; rfl)) ?_
    walk_at "w"
    refine p_adds' (fits_small (show w.length + 1 ≤ _ by omega)) ?_
    walk_at "w"
    refine p_adds' (fits_small (show 1 + w.length ≤ _ by omega)) ?_
    walk_at "w"
    refine x_cuts rfl rfl (fits_small (by omega)) ?_
    walk_at "w"
    refine x_cuts rfl rfl (fits_small (by omega)) ?_
    walk_at "w"
    refine sl_next hP2 (n := 4) (by decide) (by decide) (by walk_at "subs") fun z P3 hP3 z0 z1 => ?_
    walk_at "w"
    obtain ⟨v, hv⟩ : ∃ v, [w ++ "q", "q" ++ w, L2.cutS w (some 1) none, L2.cutS w none (some (-1))][z.toNat]? = some v := ⟨[w ++ "q", "q" ++ w, L2.cutS w (some 1) none, L2.cutS w none (some (-1))][z.toNat]'(by show _ < 4; omega), List.getElem?_eq_getElem _⟩
    have hn := vars_ok hm (List.mem_of_getElem? hv)
    refine x_lst (xs := [w ++ "q", "q" ++ w, L2.cutS w (some 1) none, L2.cutS w none (some (-1))].map .str) (by show Sub _ [(_, Ob.lst [Val.str _, Val.str _, Val.str _, Val.str _])] _; walk_at "sub") (v := .str v) (atI_int z0 (by rw [List.getElem?_map, hv]; rfl)) ?_
    walk_at "w"
    refine c_inl (by walk_at "sub") (in_kept v keptW) ?_
    walk_at "w"
    refine ⟨fun hb => ?_, fun hb => ?_⟩
    · rw [hb, Bool.and_eq_true] at hn
      walk_at "w"
      refine p_adds' (fits_small (show w.length + 1 ≤ _ by omega)) ?_
      exact conv (K := (r, rowO c P3) :: (c, celO P3) :: R) (X := [_, _]) (.cons _ (.cons _ (List.perm_append_comm (l₁ := [_, _])))) (q _ _ hP3 hn.1 hn.2)
    · rw [hb, Bool.and_eq_true] at hn
      walk_at "w"
      exact conv (K := (r, rowO c P3) :: (c, celO P3) :: R) (X := [_, _]) (.cons _ (.cons _ (List.perm_append_comm (l₁ := [_, _])))) (q _ _ hP3 hn.1 hn.2)
  · walk_at "w"
    refine sl_next hP1 (n := 8) (by decide) (by decide) (by walk_at "subs") fun y P2 hP2 y0 y1 => ?_
    walk_at "w"
    refine letters_loop (1 + y).toNat 0 "" P2 none hP2 rfl rfl rfl (by omega) fun z P3 a4 hP3 zl za zo => ?_
    walk_at "w"
    refine c_inl (by walk_at "sub") (in_kept z keptW) ?_
    walk_at "w"
    refine ⟨fun hb => ?_, fun hb => ?_⟩
    · obtain ⟨w, hm, hw⟩ := List.any_eq_true.mp hb
      rw [decide_eq_true_eq] at hw
      subst hw
      have h7 := List.all_eq_true.mp kept_short w hm
      simp only [Bool.and_eq_true, decide_eq_true_eq] at h7
      walk_at "w"
      refine x_cuts rfl rfl (fits_small (by omega)) ?_
      walk_at "w"
      refine p_adds' (fits_small (Nat.le_trans (Nat.add_le_add_right (L2.cutS_length _ _ _) 1) (by omega))) ?_
      exact conv (K := (r, rowO c P3) :: (c, celO P3) :: R) (X := [_]) (.cons _ (.cons _ (List.perm_append_comm (l₁ := [_])))) (q _ _ hP3 h7.2.1 h7.2.2)
    · walk_at "w"
      refine conv (K := (r, rowO c P3) :: (c, celO P3) :: R) (X := [_]) (.cons _ (.cons _ (List.perm_append_comm (l₁ := [_])))) (q _ _ hP3 ?_ zo)
      unfold isName madeOf
      rw [hb, za, zl, decide_eq_true (by omega), decide_eq_true (by omega)]; rfl
end
local macro_rules | `(tactic| walk_at "pm") => `(tactic| (refine List.perm_iff_count.mpr fun z => ?_; simp only [List.count_cons, List.count_append, List.count_nil]; omega))
/-- all records' names are names -/
def kn : Kd → Bool
  | .num => true
  | .tru => true
  | .rc r => isName r && sOk r
  | .row k => kn k
  | .fn ps k => kns ps && kn k
where kns : List Kd → Bool
  | [] => true
  | k :: r => kn k && kns r
def ptl (x : Int) : Int := max x 1
abbrev lfO (a b x : Int) : Ob := .lst [.int a, .int b, .int x]
/-- what the law's kind is -/
structure KOk (b : Nat) (x y : Int) (k : Kd) : Prop where
  d : kd k ≤ b
  nm : kn k = true
  m : ptl y ≤ ptl x
  s : ((kw k).length : Int) ≤ 1 + 12 * (ptl x - ptl y)
/-- what the law's kinds in a row are -/
structure KsOk (b n : Nat) (x y : Int) (ks : List Kd) : Prop where
  d : kd.kds ks ≤ b
  nm : kn.kns ks = true
  m : ptl y ≤ ptl x
  s : ((kw.kws ks).length : Int) ≤ n + 12 * (ptl x - ptl y)
  l : ks.length = n
def KindL (B : HL) (b : Nat) : Prop := ∀ {H R : HL} {d r c lf : Nat} {P : Row3} {a e x : Int} {Q : Val → HL → Prop}, P.ok → ptl x ≤ 1000 → Sub H [(r, rowO c P), (c, celO P), (lf, lfO a e x)] R →
  (∀ k y wl P', P'.ok → KOk b x y k → Q (.tup [.ref wl, k.v]) ((wl, wsO (kw k)) :: (r, rowO c P') :: (c, celO P') :: (lf, lfO a e y) :: R)) →
  WP B (callN G fuel (d + b + 3) f_l_kind [.ref r, .int (b : Int), .ref lf]) H Q
def kindT : Ss := match d_l_kind.body with
  | .cons _ (.cons _ (.cons _ r)) => r
  | _ => .nil
def kindF : Ss := match kindT with
  | .cons _ (.cons _ (.cons _ (.cons _ (.cons _ (.cons (.for _ _ b) _))))) => b
  | _ => .nil
theorem wf_perm {B H K : HL} {c : Ctx} {t : Tg} {b : Ss} {w : Watch} {xs : List Val} {s : Env} {N : Env → HL → Prop} {T : Val → HL → Prop} (p : H.Perm K) (h : WF B c t b w xs s K N T) : WF B c t b w xs s H N T := wp_perm p h
theorem kws_snoc (k : Kd) : ∀ ks : List Kd, kw.kws (ks ++ [k]) = kw.kws ks ++ kw k
  | [] => by simp [kw.kws]
  | x :: r => by rw [List.cons_append, kw.kws, kws_snoc k r, kw.kws, List.append_assoc]
theorem kds_snoc (k : Kd) : ∀ ks : List Kd, kd.kds (ks ++ [k]) = max (kd.kds ks) (kd k)
  | [] => by simp [kd.kds]
  | x :: r => by rw [List.cons_append, kd.kds, kds_snoc k r, kd.kds]; omega
theorem kns_snoc (k : Kd) : ∀ ks : List Kd, kn.kns (ks ++ [k]) = (kn.kns ks && kn k)
  | [] => by simp [kn.kns]
  | x :: r => by rw [List.cons_append, kn.kns, kns_snoc k r, kn.kns, Bool.and_assoc]
theorem KsOk.snoc {b n : Nat} {x0 x y : Int} {ks : List Kd} {k : Kd} (h : KsOk b n x0 x ks) (g : KOk b x y k) : KsOk b (n + 1) x0 y (ks ++ [k]) := by
  obtain ⟨h1, h2, h3, h4, h5⟩ := h
  obtain ⟨g1, g2, g3, g4⟩ := g
  refine ⟨?_, ?_, by omega, ?_, by rw [List.length_append, h5]; rfl⟩
  · rw [kds_snoc]; omega
  · rw [kns_snoc, h2, g2]; rfl
  · rw [kws_snoc, List.length_append]; push_cast; omega
theorem kinds_loop {B R : HL} {b d r c lf kl : Nat} {a e w x0 : Int} {N : Env → HL → Prop} {T : Val → HL → Prop} (ih : KindL B b) (hx0 : ptl x0 ≤ 1000) : ∀ (n j : Nat) (x : Int) (P : Row3) (ks : List Kd) (wl : Nat) (G_ : HL) (a6 a8 a9 : Option Val), P.ok → KsOk b j x0 x ks → j + n ≤ 8 →
    (∀ x P ks wl G_ a6 a8 a9, P.ok → KsOk b (j + n) x0 x ks → N [some (.ref r), some (.int ((b + 1 : Nat) : Int)), some (.ref lf), some (.int w), some (.ref wl), some (.ref kl), a6, none, a8, a9] ((wl, wsO ("(" :: kw.kws ks)) :: (kl, .lst (ks.map Kd.v)) :: (r, rowO c P) :: (c, celO P) :: (lf, lfO a e x) :: (G_ ++ R))) →
    WF B (cxN G fuel (d + b + 3)) (.one 6) kindF [] (rangeL j n) [some (.ref r), some (.int ((b + 1 : Nat) : Int)), some (.ref lf), some (.int w), some (.ref wl), some (.ref kl), a6, none, a8, a9] ((wl, wsO ("(" :: kw.kws ks)) :: (kl, .lst (ks.map Kd.v)) :: (r, rowO c P) :: (c, celO P) :: (lf, lfO a e x) :: (G_ ++ R)) N T
  | 0, j, x, P, ks, wl, G_, a6, a8, a9, hP, hk, hj, q => by
    rw [rangeL]
    exact for_nil sees_nil (q x P ks wl G_ a6 a8 a9 hP hk)
  | n + 1, j, x, P, ks, wl, G_, a6, a8, a9, hP, hk, hj, q => by
    rw [rangeL]
    refine for_cons sees_nil rfl ?_
    unfold kindF kindT d_l_kind
    dsimp only
    walk_at "w"
    rw [show (((b + 1 : Nat) : Int) - 1) = (b : Int) by omega]
    have hm := hk.m
    refine ih (a := a) (e := e) (x := x) (c := c) (lf := lf) (R := (wl, wsO ("(" :: kw.kws ks)) :: (kl, .lst (ks.map Kd.v)) :: (G_ ++ R)) hP (by omega) (by walk_at "subs") fun k y w2 P2 hP2 hk2 => ?_
    have hk3 := hk.snoc hk2
    have s3 := hk3.s
    have l3 := hk3.l
    have hy : 1 ≤ ptl y := by unfold ptl; omega
    rw [kws_snoc, List.length_append] at s3
    push_cast at s3
    rw [List.length_append] at l3
    walk_at "w"
    refine p_addl' (by walk_at "sub") (by walk_at "sub") (fits_small ?_) fun w3 => ?_
    · rw [List.length_map, List.length_map, List.length_cons]; omega
    walk_at "w"
    refine m_app (by walk_at "upd") (by rw [List.length_map]; omega) ?_
    walk_at "w"
    refine wf_perm (K := (w3, .lst (((("(" : PySem.Str) :: kw.kws ks)).map Val.str ++ (kw k).map .str)) :: (kl, .lst (ks.map Kd.v ++ [k.v])) :: (r, rowO c P2) :: (c, celO P2) :: (lf, lfO a e y) :: (((w2, wsO (kw k)) :: (wl, wsO ("(" :: kw.kws ks)) :: G_) ++ R)) (by walk_at "pm") ?_
    have rc0 := kinds_loop (N := N) (T := T) (R := R) (a := a) (e := e) (r := r) (c := c) (lf := lf) (kl := kl) (w := w) (d := d) ih hx0 n (j + 1) y P2 (ks ++ [k]) w3 ((w2, wsO (kw k)) :: (wl, wsO ("(" :: kw.kws ks)) :: G_) (some (.int j)) (some (.ref w2)) (some k.v) hP2 hk3 (by omega) fun x P ks wl G_ a6 a8 a9 hP hk => q x P ks wl G_ a6 a8 a9 hP (by rw [show j + (n + 1) = j + 1 + n by omega]; exact hk)
    rw [kws_snoc, ← List.cons_append, wsO, List.map_append, List.map_append] at rc0
    exact rc0
section
variable {B : HL}
theorem perm_k {α : Type} (a : α) (L T M R : List α) : (a :: (L ++ (T ++ (M ++ R)))).Perm ((a :: (T ++ R)) ++ (L ++ M)) := by
  refine .cons _ ?_
  show (L ++ (T ++ (M ++ R))).Perm ((T ++ R) ++ (L ++ M))
  refine (List.perm_append_comm (l₁ := L)).trans ?_
  rw [List.append_assoc, List.append_assoc, List.append_assoc]
  refine List.Perm.append_left _ ?_
  refine (List.perm_append_comm (l₁ := M)).trans ?_
  rw [List.append_assoc]
theorem ok_leaf {b : Nat} {x : Int} {k : Kd} (h1 : kd k ≤ b + 1) (h2 : kn k = true) (h3 : (kw k).length = 1) : KOk (b + 1) x (x - 1) k := ⟨h1, h2, by unfold ptl; omega, by rw [h3]; unfold ptl; omega⟩
theorem l_kind (b : Nat) : 1 ≤ b → b ≤ 12 → KindL B b := by
  induction b with
  | zero => intro h; omega
  | succ b ih =>
    intro _ hb H R d r c lf P a e x Q hP hx hp q
    refine wp_perm (show H.Perm ((r, rowO c P) :: (c, celO P) :: (lf, lfO a e x) :: R) from hp) ?_
    walk_at "in"
    show WSs B _ (.cons _ (.cons _ (.cons _ kindT))) _ _ _ _ _ _
    walk_at "w"
    refine y_lst (by walk_at "upd") (j := 2) rfl ?_
    walk_at "w"
    refine sl_next hP (n := 7) (by decide) (by decide) (by walk_at "subs") fun w P1 hP1 w0 w1 => ?_
    have rest : ∀ (w : Int) (N K C : Env → HL → Prop), 0 ≤ w → w < 7 → (3 ≤ w → 1 ≤ b ∧ 1 ≤ x - 1) → WSs B (cxN G fuel (d + (b + 1) + 2)) kindT [some (.ref r), some (.int ((b + 1 : Nat) : Int)), some (.ref lf), some (.int w), none, none, none, none, none, none] ((r, rowO c P1) :: (c, celO P1) :: (lf, lfO a e (x - 1)) :: R) N (Conv Q) K C := by
      intro w N K C w0 w1 hw
      show WSs B _ (.cons _ (.cons _ (.cons _ (.cons _ (.cons _ (.cons (.for _ _ kindF) _)))))) _ _ _ _ _ _
      walk_at "w"
      refine br_dec (fun h => ?_) fun h => ?_
      · obtain rfl | rfl : w = 0 ∨ w = 1 := by omega
        · walk_at "w"
          rename_i p1 p2 p3 p4
          exact conv (K := (p1, wsO (kw .num)) :: (r, rowO c P1) :: (c, celO P1) :: (lf, lfO a e (x - 1)) :: R) (X := [(p4, _), (p3, _), (p2, _)]) (List.perm_append_comm (l₁ := [(p4, _), (p3, _), (p2, _)])) (q .num _ p1 P1 hP1 (ok_leaf (by simp [kd]) rfl rfl))
        · walk_at "w"
          rename_i p1 p2 p3 p4
          exact conv (K := (p2, wsO (kw .tru)) :: (r, rowO c P1) :: (c, celO P1) :: (lf, lfO a e (x - 1)) :: R) (X := [(p4, _), (p3, _), (p1, _)]) ((List.Perm.cons _ (.cons _ (.swap _ _ _))).trans (List.perm_append_comm (l₁ := [(p4, _), (p3, _), (p1, _)]))) (q .tru _ p2 P1 hP1 (ok_leaf (by simp [kd]) rfl rfl))
      · walk_at "w"
        refine br_dec (fun h2 => ?_) fun h2 => ?_
        · walk_at "w"
          refine sl_name hP1 (by walk_at "subs") fun z P2 hP2 hz hzo => ?_
          walk_at "w"
          exact conv0 (q (.rc z) _ _ P2 hP2 (ok_leaf (by simp [kd]) (show (isName z && sOk z) = true by rw [hz, hzo]; rfl) rfl))
        · have hw := hw (by omega)
          have hx1 : ptl (x - 1) = ptl x - 1 := by unfold ptl; omega
          walk_at "w"
          refine br_dec (fun h3 => ?_) fun h3 => ?_
          · walk_at "w"
            rw [show (((b + 1 : Nat) : Int) - 1) = (b : Int) by omega]
            refine ih hw.1 (by omega) (a := a) (e := e) (x := x - 1) (c := c) (lf := lf) hP1 (by omega) (by walk_at "subs") fun k y w2 P2 hP2 hk2 => ?_
            obtain ⟨g1, g2, g3, g4⟩ := hk2
            have hy : 1 ≤ ptl y := by unfold ptl; omega
            walk_at "w"
            refine p_addl' (by walk_at "sub") (by walk_at "sub") (fits_small ?_) fun w3 => ?_
            · rw [List.length_map]; show 1 + _ ≤ _; omega
            walk_at "w"
            refine p_addl' (by walk_at "sub") (by walk_at "sub") (fits_small ?_) fun w4 => ?_
            · rw [List.length_append, List.length_map]; show 1 + _ + 1 ≤ _; omega
            walk_at "w"
            have qq := q (.row k) y w4 P2 hP2 ⟨show kd k + 1 ≤ b + 1 by omega, g2, by omega, by rw [show (kw (.row k)).length = (kw k).length + 2 by simp [kw]]; push_cast; omega⟩
            rw [show wsO (kw (.row k)) = .lst ([Val.str "["] ++ (kw k).map Val.str ++ [Val.str "]"]) by simp [wsO, kw]] at qq
            exact conv (K := (w4, .lst ([Val.str "["] ++ (kw k).map Val.str ++ [Val.str "]"])) :: ([(r, rowO c P2), (c, celO P2), (lf, lfO a e y)] ++ R)) (X := [_, _, _, _] ++ []) (perm_k _ [_, _, _, _] [_, _, _] [] R) qq
          · walk_at "w"
            refine sl_many hP1 (n := 3) (by decide) (by decide) (by walk_at "subs") fun m P2 hP2 m0 m1 => ?_
            walk_at "w"
            rename_i p1 p2
            refine wf_perm (K := (p1, wsO ("(" :: kw.kws [])) :: (p2, .lst (([] : List Kd).map Kd.v)) :: (r, rowO c P2) :: (c, celO P2) :: (lf, lfO a e (x - 1)) :: ([] ++ R)) (show List.Perm _ ((p1, Ob.lst [Val.str "("]) :: (p2, Ob.lst []) :: (r, rowO c P2) :: (c, celO P2) :: (lf, lfO a e (x - 1)) :: R) by walk_at "pm") ?_
            refine kinds_loop (d := d) (ih hw.1 (by omega)) (x0 := x - 1) (by omega) m.toNat 0 (x - 1) P2 [] p1 [] none none none hP2 ⟨by simp [kd.kds], rfl, by omega, by simp [kw.kws], rfl⟩ (by omega) fun y P3 ks w3 G_ a6 a8 a9 hP3 hks => ?_
            obtain ⟨g1, g2, g3, g4, g5⟩ := hks
            have hy0 : 1 ≤ ptl y := by unfold ptl; omega
            walk_at "w"
            rw [show (((b + 1 : Nat) : Int) - 1) = (b : Int) by omega]
            refine ih hw.1 (by omega) (a := a) (e := e) (x := y) (c := c) (lf := lf) (R := (w3, wsO ("(" :: kw.kws ks)) :: (p2, .lst (ks.map Kd.v)) :: (G_ ++ R)) hP3 (by omega) (by walk_at "subs") fun k z w2 P4 hP4 hk2 => ?_
            obtain ⟨f1, f2, f3, f4⟩ := hk2
            have hz : 1 ≤ ptl z := by unfold ptl; omega
            walk_at "w"
            refine p_addl' (by walk_at "sub") (by walk_at "sub") (fits_small ?_) fun w4 => ?_
            · rw [List.length_map]; show (kw.kws ks).length + 1 + 1 ≤ _; omega
            walk_at "w"
            refine p_addl' (by walk_at "sub") (by walk_at "sub") (fits_small ?_) fun w5 => ?_
            · rw [List.length_append, List.length_map, List.length_map]; show (kw.kws ks).length + 1 + 1 + _ ≤ _; omega
            walk_at "w"
            refine p_addl' (by walk_at "sub") (by walk_at "sub") (fits_small ?_) fun w6 => ?_
            · rw [List.length_append, List.length_append, List.length_map, List.length_map]; show (kw.kws ks).length + 1 + 1 + _ + 1 ≤ _; omega
            walk_at "w"
            have e1 : (kw (.fn ks k)).map Val.str = List.map Val.str (("(" : PySem.Str) :: kw.kws ks) ++ [Val.str ":"] ++ (kw k).map Val.str ++ [Val.str ")"] := by simp [kw]
            have e2 : (kw (.fn ks k)).length = (kw.kws ks).length + (kw k).length + 3 := by simp [kw]; omega
            have qq := q (.fn ks k) z w6 P4 hP4 ⟨show max (kd.kds ks) (kd k) + 1 ≤ b + 1 by omega, by rw [kn, g2, f2]; rfl, by omega, by rw [e2]; push_cast; omega⟩
            rw [wsO, e1, Kd.v, kdvs] at qq
            exact conv (K := (w6, .lst (List.map Val.str (("(" : PySem.Str) :: kw.kws ks) ++ [Val.str ":"] ++ (kw k).map Val.str ++ [Val.str ")"])) :: ([(r, rowO c P4), (c, celO P4), (lf, lfO a e z)] ++ R)) (X := [_, _, _, _, _] ++ (_ :: _ :: G_)) (perm_k _ [_, _, _, _, _] [_, _, _] (_ :: _ :: G_) R) qq
    walk_at "w"
    refine br_dec (fun h1 => ?_) fun h1 => ?_
    · walk_at "w"
      refine p_mod' (by decide) ?_
      walk_at "w"
      have hm := fm_bd (i := w) (j := 3) (by decide)
      exact rest _ _ _ _ hm.1 (by omega) (by omega)
    · walk_at "w"
      refine br_dec (fun h2 => ?_) fun h2 => ?_
      · walk_at "w"
        refine p_mod' (by decide) ?_
        walk_at "w"
        have hm := fm_bd (i := w) (j := 3) (by decide)
        exact rest _ _ _ _ hm.1 (by omega) (by omega)
      · walk_at "w"
        exact rest _ _ _ _ w0 w1 (by omega)
end
theorem perm_k2 {α : Type} (a : α) (L T M R : List α) : (a :: (L ++ (T ++ (M ++ R)))).Perm (a :: (T ++ ((L ++ M) ++ R))) := by
  refine .cons _ ?_
  rw [List.append_assoc, ← List.append_assoc, ← List.append_assoc T]
  exact List.Perm.append_right _ List.perm_append_comm
def deepF : Ss := match d_l_deep.body with
  | .cons _ (.cons (.for _ _ b) _) => b
  | _ => .nil
section
variable {B : HL}
theorem deep_loop {R : HL} {d r c : Nat} {N : Env → HL → Prop} {T : Val → HL → Prop} : ∀ (n j : Nat) (P : Row3) (k : Kd) (wl : Nat) (G_ : HL) (a1 : Option Val), P.ok → kn k = true → (kw k).length ≤ 1 + 3 * j → j + n ≤ 13 →
    (∀ P k wl G_ a1, Row3.ok P → kn k = true → (kw k).length ≤ 40 → N [some (.ref r), a1, some (.ref wl), some k.v] ((wl, wsO (kw k)) :: (r, rowO c P) :: (c, celO P) :: (G_ ++ R))) →
    WF B (cxN G fuel (d + 5)) (.one 1) deepF [] (rangeL j n) [some (.ref r), a1, some (.ref wl), some k.v] ((wl, wsO (kw k)) :: (r, rowO c P) :: (c, celO P) :: (G_ ++ R)) N T
  | 0, j, P, k, wl, G_, a1, hP, hk, hl, hj, q => by
    rw [rangeL]
    exact for_nil sees_nil (q P k wl G_ a1 hP hk (by omega))
  | n + 1, j, P, k, wl, G_, a1, hP, hk, hl, hj, q => by
    rw [rangeL]
    refine for_cons sees_nil rfl ?_
    unfold deepF d_l_deep
    dsimp only
    walk_at "w"
    refine sl_next hP (n := 2) (by decide) (by decide) (by walk_at "subs") fun x P1 hP1 x0 x1 => ?_
    walk_at "w"
    refine br_dec (fun h => ?_) fun h => ?_
    · walk_at "w"
      refine p_addl' (by walk_at "sub") (by walk_at "sub") (fits_small ?_) fun w3 => ?_
      · rw [List.length_map]; show 1 + _ ≤ _; omega
      walk_at "w"
      refine p_addl' (by walk_at "sub") (by walk_at "sub") (fits_small ?_) fun w4 => ?_
      · rw [List.length_append, List.length_map]; show 1 + _ + 1 ≤ _; omega
      walk_at "w"
      have rc0 := fun G2 => deep_loop (N := N) (T := T) (R := R) (d := d) (r := r) (c := c) n (j + 1) P1 (.row k) w4 G2 (some (.int j)) hP1 hk (by rw [show (kw (.row k)).length = (kw k).length + 2 by simp [kw, kw.kws]]; omega) (by omega) q
      rw [show wsO (kw (.row k)) = .lst ([Val.str "["] ++ (kw k).map Val.str ++ [Val.str "]"]) by simp [wsO, kw, kw.kws]] at rc0
      exact wf_perm (perm_k2 _ [_, _, _] [_, _] (_ :: G_) R) (rc0 _)
    · walk_at "w"
      refine p_addl' (by walk_at "sub") (by walk_at "sub") (fits_small ?_) fun w3 => ?_
      · rw [List.length_map]; show 2 + _ ≤ _; omega
      walk_at "w"
      refine p_addl' (by walk_at "sub") (by walk_at "sub") (fits_small ?_) fun w4 => ?_
      · rw [List.length_append, List.length_map]; show 2 + _ + 1 ≤ _; omega
      walk_at "w"
      have rc0 := fun G2 => deep_loop (N := N) (T := T) (R := R) (d := d) (r := r) (c := c) n (j + 1) P1 (.fn [] k) w4 G2 (some (.int j)) hP1 hk (by rw [show (kw (.fn [] k)).length = (kw k).length + 3 by simp [kw, kw.kws]]; omega) (by omega) q
      rw [show wsO (kw (.fn [] k)) = .lst ([Val.str "(", Val.str ":"] ++ (kw k).map Val.str ++ [Val.str ")"]) by simp [wsO, kw, kw.kws]] at rc0
      exact wf_perm (perm_k2 _ [_, _, _] [_, _] (_ :: G_) R) (rc0 _)
theorem sl_deep {H R : HL} {d r c : Nat} {P : Row3} {Q : Val → HL → Prop} (hP : P.ok) (hp : Sub H [(r, rowO c P), (c, celO P)] R)
    (q : ∀ k wl P', Row3.ok P' → kn k = true → (kw k).length ≤ 40 → Q (.tup [.ref wl, k.v]) ((wl, wsO (kw k)) :: (r, rowO c P') :: (c, celO P') :: R)) :
    WP B (callN G fuel (d + 6) f_l_deep [.ref r]) H Q := by
  refine wp_perm (show H.Perm ((r, rowO c P) :: (c, celO P) :: R) from hp) ?_
  walk_at "in"
  show WSs B _ (.cons _ (.cons (.for _ _ deepF) _)) _ _ _ _ _ _
  walk_at "w"
  rename_i p1
  refine l_kind 1 (by decide) (by decide) (d := d + 1) (c := c) (x := 1) (R := R) hP (by decide) (by walk_at "subs") fun k y wl P1 hP1 hk => ?_
  obtain ⟨g1, g2, g3, g4⟩ := hk
  have hy : 1 ≤ ptl y := by unfold ptl; omega
  have h1 : ptl 1 = 1 := rfl
  walk_at "w"
  refine sl_next hP1 (n := 4) (by decide) (by decide) (by walk_at "subs") fun x P2 hP2 x0 x1 => ?_
  walk_at "w"
  refine wf_perm (K := (wl, wsO (kw k)) :: (r, rowO c P2) :: (c, celO P2) :: ([(p1, lfO 0 0 y)] ++ R)) (by walk_at "pm") ?_
  refine deep_loop (d := d) (10 + x).toNat 0 P2 k wl _ none hP2 g2 (by omega) (by omega) fun P k wl G_ a1 hP hk hl => ?_
  walk_at "w"
  exact conv (K := (wl, wsO (kw k)) :: ([(r, rowO c P), (c, celO P)] ++ R)) (X := [] ++ G_) (perm_k _ [] [_, _] G_ R) (q k wl P hP hk hl)
end
theorem cutL_map {α β : Type} (f : α → β) (xs : List α) (lo hi : Option Int) : cutL (xs.map f) lo hi = (cutL xs lo hi).map f := by
  unfold cutL
  rw [List.length_map, List.map_take, List.map_drop]
theorem cutL_mem {α : Type} {xs : List α} {lo hi : Option Int} {x : α} (h : x ∈ cutL xs lo hi) : x ∈ xs := List.mem_of_mem_drop (List.mem_of_mem_take h)
theorem cutL_len {α : Type} (xs : List α) (lo hi : Option Int) : (cutL xs lo hi).length ≤ xs.length := by
  unfold cutL
  rw [List.length_take, List.length_drop]; omega
def spoils : List PySem.Str := ["[", "]", "(", ")", ":", "number", "truth", "a", "yes", "A", "", "a1", "abcdefghi", "-", "end", "["]
theorem spoils_ok : (spoils.all fun w => sOk w) = true := by decide +kernel
theorem spoils_len : (spoils.all fun w => decide (w.length ≤ 9)) = true := by decide +kernel
section
variable {B : HL}
theorem sl_spoilt {H R : HL} {d r c wl : Nat} {P : Row3} {ws : List PySem.Str} {Q : Val → HL → Prop} (hP : P.ok) (h0 : ws ≠ []) (hl : ws.length ≤ 1000) (hw : ∀ x ∈ ws, x.length ≤ 9 ∧ sOk x = true) (hp : Sub H [(r, rowO c P), (c, celO P), (wl, wsO ws)] R)
    (q : ∀ w2 ws2 P', Row3.ok P' → ws2.length ≤ 2001 → (∀ x ∈ ws2, x.length ≤ 9 ∧ sOk x = true) → Q (.ref w2) ((w2, wsO ws2) :: (r, rowO c P') :: (c, celO P') :: (wl, wsO ws) :: R)) :
    WP B (callN G fuel (d + 2) f_l_spoilt [.ref r, .ref wl]) H Q := by
  refine wp_perm (show H.Perm ((r, rowO c P) :: (c, celO P) :: (wl, wsO ws) :: R) from hp) ?_
  have hlen : 0 < ws.length := List.length_pos_iff.mpr h0
  walk_at "in"
  walk_at "w"
  rename_i sp
  refine sl_next hP (n := 4) (by decide) (by decide) (by walk_at "subs") fun x P1 hP1 x0 x1 => ?_
  walk_at "w"
  rw [List.length_map]
  refine sl_next hP1 (n := (ws.length : Int)) (by omega) (by omega) (by walk_at "subs") fun y P2 hP2 y0 y1 => ?_
  walk_at "w"
  refine sl_next hP2 (n := 16) (by decide) (by decide) (by walk_at "subs") fun z P3 hP3 z0 z1 => ?_
  walk_at "w"
  obtain ⟨w, hw9, hz⟩ : ∃ w : PySem.Str, (w.length ≤ 9 ∧ sOk w = true) ∧ spoils[z.toNat]? = some w := by
    have hh : z.toNat < spoils.length := by show _ < 16; omega
    exact ⟨spoils[z.toNat], ⟨of_decide_eq_true (List.all_eq_true.mp spoils_len _ (List.getElem_mem hh)), List.all_eq_true.mp spoils_ok _ (List.getElem_mem hh)⟩, List.getElem?_eq_getElem hh⟩
  refine x_lst (xs := spoils.map .str) (by show Sub _ [(sp, Ob.lst [Val.str _, Val.str _, Val.str _, Val.str _, Val.str _, Val.str _, Val.str _, Val.str _, Val.str _, Val.str _, Val.str _, Val.str _, Val.str _, Val.str _, Val.str _, Val.str _])] _; walk_at "sub") (v := .str w) (atI_int z0 (by rw [List.getElem?_map, hz]; rfl)) ?_
  walk_at "w"
  refine br_dec (fun h => ?_) fun h => ?_
  · walk_at "w"
    refine p_addl' (by walk_at "sub") (by walk_at "sub") (fits_small ?_) fun w3 => ?_
    · rw [cutL_map, List.length_map]; show _ + 1 ≤ _; have := cutL_len ws none (some y); omega
    walk_at "w"
    refine p_addl' (by walk_at "sub") (by walk_at "sub") (fits_small ?_) fun w4 => ?_
    · rw [cutL_map, cutL_map, List.length_append, List.length_map, List.length_map]; show _ + 1 + _ ≤ _; have := cutL_len ws none (some y); have := cutL_len ws (some y) none; omega
    have qq := q w4 (cutL ws none (some y) ++ [w] ++ cutL ws (some y) none) P3 hP3 (by rw [List.length_append, List.length_append]; show _ + 1 + _ ≤ _; have := cutL_len ws none (some y); have := cutL_len ws (some y) none; omega) (fun x hx => by
      rcases List.mem_append.mp hx with hx | hx
      · rcases List.mem_append.mp hx with hx | hx
        · exact hw x (cutL_mem hx)
        · rw [List.mem_singleton.mp hx]; exact hw9
      · exact hw x (cutL_mem hx))
    rw [wsO, List.map_append, List.map_append, ← cutL_map, ← cutL_map] at qq
    exact conv (X := [_, _, _, _] ++ [_]) (perm_k _ [_, _, _, _] [_, _] [_] (_ :: R)) qq
  · walk_at "w"
    refine br_dec (fun h => ?_) fun h => ?_
    · walk_at "w"
      refine p_addl' (by walk_at "sub") (by walk_at "sub") (fits_small ?_) fun w4 => ?_
      · rw [cutL_map, cutL_map, List.length_map, List.length_map]; have := cutL_len ws none (some y); have := cutL_len ws (some (y + 1)) none; omega
      have qq := q w4 (cutL ws none (some y) ++ cutL ws (some (y + 1)) none) P3 hP3 (by rw [List.length_append]; have := cutL_len ws none (some y); have := cutL_len ws (some (y + 1)) none; omega) (fun x hx => by
        rcases List.mem_append.mp hx with hx | hx
        · exact hw x (cutL_mem hx)
        · exact hw x (cutL_mem hx))
      rw [wsO, List.map_append, ← cutL_map, ← cutL_map] at qq
      exact conv (X := [_, _] ++ [_]) (perm_k _ [_, _] [_, _] [_] (_ :: R)) qq
    · walk_at "w"
      refine br_dec (fun h => ?_) fun h => ?_
      · walk_at "w"
        refine p_addl' (by walk_at "sub") (by walk_at "sub") (fits_small ?_) fun w3 => ?_
        · rw [cutL_map, List.length_map]; show _ + 1 ≤ _; have := cutL_len ws none (some y); omega
        walk_at "w"
        refine p_addl' (by walk_at "sub") (by walk_at "sub") (fits_small ?_) fun w4 => ?_
        · rw [cutL_map, cutL_map, List.length_append, List.length_map, List.length_map]; show _ + 1 + _ ≤ _; have := cutL_len ws none (some y); have := cutL_len ws (some (y + 1)) none; omega
        have qq := q w4 (cutL ws none (some y) ++ [w] ++ cutL ws (some (y + 1)) none) P3 hP3 (by rw [List.length_append, List.length_append]; show _ + 1 + _ ≤ _; have := cutL_len ws none (some y); have := cutL_len ws (some (y + 1)) none; omega) (fun x hx => by
          rcases List.mem_append.mp hx with hx | hx
          · rcases List.mem_append.mp hx with hx | hx
            · exact hw x (cutL_mem hx)
            · rw [List.mem_singleton.mp hx]; exact hw9
          · exact hw x (cutL_mem hx))
        rw [wsO, List.map_append, List.map_append, ← cutL_map, ← cutL_map] at qq
        exact conv (X := [_, _, _, _] ++ [_]) (perm_k _ [_, _, _, _] [_, _] [_] (_ :: R)) qq
      · walk_at "w"
        refine p_addl' (by walk_at "sub") (by walk_at "sub") (fits_small ?_) fun w4 => ?_
        · rw [cutL_map, cutL_map, List.length_map, List.length_map]; have := cutL_len ws none (some (y + 1)); have := cutL_len ws (some y) none; omega
        have qq := q w4 (cutL ws none (some (y + 1)) ++ cutL ws (some y) none) P3 hP3 (by rw [List.length_append]; have := cutL_len ws none (some (y + 1)); have := cutL_len ws (some y) none; omega) (fun x hx => by
          rcases List.mem_append.mp hx with hx | hx
          · exact hw x (cutL_mem hx)
          · exact hw x (cutL_mem hx))
        rw [wsO, List.map_append, ← cutL_map, ← cutL_map] at qq
        exact conv (X := [_, _] ++ [_]) (perm_k _ [_, _] [_, _] [_] (_ :: R)) qq
end
theorem strOk_eq (w : PySem.Str) : PySem.PyData.strOk w = sOk w := by
  show w.cps.all _ = _
  rw [← Array.all_toList]
theorem dat_words (st : Store) (k : Nat) : ∀ ns : List PySem.Str, allO ((ns.map Val.str).map (dat st (k + 1))) = some (ns.map PySem.PyData.str)
  | [] => rfl
  | n :: r => by
    have ih := dat_words st k r
    show allO (some (PySem.PyData.str n) :: (r.map Val.str).map (dat st (k + 1))) = _
    rw [allO, ih]; rfl
theorem eqv_words : ∀ ns ms : List PySem.Str, PySem.PyData.eqvAll (ns.map PySem.PyData.str) (ms.map PySem.PyData.str) = decide (ns = ms)
  | [], [] => by simp [PySem.PyData.eqvAll]
  | [], _ :: _ => by simp [PySem.PyData.eqvAll]
  | _ :: _, [] => by simp [PySem.PyData.eqvAll]
  | n :: r, m :: t => by
    rw [List.map_cons, List.map_cons, PySem.PyData.eqvAll, eqv_words r t]
    simp [PySem.PyData.eqv, Bool.decide_and]
    rfl
theorem lay_words : ∀ ns : List PySem.Str, (∀ x ∈ ns, sOk x = true) → PySem.PyData.canLayAll0 (ns.map PySem.PyData.str) = true
  | [], _ => by simp [PySem.PyData.canLayAll0]
  | n :: r, h => by
    rw [List.map_cons, PySem.PyData.canLayAll0, lay_words r fun x hx => h x (List.mem_cons_of_mem _ hx)]
    simp only [PySem.PyData.canLay0, strOk_eq, h n (List.mem_cons_self ..), Bool.and_self]
theorem deep_words : ∀ ns : List PySem.Str, PySem.PyData.depthAll (ns.map PySem.PyData.str) = 0
  | [] => by simp [PySem.PyData.depthAll]
  | n :: r => by rw [List.map_cons, PySem.PyData.depthAll, deep_words r]; simp [PySem.PyData.depth]
theorem eq_words {st : Store} {a b : Nat} {ns ms : List PySem.Str} (h1 : ∀ x ∈ ns, sOk x = true) (h2 : ∀ x ∈ ms, sOk x = true) (ha : st.m a = some (wsO ns)) (hb : st.m b = some (wsO ms)) : eqV st (.ref a) (.ref b) = some (decide (ns = ms)) := by
  have h3 : ∀ c ns, st.m c = some (wsO ns) → dat st deep (.ref c) = some (.list (ns.map PySem.PyData.str)) := fun c ns hc => by
    show (match st.m c with | some (.lst xs) => (allO (xs.map (dat st 69))).map PySem.PyData.list | _ => none) = _
    rw [hc]
    show (allO ((ns.map Val.str).map (dat st 69))).map PySem.PyData.list = _
    rw [dat_words st 68 ns]; rfl
  unfold eqV
  have e0 : eq0 (.ref a) (.ref b) = none := rfl
  rw [e0]
  simp only [h3 a ns ha, h3 b ms hb]
  have s1 : ∀ ns : List PySem.Str, (∀ x ∈ ns, sOk x = true) → PySem.SeqAt.shaped (.list (ns.map PySem.PyData.str)) = true := fun ns h => by
    unfold PySem.SeqAt.shaped
    rw [Bool.and_eq_true]
    refine ⟨?_, decide_eq_true ?_⟩
    · simp only [PySem.PyData.canLay0, lay_words ns h]
    · simp only [PySem.PyData.depth, deep_words]; omega
  rw [s1 ns h1, s1 ms h2]
  simp only [Bool.and_self, if_true, PySem.PyData.eqv, eqv_words]
section
variable {B H R R' : HL} {d : Nat} {Q : Val → HL → Prop}
theorem c_eqw {kt : List (List Val)} {a b : Nat} {ns ms : List PySem.Str} (u1 : Sub H [(a, wsO ns)] R) (u2 : Sub H [(b, wsO ms)] R') (h1 : ∀ x ∈ ns, sOk x = true) (h2 : ∀ x ∈ ms, sOk x = true) (q : Q (.bl (decide (ns = ms))) H) : WP B (cop kt .eq (.ref a) (.ref b)) H Q :=
  c_eqd (fun st F s => eq_words h1 h2 (sub_at u1 s) (sub_at u2 s)) q
theorem c_new {kt : List (List Val)} {a b : Nat} {ns ms : List PySem.Str} (u1 : Sub H [(a, wsO ns)] R) (u2 : Sub H [(b, wsO ms)] R') (h1 : ∀ x ∈ ns, sOk x = true) (h2 : ∀ x ∈ ms, sOk x = true) (q : Q (.bl (!decide (ns = ms))) H) : WP B (cop kt .ne (.ref a) (.ref b)) H Q :=
  c_ned (fun st F s => eq_words h1 h2 (sub_at u1 s) (sub_at u2 s)) q
theorem sl_shown {k : Kd} (hk : kd k ≤ 14) (hl : (kw k).length ≤ 3000) (hw : ∀ x ∈ kw k, x.length ≤ 9) (q : Q (.str (PySem.Txt.join " " (kw k))) H) : WP B (callN G fuel (d + 16) f_shown_kind [k.v]) H Q := by
  walk_at "in"
  walk_at "w"
  refine kw_sp 14 k (d := d) hk (by omega) fun p => ?_
  walk_at "w"
  refine m_join sub_one ?_ ?_
  · have : ∀ ws : List PySem.Str, (∀ x ∈ ws, x.length ≤ 9) → (ws.map (·.length)).sum ≤ 9 * ws.length := by
      intro ws
      induction ws with
      | nil => intro _; exact Nat.le_refl 0
      | cons w r ih =>
        intro h
        have := ih fun x hx => h x (List.mem_cons_of_mem _ hx)
        have := h w (List.mem_cons_self ..)
        rw [List.map_cons, List.sum_cons, List.length_cons]; omega
    have := this _ hw
    show _ + _ * 1 ≤ _
    omega
  · exact conv (X := [_]) (List.perm_append_comm (l₁ := [_])) q
theorem sl_marks {p : Nat} {fs : List (PySem.Str × Val)} (hp : Sub H [(p, .exc c_NoLine fs)] R) (q : ∀ w, Q (.ref w) ((w, .lst [.bl true, .bl false, .bl false, .bl false, .bl false, .bl false, .bl false, .bl true, .bl true]) :: H)) : WP B (callN G fuel (d + 1) f_l_marks [.ref p]) H Q := by
  walk_at "in"
  walk_at "w"
  refine ⟨_, .exc (by walk_at "sub") rfl, ?_⟩
  walk_at "w"
  refine ⟨_, .exc (by walk_at "sub") rfl, ?_⟩
  walk_at "w"
  refine ⟨_, .exc (by walk_at "sub") rfl, ?_⟩
  walk_at "w"
  refine ⟨_, .exc (by walk_at "sub") rfl, ?_⟩
  walk_at "w"
  refine ⟨_, .exc (by walk_at "sub") rfl, ?_⟩
  walk_at "w"
  refine ⟨_, .exc (by walk_at "sub") rfl, ?_⟩
  walk_at "w"
  refine ⟨_, .exc (by walk_at "sub") rfl, ?_⟩
  walk_at "w"
  refine ⟨_, .exc (by walk_at "sub") rfl, ?_⟩
  walk_at "w"
  refine ⟨_, .exc (by walk_at "sub") rfl, ?_⟩
  walk_at "w"
  exact conv (K := _ :: H) (X := [_, _, _, _] ++ []) (perm_k _ [_, _, _, _] [] [] H) (q _)
theorem bools_map : ∀ bs : List Bool, bools (bs.map Val.bl) = some bs
  | [] => rfl
  | b :: r => by
    show (match bools (r.map Val.bl) with | some bs => some (b :: bs) | none => none) = _
    rw [bools_map r]
def letG (v : Val) : Option Val := match v with
  | .str x => some (.bl (inLets x))
  | _ => none
theorem sl_is_name {w : PySem.Str} (hw : w.length ≤ 9) (q : Q (.bl (isName w)) H) : WP B (callN G fuel (d + 2) f_l_is_name [.str w]) H Q := by
  walk_at "in"
  walk_at "w"
  refine f_lenS (by omega) ?_
  walk_at "w"
  refine br_dec (fun h1 => ?_) fun h1 => ?_
  · walk_at "w"
    refine br_ndec (fun h8 => ?_) fun h8 => ?_
    · walk_at "w"
      rw [show isName w = false by unfold isName; rw [decide_eq_false (by omega : ¬ w.length ≤ 8)]; simp] at q
      exact conv0 q
    · walk_at "w"
      refine sl_kept fun kp => ?_
      walk_at "w"
      refine c_inl (by walk_at "sub") (in_kept w keptW) ?_
      walk_at "w"
      refine ⟨fun hb => ?_, fun hb => ?_⟩
      · walk_at "w"
        rw [show isName w = false by unfold isName; rw [hb]; simp] at q
        exact conv (X := [_]) (List.perm_append_comm (l₁ := [_])) q
      · walk_at "w"
        refine i_strW ?_
        walk_at "w"
        rename_i D
        refine lc_pure letG _ (w.cps.toList.map fun c => .str ⟨#[c]⟩) [] (fun v hv => ?_) sees_nil (by rw [List.length_map]; show _ + w.cps.toList.length < _; rw [Array.length_toList]; have : w.cps.size ≤ 9 := hw; simp; omega) ?_
        · obtain ⟨c, hc, rfl⟩ := List.mem_map.mp hv
          refine ⟨_, rfl, fun zs => ?_⟩
          walk_at "w"
          refine c_hasS ?_
          walk_at "w"
          rfl
        · have e : List.filterMap letG (w.cps.toList.map fun c => .str ⟨#[c]⟩) = (w.cps.toList.map fun c => inLets ⟨#[c]⟩).map Val.bl := by
            rw [List.filterMap_map, List.map_map]
            exact List.filterMap_eq_map (f := fun c => Val.bl (inLets ⟨#[c]⟩)) ▸ rfl
          rw [e, List.nil_append]
          walk_at "w"
          refine f_all sub_one (bools_map _) ?_
          have e2 : isName w = (w.cps.toList.map fun c => inLets ⟨#[c]⟩).all id := by
            unfold isName madeOf
            rw [hb, decide_eq_true (by omega), decide_eq_true (by omega), List.all_map]
            simp
          rw [e2] at q
          exact conv (X := [_, _]) (List.perm_append_comm (l₁ := [_, _])) q
  · walk_at "w"
    rw [show isName w = false by unfold isName madeOf; rw [decide_eq_false (by omega : ¬ 0 < w.length)]; simp] at q
    exact conv0 q
end
/-- the law's own look, as a plain machine -/
inductive Mc where
  | bad
  | fin (r : List PySem.Str)
  | go (r S : List PySem.Str)
def clo (m : PySem.Str) : PySem.Str := if m = "[" then "]" else ")"
def close0 : List PySem.Str → List PySem.Str → Mc
  | r, [] => .fin r
  | r, m :: S => if m = "(" then .go r (m :: S) else if r.head? = some (clo m) then close0 r.tail S else .bad
def post : Mc → Mc
  | .go r S => if S.head? = some ("(" : PySem.Str) ∧ r.head? = some (":" : PySem.Str) then .go r.tail (":" :: S.tail) else .go r S
  | x => x
theorem post_go (r S : List PySem.Str) : post (.go r S) = if S.head? = some ("(" : PySem.Str) ∧ r.head? = some (":" : PySem.Str) then .go r.tail (":" :: S.tail) else .go r S := rfl
theorem close0_cons (r S : List PySem.Str) (m : PySem.Str) : close0 r (m :: S) = if m = "(" then .go r (m :: S) else if r.head? = some (clo m) then close0 r.tail S else .bad := by rw [close0]
def atom (w : PySem.Str) : Bool := decide (w = "number") || decide (w = "truth") || isName w
def stepM (w : PySem.Str) (r S : List PySem.Str) : Mc := post (if atom w then close0 r S else if w = "[" ∨ w = "(" then .go r (w :: S) else .bad)
def runM : Nat → List PySem.Str → List PySem.Str → Option (List PySem.Str)
  | 0, _, _ => none
  | _ + 1, [], _ => none
  | f + 1, w :: r, S => if 12 ≤ S.length then none else match stepM w r S with
    | .bad => none
    | .fin r => some r
    | .go r S => runM f r S
theorem close0_le : ∀ (S r r2 S2 : List PySem.Str), close0 r S = .go r2 S2 → r2.length ≤ r.length
  | [], r, r2, S2, h => by cases h
  | m :: S, r, r2, S2, h => by
    unfold close0 at h
    split at h
    · cases h; exact Nat.le_refl _
    · split at h
      · have := close0_le S _ _ _ h
        rw [List.length_tail] at this; omega
      · cases h
theorem post_le {x : Mc} {n : Nat} (hx : ∀ r S, x = .go r S → r.length ≤ n) {r2 S2 : List PySem.Str} (h : post x = .go r2 S2) : r2.length ≤ n := by
  unfold post at h
  split at h
  · rename_i r S
    have := hx r S rfl
    split at h
    · cases h; rw [List.length_tail]; omega
    · cases h; exact this
  · exact hx _ _ h
theorem stepM_le {w : PySem.Str} {r S r2 S2 : List PySem.Str} (h : stepM w r S = .go r2 S2) : r2.length ≤ r.length := by
  unfold stepM at h
  refine post_le (fun r3 S3 h3 => ?_) h
  split at h3
  · exact close0_le _ _ _ _ h3
  · split at h3
    · cases h3; exact Nat.le_refl _
    · cases h3
theorem runM_eq : ∀ (f g : Nat) (r S : List PySem.Str), r.length < f → r.length < g → runM f r S = runM g r S
  | 0, _, _, _, h, _ => by omega
  | _ + 1, 0, _, _, _, h => by omega
  | f + 1, g + 1, [], S, _, _ => rfl
  | f + 1, g + 1, w :: r, S, h1, h2 => by
    unfold runM
    split
    · rfl
    · split
      · rfl
      · rfl
      · rename_i r2 S2 e
        have := stepM_le e
        rw [List.length_cons] at h1 h2
        exact runM_eq f g r2 S2 (by omega) (by omega)
def RUN (r S : List PySem.Str) : Option (List PySem.Str) := runM (r.length + 1) r S
def endM : Mc → Option (List PySem.Str)
  | .bad => none
  | .fin r => some r
  | .go r S => RUN r S
theorem RUN_cons (w : PySem.Str) (r S : List PySem.Str) : RUN (w :: r) S = if 12 ≤ S.length then none else endM (stepM w r S) := by
  unfold RUN
  rw [List.length_cons, runM]
  split
  · rfl
  · cases e : stepM w r S with
    | bad => rfl
    | fin r2 => rfl
    | go r2 S2 =>
      have := stepM_le e
      exact runM_eq _ _ _ _ (by omega) (by omega)
theorem RUN_full (r S : List PySem.Str) (h : 12 ≤ S.length) : RUN r S = none := by
  cases r with
  | nil => rfl
  | cons w r => rw [RUN_cons, if_pos h]
theorem no_names : isName "[" = false ∧ isName "(" = false ∧ isName "number" = false ∧ isName "truth" = false := by decide +kernel
theorem kw_pos (k : Kd) : 0 < (kw k).length := by cases k <;> simp [kw]
/-- after a bracket: kinds up to a colon -/
theorem open_eq {b : Nat} (hb : ∀ r S, S.length + b = 12 → RUN r S = match pk b r with
    | none => none
    | some (_, r2) => endM (post (close0 r2 S))) : ∀ (m : Nat) (r S : List PySem.Str), S.length + b + 1 = 12 → r.length < m →
    endM (post (.go r ("(" :: S))) = match many (pk b) m r with
      | some (ks, x :: r1) => if x = ":" then (match pk b r1 with
        | some (k, y :: r2) => if y = ")" then endM (post (close0 r2 S)) else none
        | _ => none) else none
      | _ => none
  | 0, r, S, h, h2 => by omega
  | m + 1, r, S, h, h2 => by
    unfold many
    by_cases hc : r.head? = some (":" : PySem.Str)
    · rw [if_pos hc]
      cases r with
      | nil => cases hc
      | cons x r1 =>
        have hx : x = ":" := by simpa using hc
        subst hx
        rw [show post (.go ((":" : PySem.Str) :: r1) ("(" :: S)) = .go r1 (":" :: S) by rw [post_go, if_pos ⟨rfl, rfl⟩]; rfl]
        show RUN r1 (":" :: S) = _
        rw [hb r1 (":" :: S) (by rw [List.length_cons]; omega)]
        simp only [if_true]
        cases pk b r1 with
        | none => rfl
        | some kr =>
          obtain ⟨k, r2⟩ := kr
          simp only
          rw [close0_cons, if_neg (by decide +kernel)]
          cases r2 with
          | nil => rfl
          | cons y r2 =>
            simp only [List.head?_cons, List.tail_cons, Option.some.injEq, show clo ":" = ")" by decide +kernel]
            split
            · rfl
            · rfl
    · rw [if_neg hc]
      rw [show post (.go r ("(" :: S)) = .go r ("(" :: S) by rw [post_go, if_neg fun h => hc h.2]]
      show RUN r ("(" :: S) = _
      rw [hb r ("(" :: S) (by rw [List.length_cons]; omega)]
      cases e : pk b r with
      | none => rfl
      | some kr =>
        obtain ⟨k, r2⟩ := kr
        have e2 := pk_eq _ _ _ _ e
        have hp := kw_pos k
        have hl : r.length = (kw k).length + r2.length := by rw [e2, List.length_append]
        simp only
        rw [show close0 r2 ("(" :: S) = .go r2 ("(" :: S) by rw [close0_cons, if_pos rfl]]
        rw [open_eq hb m r2 S h (by omega)]
        cases many (pk b) m r2 with
        | none => rfl
        | some q =>
          obtain ⟨ks, r3⟩ := q
          cases r3 <;> rfl
theorem RUN_eq : ∀ (b : Nat) (r S : List PySem.Str), S.length + b = 12 → RUN r S = match pk b r with
    | none => none
    | some (_, r2) => endM (post (close0 r2 S))
  | 0, r, S, h => by rw [RUN_full r S (by omega)]; simp [pk]
  | b + 1, [], S, h => by simp [pk]; rfl
  | b + 1, w :: r, S, h => by
    rw [RUN_cons, if_neg (by omega)]
    unfold stepM pk
    by_cases h1 : w = "number"
    · subst h1
      rw [if_pos (by unfold atom; simp), if_pos rfl]
    · rw [if_neg h1]
      by_cases h2 : w = "truth"
      · subst h2
        rw [if_pos (by unfold atom; simp), if_pos rfl]
      · rw [if_neg h2]
        have ha : atom w = isName w := by unfold atom; rw [decide_eq_false h1, decide_eq_false h2]; rfl
        by_cases h3 : w = "["
        · subst h3
          rw [if_neg (by rw [ha, no_names.1]; decide), if_pos (Or.inl rfl), if_pos rfl]
          rw [show post (.go r ("[" :: S)) = .go r ("[" :: S) by rw [post_go, if_neg (by intro h; have := h.1; simp only [List.head?_cons, Option.some.injEq] at this; exact absurd this (by decide +kernel))]]
          show RUN r ("[" :: S) = _
          rw [RUN_eq b r ("[" :: S) (by rw [List.length_cons]; omega)]
          cases pk b r with
          | none => rfl
          | some kr =>
            obtain ⟨k, r2⟩ := kr
            simp only
            rw [close0_cons, if_neg (by decide +kernel)]
            cases r2 with
            | nil => rfl
            | cons y r2 =>
              simp only [List.head?_cons, List.tail_cons, Option.some.injEq, show clo "[" = "]" by decide +kernel]
              split
              · rfl
              · rfl
        · rw [if_neg h3]
          by_cases h4 : w = "("
          · subst h4
            rw [if_neg (by rw [ha, no_names.2.1]; decide), if_pos (Or.inr rfl), if_pos rfl]
            rw [open_eq (RUN_eq b) (r.length + 1) r S (by omega) (by omega)]
            cases many (pk b) (r.length + 1) r with
            | none => rfl
            | some q =>
              obtain ⟨ks, r3⟩ := q
              cases r3 with
              | nil => rfl
              | cons x r1 =>
                simp only
                by_cases hx : x = ":"
                · rw [if_pos hx, if_pos hx]
                  cases pk b r1 with
                  | none => rfl
                  | some kr =>
                    obtain ⟨k, r2⟩ := kr
                    cases r2 with
                    | nil => rfl
                    | cons y r2 =>
                      simp only
                      by_cases hy : y = ")"
                      · rw [if_pos hy, if_pos hy]
                      · rw [if_neg hy, if_neg hy]
                · rw [if_neg hx, if_neg hx]
          · rw [if_neg h4, ha]
            cases isName w with
            | true => rfl
            | false =>
              rw [if_neg (by decide), if_neg (by simp [h3, h4])]
              rfl
def afO : Ss := match d_l_after_kind.body with
  | .cons _ (.cons (.whl _ b) _) => b
  | _ => .nil
def afI : Ss := match afO with
  | .cons _ (.cons _ (.cons _ (.cons _ (.cons (.whl _ b) _)))) => b
  | _ => .nil
def isMark (m : PySem.Str) : Prop := m = "[" ∨ m = "(" ∨ m = ":"
theorem mark_ok {m : PySem.Str} (h : isMark m) : sOk m = true := by
  rcases h with rfl | rfl | rfl <;> decide +kernel
theorem c_eqx {B H R R' : HL} {Q : Val → HL → Prop} {kt : List (List Val)} {a b : Nat} {xs ys : List Val} (ns ms : List PySem.Str) (u1 : Sub H [(a, .lst xs)] R) (u2 : Sub H [(b, .lst ys)] R') (e1 : xs = ns.map .str) (e2 : ys = ms.map .str) (h1 : ∀ x ∈ ns, sOk x = true) (h2 : ∀ x ∈ ms, sOk x = true) (q : Q (.bl (decide (ns = ms))) H) : WP B (cop kt .eq (.ref a) (.ref b)) H Q := by
  subst e1 e2
  exact c_eqw u1 u2 h1 h2 q
theorem c_nex {B H R R' : HL} {Q : Val → HL → Prop} {kt : List (List Val)} {a b : Nat} {xs ys : List Val} (ns ms : List PySem.Str) (u1 : Sub H [(a, .lst xs)] R) (u2 : Sub H [(b, .lst ys)] R') (e1 : xs = ns.map .str) (e2 : ys = ms.map .str) (h1 : ∀ x ∈ ns, sOk x = true) (h2 : ∀ x ∈ ms, sOk x = true) (q : Q (.bl (!decide (ns = ms))) H) : WP B (cop kt .ne (.ref a) (.ref b)) H Q := by
  subst e1 e2
  exact c_new u1 u2 h1 h2 q
theorem cut1 {α : Type} {xs : List α} {n : Nat} (h : n ≤ xs.length) : cutL xs (some (n : Int)) (some ((n : Int) + 1)) = (xs.drop n).take 1 := by
  unfold cutL
  rw [show (n : Int) + 1 = ((n + 1 : Nat) : Int) by push_cast; rfl, HT.sIx_nat, HT.sIx_nat, Nat.min_eq_left h]
  by_cases h2 : n + 1 ≤ xs.length
  · rw [Nat.min_eq_left h2, Nat.add_sub_cancel_left]
  · rw [List.drop_eq_nil_of_le (by omega), List.take_nil, List.take_nil]
theorem take1 (r : List PySem.Str) (y : PySem.Str) : (r.take 1 = [y]) ↔ r.head? = some y := by
  cases r with
  | nil => simp
  | cons x r => simp
theorem perm_s2 {α : Type} (L : List α) (w m : α) (G R : List α) : (L ++ (w :: m :: (G ++ R))).Perm (w :: m :: ((L ++ G) ++ R)) := by
  refine List.perm_middle.trans (.cons _ (List.perm_middle.trans (.cons _ ?_)))
  rw [List.append_assoc]
theorem ww_perm {B H K : HL} {c : Ctx} {t : CL.B} {b : Ss} {f : Nat} {s : Env} {N : Env → HL → Prop} {T : Val → HL → Prop} (p : H.Perm K) (h : WW B c t b f s K N T) : WW B c t b f s H N T := wp_perm p h
theorem perm_s {α : Type} (L : List α) (w : α) (M G R : List α) : (L ++ (w :: (M ++ (G ++ R)))).Perm ((w :: R) ++ (L ++ (M ++ G))) := by
  refine List.perm_middle.trans (.cons _ ?_)
  rw [← List.append_assoc M, ← List.append_assoc L]
  exact List.perm_append_comm
section
variable {B R : HL} {d : Nat} {wl ml : Nat} {ws : List PySem.Str}
theorem in_loop {w : Option Val} {N : Env → HL → Prop} {T : Val → HL → Prop} (hl : ws.length ≤ 3000) (hw : ∀ x ∈ ws, x.length ≤ 9 ∧ sOk x = true) : ∀ (S : List PySem.Str) (n f : Nat) (G_ : HL), S.length + 2 ≤ f → n ≤ ws.length → (∀ m ∈ S, isMark m) →
    (close0 (ws.drop n) S = .bad → ∀ K X, Sub K ((wl, wsO ws) :: R) X → T (.int (-1)) K) →
    (∀ r, close0 (ws.drop n) S = .fin r → ∀ K X, Sub K ((wl, wsO ws) :: R) X → T (.int ((ws.length : Int) - r.length)) K) →
    (∀ n2 S2 G_, n2 ≤ ws.length → close0 (ws.drop n) S = .go (ws.drop n2) ("(" :: S2) → (∀ m ∈ S2, isMark m) → S2.length < S.length → N [some (.ref wl), some (.int (n2 : Nat)), some (.ref ml), w, some (.bl false)] ((wl, wsO ws) :: (ml, wsO (("(" : PySem.Str) :: S2).reverse) :: (G_ ++ R))) →
    WW B (cxN G fuel (d + 2)) (.of (.v 4)) afI f [some (.ref wl), some (.int (n : Nat)), some (.ref ml), w, some (.bl true)] ((wl, wsO ws) :: (ml, wsO S.reverse) :: (G_ ++ R)) N T
  | S, n, 0, G_, hf, hn, hm, tb, tf, ng => by omega
  | [], n, f + 1, G_, hf, hn, hm, tb, tf, ng => by
    refine whl_step ?_
    unfold afI afO d_l_after_kind
    dsimp only
    walk_at "w"
    refine c_eqx [] [] (by walk_at "sub") (by walk_at "sub") (by rfl) (by rfl) (by simp) (by simp) ?_
    walk_at "w"
    rw [show (n : Int) = (ws.length : Int) - ((ws.drop n).length : Int) by rw [List.length_drop]; omega]
    exact tf (ws.drop n) (by rw [close0]) _ _ (perm_s [_] (wl, wsO ws) [(ml, wsO [].reverse)] G_ R)
  | m :: S, n, f + 1, G_, hf, hn, hm, tb, tf, ng => by
    refine whl_step ?_
    unfold afI afO d_l_after_kind
    dsimp only
    have hmm := hm m (by simp)
    walk_at "w"
    refine c_eqx (m :: S).reverse [] (by walk_at "sub") (by walk_at "sub") (by rfl) (by rfl) (fun x hx => mark_ok (hm x (List.mem_reverse.mp hx))) (by simp) ?_
    walk_at "w"
    refine br_dec (fun h => absurd h (by simp)) fun _ => ?_
    walk_at "w"
    rename_i pe
    refine x_lst (xs := S.reverse.map .str ++ [.str m]) (by rw [show S.reverse.map Val.str ++ [.str m] = (m :: S).reverse.map .str by simp]; walk_at "sub") atI_last ?_
    walk_at "w"
    by_cases hmp : m = "("
    · subst hmp
      rw [decide_eq_true rfl]
      walk_at "w"
      obtain ⟨g, rfl⟩ : ∃ g, f = g + 1 := ⟨f - 1, by simp only [List.length_cons] at hf; omega⟩
      refine ww_perm (perm_s2 [_] (wl, wsO ws) (ml, wsO (("(" : PySem.Str) :: S).reverse) G_ R) ?_
      refine whl_step ?_
      walk_at "w"
      exact ng n S _ hn (by rw [close0_cons, if_pos rfl]) (fun x hx => hm x (by simp [hx])) (by simp)
    · rw [decide_eq_false hmp]
      walk_at "w"
      refine x_lst (xs := S.reverse.map .str ++ [.str m]) (by rw [show S.reverse.map Val.str ++ [.str m] = (m :: S).reverse.map .str by simp]; walk_at "sub") atI_last ?_
      walk_at "w"
      refine x_dK (v := .str (clo m)) (by walk_at "sub") (k := .inr m) rfl (by
        rcases hmm with rfl | rfl | rfl
        · rfl
        · exact absurd rfl hmp
        · rfl) ?_
      walk_at "w"
      have hcl : sOk (clo m) = true := by unfold clo; split <;> decide +kernel
      refine c_nex (cutL ws (some (n : Int)) (some ((n : Int) + 1))) [clo m] (by walk_at "sub") (by walk_at "sub") (by rw [cutL_map]) (by rfl) (fun x hx => (hw x (cutL_mem hx)).2) (by simpa using hcl) ?_
      rw [cut1 hn]
      walk_at "w"
      rename_i pc pd pf
      refine br_ndec (fun hc => ?_) fun hc => ?_
      · rw [take1] at hc
        walk_at "w"
        exact tb (by rw [close0_cons, if_neg hmp, if_neg hc]) _ _ (perm_s [_, _, _, _] (wl, wsO ws) [(ml, wsO (m :: S).reverse)] G_ R)
      · rw [take1] at hc
        have hn2 : n + 1 ≤ ws.length := by
          rw [head_drop] at hc
          have := (List.getElem?_eq_some_iff.mp hc).1
          omega
        have hd : (ws.drop n).tail = ws.drop (n + 1) := by rw [List.tail_drop]
        have ec : close0 (ws.drop n) (m :: S) = close0 (ws.drop (n + 1)) S := by rw [close0_cons, if_neg hmp, if_pos hc, hd]
        rw [ec] at tb tf ng
        walk_at "w"
        refine m_pop (xs := (m :: S).reverse.map .str) (by walk_at "upd") (v := .str m) (by simp) ?_
        rw [show (List.map Val.str (m :: S).reverse).dropLast = List.map Val.str S.reverse by simp]
        walk_at "w"
        rw [show (n : Int) + 1 = ((n + 1 : Nat) : Int) by push_cast; rfl]
        refine ww_perm (perm_s2 [_, _, _, _] (wl, wsO ws) (ml, wsO S.reverse) G_ R) ?_
        exact in_loop hl hw S (n + 1) f _ (by simp only [List.length_cons] at hf; omega) hn2 (fun x hx => hm x (by simp [hx])) tb tf (fun n2 S2 G2 a b c e => ng n2 S2 G2 a b c (by simp only [List.length_cons]; omega))
end
def afC : Ss := match afO with
  | .cons _ (.cons _ (.cons _ (.cons _ (.cons _ c)))) => c
  | _ => .nil
section
variable {B R : HL} {d : Nat} {wl ml : Nat} {ws : List PySem.Str}
theorem af_check {a3 a4 : Option Val} {N KK C : Env → HL → Prop} {T : Val → HL → Prop} (hw : ∀ x ∈ ws, x.length ≤ 9 ∧ sOk x = true) {m : PySem.Str} {S : List PySem.Str} {n : Nat} {G_ : HL} (hn : n ≤ ws.length) (hm : ∀ x ∈ m :: S, isMark x)
    (q : ∀ n2 S2 G2, post (.go (ws.drop n) (m :: S)) = .go (ws.drop n2) S2 → n ≤ n2 → n2 ≤ ws.length → (∀ x ∈ S2, isMark x) → S2.length = S.length + 1 → N [some (.ref wl), some (.int (n2 : Nat)), some (.ref ml), a3, a4] ((wl, wsO ws) :: (ml, wsO S2.reverse) :: (G2 ++ R))) :
    WSs B (cxN G fuel (d + 2)) afC [some (.ref wl), some (.int (n : Nat)), some (.ref ml), a3, a4] ((wl, wsO ws) :: (ml, wsO (m :: S).reverse) :: (G_ ++ R)) N T KK C := by
  unfold afC afO d_l_after_kind
  dsimp only
  have e1 : (m :: S).reverse.map Val.str = S.reverse.map Val.str ++ [.str m] := by simp
  walk_at "w"
  refine x_lst (xs := S.reverse.map .str ++ [.str m]) (by rw [← e1]; walk_at "sub") atI_last ?_
  walk_at "w"
  refine br_dec (fun h => ?_) fun h => ?_
  · subst h
    walk_at "w"
    refine c_eqx (cutL ws (some (n : Int)) (some ((n : Int) + 1))) [":"] (by walk_at "sub") (by walk_at "sub") (by rw [cutL_map]) (by rfl) (fun x hx => (hw x (cutL_mem hx)).2) (by decide +kernel) ?_
    rw [cut1 hn]
    walk_at "w"
    rename_i pc pd
    refine br_dec (fun hc => ?_) fun hc => ?_
    · rw [take1] at hc
      have hn2 : n + 1 ≤ ws.length := by
        rw [head_drop] at hc
        have := (List.getElem?_eq_some_iff.mp hc).1
        omega
      walk_at "w"
      refine y_lst (by walk_at "upd") (j := S.length) (by rw [e1]; simp [L2.ixN]; omega) ?_
      rw [show (List.map Val.str (("(" : PySem.Str) :: S).reverse).set S.length (.str ":") = ((":" : PySem.Str) :: S).reverse.map Val.str by rw [e1]; simp]
      refine wp_perm (perm_s2 [_, _] (wl, wsO ws) (ml, wsO ((":" : PySem.Str) :: S).reverse) G_ R) ?_
      show WSs B _ _ _ _ _ _ _ _
      walk_at "w"
      rw [show (n : Int) + 1 = ((n + 1 : Nat) : Int) by push_cast; rfl]
      refine q (n + 1) (":" :: S) _ ?_ (by omega) hn2 (fun x hx => ?_) rfl
      · rw [post_go, if_pos ⟨rfl, hc⟩, List.tail_drop]; rfl
      · rcases List.mem_cons.mp hx with rfl | hx
        · exact Or.inr (Or.inr rfl)
        · exact hm x (List.mem_cons_of_mem _ hx)
    · rw [take1] at hc
      refine wp_perm (perm_s2 [_, _] (wl, wsO ws) (ml, wsO (("(" : PySem.Str) :: S).reverse) G_ R) ?_
      show WSs B _ _ _ _ _ _ _ _
      walk_at "w"
      exact q n _ _ (by rw [post_go, if_neg fun h => hc h.2]) (Nat.le_refl _) hn hm rfl
  · walk_at "w"
    exact q n _ _ (by rw [post_go, if_neg fun h2 => h (by simpa using h2.1)]) (Nat.le_refl _) hn hm rfl
end
section
variable {B R : HL} {d : Nat} {wl ml : Nat} {ws : List PySem.Str}
theorem out_loop {N : Env → HL → Prop} {T : Val → HL → Prop} (hl : ws.length ≤ 3000) (hw : ∀ x ∈ ws, x.length ≤ 9 ∧ sOk x = true) : ∀ (f n : Nat) (S : List PySem.Str) (G_ : HL) (a3 a4 : Option Val), ws.length - n < f → n ≤ ws.length → (∀ x ∈ S, isMark x) → S.length ≤ 12 →
    (RUN (ws.drop n) S = none → ∀ K X, Sub K ((wl, wsO ws) :: R) X → T (.int (-1)) K ∧ ∀ s, N s K) →
    (∀ r, RUN (ws.drop n) S = some r → ∀ K X, Sub K ((wl, wsO ws) :: R) X → T (.int ((ws.length : Int) - r.length)) K) →
    WW B (cxN G fuel (d + 2)) (.and (.of (.cmp .lt (.v 1) (.bf .len (.cons (.v 0) .nil)))) (.of (.cmp .lt (.bf .len (.cons (.v 2) .nil)) (.int 12)))) afO f [some (.ref wl), some (.int (n : Nat)), some (.ref ml), a3, a4] ((wl, wsO ws) :: (ml, wsO S.reverse) :: (G_ ++ R)) N T
  | 0, n, S, G_, a3, a4, hf, _, _, _, _, _ => by omega
  | f + 1, n, S, G_, a3, a4, hf, hn, hm, hS, tn, ts => by
    refine whl_step ?_
    walk_at "w"
    rw [List.length_map]
    refine br_dec (fun h => ?_) fun h => ?_
    · walk_at "w"
      rw [List.length_map, List.length_reverse]
      refine br_dec (fun h12 => ?_) fun h12 => ?_
      · have hn1 : n < ws.length := by omega
        have hS1 : S.length < 12 := by omega
        have hx := List.getElem?_eq_getElem hn1
        generalize ws[n] = x at hx
        have hmem : x ∈ ws := List.mem_of_getElem? hx
        have hdrop : ws.drop n = x :: ws.drop (n + 1) := by
          rw [List.drop_eq_getElem_cons hn1]
          congr 1
          rw [List.getElem?_eq_getElem hn1] at hx
          exact Option.some.inj hx
        rw [hdrop, RUN_cons, if_neg (by omega)] at tn ts
        have more : ∀ n3 S3 G3 a4, stepM x (ws.drop (n + 1)) S = .go (ws.drop n3) S3 → n + 1 ≤ n3 → n3 ≤ ws.length → (∀ x ∈ S3, isMark x) → S3.length ≤ 12 → WW B (cxN G fuel (d + 2)) (.and (.of (.cmp .lt (.v 1) (.bf .len (.cons (.v 0) .nil)))) (.of (.cmp .lt (.bf .len (.cons (.v 2) .nil)) (.int 12)))) afO f [some (.ref wl), some (.int (n3 : Nat)), some (.ref ml), some (.str x), a4] ((wl, wsO ws) :: (ml, wsO S3.reverse) :: (G3 ++ R)) N T := fun n3 S3 G3 a4 e h1 h2 h3 h4 => by
          rw [e] at tn ts
          exact out_loop hl hw f n3 S3 G3 _ _ (by omega) h2 h3 h4 tn ts
        have atomC : ∀ NK C, atom x = true → WW B (cxN G fuel (d + 2)) (.of (.v 4)) afI (cxN G fuel (d + 2)).fuel [some (.ref wl), some (.int ((n + 1 : Nat) : Int)), some (.ref ml), some (.str x), some (.bl true)] ((wl, wsO ws) :: (ml, wsO S.reverse) :: (G_ ++ R)) (fun s1 H1 => WSs B (cxN G fuel (d + 2)) afC s1 H1 (fun s2 H2 => WW B (cxN G fuel (d + 2)) (.and (.of (.cmp .lt (.v 1) (.bf .len (.cons (.v 0) .nil)))) (.of (.cmp .lt (.bf .len (.cons (.v 2) .nil)) (.int 12)))) afO f s2 H2 N T) T NK C) T := fun NK C ha => by
          have es : stepM x (ws.drop (n + 1)) S = post (close0 (ws.drop (n + 1)) S) := by unfold stepM; rw [if_pos ha]
          refine in_loop hl hw S (n + 1) _ G_ (by show _ ≤ 1000000; omega) (by omega) hm (fun e K X hs => ?_) (fun r e K X hs => ?_) fun n2 S2 G2 a e b c => ?_
          · exact (tn (by rw [es, e]; rfl) K X hs).1
          · exact ts r (by rw [es, e]; rfl) K X hs
          · have hle := close0_le _ _ _ _ e
            rw [List.length_drop, List.length_drop] at hle
            refine af_check hw a (fun x hx => ?_) fun n3 S3 G3 e3 h1 h2 h3 h4 => more n3 S3 G3 _ (by rw [es, e, e3]) (by omega) h2 h3 (by omega)
            rcases List.mem_cons.mp hx with rfl | hx
            · exact Or.inr (Or.inl rfl)
            · exact b x hx
        have pushC : ∀ NK C, atom x = false → x = "[" ∨ x = "(" → WW B (cxN G fuel (d + 2)) (.of (.v 4)) afI (cxN G fuel (d + 2)).fuel [some (.ref wl), some (.int ((n + 1 : Nat) : Int)), some (.ref ml), some (.str x), some (.bl false)] ((wl, wsO ws) :: (ml, wsO (x :: S).reverse) :: (G_ ++ R)) (fun s1 H1 => WSs B (cxN G fuel (d + 2)) afC s1 H1 (fun s2 H2 => WW B (cxN G fuel (d + 2)) (.and (.of (.cmp .lt (.v 1) (.bf .len (.cons (.v 0) .nil)))) (.of (.cmp .lt (.bf .len (.cons (.v 2) .nil)) (.int 12)))) afO f s2 H2 N T) T NK C) T := fun NK C ha hx2 => by
          have es : stepM x (ws.drop (n + 1)) S = post (.go (ws.drop (n + 1)) (x :: S)) := by unfold stepM; rw [if_neg (by rw [ha]; decide), if_pos hx2]
          refine whl_step (n := 999999) ?_
          walk_at "w"
          refine af_check hw (by omega) (fun y hy => ?_) fun n3 S3 G3 e3 h1 h2 h3 h4 => more n3 S3 G3 _ (by rw [es, e3]) (by omega) h2 h3 (by omega)
          rcases List.mem_cons.mp hy with rfl | hy
          · rcases hx2 with h | h
            · exact Or.inl h
            · exact Or.inr (Or.inl h)
          · exact hm y hy
        show WSs B _ (.cons _ (.cons _ (.cons _ (.cons _ (.cons (.whl _ afI) afC))))) _ _ _ _ _ _
        walk_at "w"
        refine x_lst (by walk_at "sub") (v := .str x) (atI_nat (by rw [List.getElem?_map, hx]; rfl)) ?_
        walk_at "w"
        rw [show (n : Int) + 1 = ((n + 1 : Nat) : Int) by push_cast; rfl]
        refine ⟨fun ha => ?_, fun ha => ?_⟩
        · have ha : (["number", "truth"].any fun y => decide (y = x)) = true := (any_str x ["number", "truth"]).symm.trans ha
          walk_at "w"
          exact atomC _ _ (by unfold atom; simp only [List.any_cons, List.any_nil, Bool.or_false, eq_comm (b := x)] at ha; rw [ha]; rfl)
        · have ha : (["number", "truth"].any fun y => decide (y = x)) = false := (any_str x ["number", "truth"]).symm.trans ha
          walk_at "w"
          refine sl_is_name (d := d) (hw x hmem).1 ?_
          walk_at "w"
          have hae : atom x = isName x := by unfold atom; simp only [List.any_cons, List.any_nil, Bool.or_false, eq_comm (b := x)] at ha; rw [ha]; rfl
          refine ⟨fun hi => ?_, fun hi => ?_⟩
          · have hi : isName x = false := by simpa using hi
            rw [hi]
            walk_at "w"
            refine br_ndec (fun hb => ?_) fun hb => ?_
            · walk_at "w"
              refine br_ndec (fun hp => ?_) fun hp => ?_
              · walk_at "w"
                refine (tn ?_ _ _ (perm_s [] (wl, wsO ws) [(ml, wsO S.reverse)] G_ R)).1
                unfold stepM
                rw [if_neg (by rw [hae, hi]; decide), if_neg (by simp [hb, hp])]; rfl
              · walk_at "w"
                refine m_app (xs := S.reverse.map .str) (.there .here) (by rw [List.length_map, List.length_reverse]; omega) ?_
                rw [show S.reverse.map Val.str ++ [.str x] = (x :: S).reverse.map Val.str by simp]
                walk_at "w"
                exact pushC _ _ (by rw [hae, hi]) (Or.inr hp)
            · walk_at "w"
              refine m_app (xs := S.reverse.map .str) (.there .here) (by rw [List.length_map, List.length_reverse]; omega) ?_
              rw [show S.reverse.map Val.str ++ [.str x] = (x :: S).reverse.map Val.str by simp]
              walk_at "w"
              exact pushC _ _ (by rw [hae, hi]) (Or.inl hb)
          · have hi : isName x = true := by simpa using hi
            rw [hi]
            walk_at "w"
            exact atomC _ _ (by rw [hae, hi])
      · walk_at "w"
        exact (tn (RUN_full _ _ (by omega)) _ _ (perm_s [] (wl, wsO ws) [(ml, wsO S.reverse)] G_ R)).2 _
    · walk_at "w"
      have : ws.drop n = [] := List.drop_eq_nil_of_le (by omega)
      exact (tn (by rw [this]; rfl) _ _ (perm_s [] (wl, wsO ws) [(ml, wsO S.reverse)] G_ R)).2 _
/-- what the law's look tells -/
def afterI (ws : List PySem.Str) : Int := match RUN ws [] with
  | none => -1
  | some r => (ws.length : Int) - r.length
theorem sl_after {H : HL} {Q : Val → HL → Prop} (hl : ws.length ≤ 3000) (hw : ∀ x ∈ ws, x.length ≤ 9 ∧ sOk x = true) (hp : Sub H [(wl, wsO ws)] R) (q : Q (.int (afterI ws)) H) : WP B (callN G fuel (d + 3) f_l_after_kind [.ref wl, .int 0]) H Q := by
  walk_at "in"
  show WSs B _ (.cons _ (.cons (.whl _ afO) _)) _ _ _ _ _ _
  walk_at "w"
  rename_i ml
  refine wp_perm (K := (wl, wsO ws) :: (ml, wsO ([] : List PySem.Str).reverse) :: ([] ++ R)) ((List.Perm.cons _ (show H.Perm ((wl, wsO ws) :: R) from hp)).trans (.swap _ _ _)) ?_
  refine out_loop (d := d) (ml := ml) hl hw _ 0 [] [] none none (by show _ < 1000000; omega) (Nat.zero_le _) (by simp) (by simp) (fun e K X hs => ⟨?_, fun s => ?_⟩) fun r e K X hs => ?_
  · rw [List.drop_zero] at e
    unfold afterI at q
    rw [e] at q
    exact conv (K := H) (X := X) (hs.trans (List.Perm.append_right _ (show H.Perm ((wl, wsO ws) :: R) from hp).symm)) q
  · rw [List.drop_zero] at e
    unfold afterI at q
    rw [e] at q
    walk_at "w"
    exact conv (K := H) (X := X) (hs.trans (List.Perm.append_right _ (show H.Perm ((wl, wsO ws) :: R) from hp).symm)) q
  · rw [List.drop_zero] at e
    unfold afterI at q
    rw [e] at q
    exact conv (K := H) (X := X) (hs.trans (List.Perm.append_right _ (show H.Perm ((wl, wsO ws) :: R) from hp).symm)) q
end
theorem after_iff (ws : List PySem.Str) : afterI ws = (ws.length : Int) ↔ ∃ k, pk 12 ws = some (k, []) := by
  unfold afterI
  rw [RUN_eq 12 ws [] rfl]
  cases e : pk 12 ws with
  | none =>
    simp only
    refine ⟨fun h => by omega, fun ⟨k, h⟩ => by cases h⟩
  | some kr =>
    obtain ⟨k, r⟩ := kr
    simp only [close0, post, endM]
    refine ⟨fun h => ?_, fun ⟨k2, h⟩ => ?_⟩
    · have : r = [] := List.length_eq_zero_iff.mp (by omega)
      exact ⟨k, by rw [this]⟩
    · cases h; simp
theorem many_mono {f g : List PySem.Str → Option (Kd × List PySem.Str)} (h : ∀ ws x, f ws = some x → g ws = some x) : ∀ (n : Nat) (ws : List PySem.Str) (x : List Kd × List PySem.Str), many f n ws = some x → many g n ws = some x
  | 0, ws, x, e => by simp [many] at e
  | n + 1, ws, x, e => by
    unfold many at e ⊢
    split at e
    · rename_i hc; rw [if_pos hc]; exact e
    · rename_i hc
      rw [if_neg hc]
      split at e
      · cases e
      · rename_i k r e1
        rw [h _ _ e1]
        split at e
        · cases e
        · rename_i ks r2 e2
          simp only
          rw [many_mono h n _ _ e2]
          exact e
theorem pk_mono : ∀ (b : Nat) (ws : List PySem.Str) (x : Kd × List PySem.Str), pk b ws = some x → pk (b + 1) ws = some x
  | 0, ws, x, e => by simp [pk] at e
  | b + 1, [], x, e => by simp [pk] at e
  | b + 1, w :: r, x, e => by
    unfold pk at e
    rw [pk]
    split at e
    · rename_i h; rw [if_pos h]; exact e
    · rename_i h1
      rw [if_neg h1]
      split at e
      · rename_i h; rw [if_pos h]; exact e
      · rename_i h2
        rw [if_neg h2]
        split at e
        · rename_i h; rw [if_pos h]
          split at e
          · rename_i k y r2 e1
            rw [pk_mono b _ _ e1]
            exact e
          · cases e
        · rename_i h3
          rw [if_neg h3]
          split at e
          · rename_i h; rw [if_pos h]
            split at e
            · rename_i ks y r1 e1
              rw [many_mono (pk_mono b) _ _ _ e1]
              simp only
              split at e
              · rename_i hy
                rw [if_pos hy]
                split at e
                · rename_i k z r2 e2
                  rw [pk_mono b _ _ e2]
                  exact e
                · cases e
              · cases e
            · cases e
          · rename_i h4
            rw [if_neg h4]; exact e
theorem pk_up {b : Nat} {ws : List PySem.Str} {x : Kd × List PySem.Str} (e : pk b ws = some x) : ∀ n, pk (b + n) ws = some x
  | 0 => e
  | n + 1 => pk_mono _ _ _ (pk_up e n)
theorem colon_no : isName ":" = false := by decide +kernel
theorem kw_head (k : Kd) (hk : kn k = true) (r : List PySem.Str) : ¬ (kw k ++ r).head? = some (":" : PySem.Str) := by
  cases k with
  | num => rw [kw]; simp only [List.cons_append, List.head?_cons, Option.some.injEq]; decide +kernel
  | tru => rw [kw]; simp only [List.cons_append, List.head?_cons, Option.some.injEq]; decide +kernel
  | rc z =>
    rw [kw]; simp only [List.cons_append, List.head?_cons, Option.some.injEq]
    rintro rfl
    rw [kn, colon_no] at hk; cases hk
  | row k => rw [kw]; simp only [List.cons_append, List.head?_cons, Option.some.injEq]; decide +kernel
  | fn ps k => rw [kw]; simp only [List.cons_append, List.head?_cons, Option.some.injEq]; decide +kernel
theorem many_kws {b : Nat} (hb : ∀ k r, kn k = true → kd k ≤ b → pk b (kw k ++ r) = some (k, r)) (r : List PySem.Str) : ∀ (ks : List Kd) (m : Nat), kn.kns ks = true → kd.kds ks ≤ b → ks.length < m → many (pk b) m (kw.kws ks ++ ((":" : PySem.Str) :: r)) = some (ks, (":" : PySem.Str) :: r)
  | _, 0, _, _, h => by omega
  | [], m + 1, _, _, _ => by rw [kw.kws, List.nil_append, many, List.head?_cons, if_pos rfl]
  | k :: ks, m + 1, h1, h2, h3 => by
    rw [kn.kns, Bool.and_eq_true] at h1
    rw [kd.kds] at h2
    rw [kw.kws, List.append_assoc, many, if_neg (kw_head k h1.1 _), hb k _ h1.1 (by omega)]
    simp only
    rw [many_kws hb r ks m h1.2 (by omega) (by simp only [List.length_cons] at h3; omega)]
theorem kws_len : ∀ ks : List Kd, ks.length ≤ (kw.kws ks).length
  | [] => Nat.zero_le _
  | k :: r => by
    have := kws_len r
    have := kw_pos k
    rw [kw.kws, List.length_append, List.length_cons]; omega
theorem pk_kw : ∀ (b : Nat) (k : Kd) (r : List PySem.Str), kn k = true → kd k ≤ b → pk b (kw k ++ r) = some (k, r)
  | 0, k, r, _, h => by cases k <;> simp [kd] at h
  | b + 1, .num, r, _, _ => by rw [kw, List.cons_append, pk, if_pos rfl]; rfl
  | b + 1, .tru, r, _, _ => by rw [kw, List.cons_append, pk, if_neg (by decide +kernel), if_pos rfl]; rfl
  | b + 1, .rc z, r, h, _ => by
    rw [kn, Bool.and_eq_true] at h
    have hn : ∀ x : PySem.Str, isName x = false → z ≠ x := fun x hx e => by rw [e, hx] at h; exact absurd h.1 (by decide)
    rw [kw, List.cons_append, pk, if_neg (hn _ no_names.2.2.1), if_neg (hn _ no_names.2.2.2), if_neg (hn _ no_names.1), if_neg (hn _ no_names.2.1), if_pos h.1]; rfl
  | b + 1, .row k, r, h, hd => by
    rw [kn] at h
    rw [kd] at hd
    rw [kw, List.cons_append, List.append_assoc, pk, if_neg (by decide +kernel), if_neg (by decide +kernel), if_pos rfl, pk_kw b k _ h (by omega)]
    rfl
  | b + 1, .fn ps k, r, h, hd => by
    rw [kn, Bool.and_eq_true] at h
    rw [kd] at hd
    have hl := kws_len ps
    rw [kw, List.cons_append, List.append_assoc, pk, if_neg (by decide +kernel), if_neg (by decide +kernel), if_neg (by decide +kernel), if_pos rfl, List.cons_append, many_kws (pk_kw b) _ ps _ h.1 (by omega) (by rw [List.length_append]; omega)]
    simp only [if_true]
    rw [List.append_assoc, pk_kw b k _ h.2 (by omega)]
    rfl
theorem pk_same {k k2 : Kd} {b : Nat} (hk : kn k = true) (h : pk b (kw k) = some (k2, [])) : k2 = k := by
  have h1 := pk_up h (kd k)
  have h2 := pk_kw (b + kd k) k [] hk (by omega)
  rw [List.append_nil, h1] at h2
  cases h2; rfl
/-- texts and short tuples, so deep at most -/
def flat : Nat → Val → Prop
  | _, .str _ => True
  | n + 1, .tup xs => xs.length ≤ 1000 ∧ ∀ x ∈ xs, flat n x
  | _, _ => False
theorem flat_up : ∀ (n m : Nat) (v : Val), n ≤ m → flat n v → flat m v
  | _, _, .str _, _, _ => by unfold flat; trivial
  | n + 1, m + 1, .tup xs, hm, h => by
    rw [flat] at h ⊢
    exact ⟨h.1, fun x hx => flat_up n m x (by omega) (h.2 x hx)⟩
  | n + 1, 0, .tup xs, hm, h => by omega
  | 0, _, .tup xs, _, h => by simp [flat] at h
  | _, _, .non, _, h => by simp [flat] at h
  | _, _, .bl _, _, h => by simp [flat] at h
  | _, _, .int _, _, h => by simp [flat] at h
  | _, _, .ref _, _, h => by simp [flat] at h
section
variable {B H R R' : HL} {d : Nat} {Q : Val → HL → Prop}
theorem trues : ∀ xs : List Val, List.filterMap (fun _ : Val => some (Val.bl true)) (xs.map fun x => Val.tup [x, x]) = (List.replicate xs.length true).map Val.bl
  | [] => rfl
  | x :: r => by rw [List.map_cons, List.filterMap_cons, trues r]; rfl
theorem zipL_self : ∀ xs : List Val, zipL xs xs = xs.map fun x => .tup [x, x]
  | [] => rfl
  | x :: r => by rw [zipL, zipL_self r]; rfl
def trueG (_ : Val) : Option Val := some (.bl true)
theorem sl_alike (n : Nat) : ∀ (v : Val) {H : HL} {d : Nat} {Q : Val → HL → Prop}, flat n v → Q (.bl true) H → WP B (callN G fuel (d + n + 1) f_l_alike [v, v]) H Q := by
  induction n with
  | zero =>
    intro v H d Q hv q
    cases v with
    | str z =>
      walk_at "in"
      walk_at "w"
      refine c_eqb ?_
      walk_at "w"
      rw [decide_eq_true rfl]
      exact conv0 q
    | _ => simp [flat] at hv
  | succ n ih =>
    intro v H d Q hv q
    cases v with
    | str z =>
      walk_at "in"
      walk_at "w"
      refine c_eqb ?_
      walk_at "w"
      rw [decide_eq_true rfl]
      exact conv0 q
    | tup xs =>
      rw [flat] at hv
      have hv0 := hv
      obtain ⟨hv1, _⟩ := hv
      walk_at "in"
      walk_at "w"
      refine br_ndec (fun h => absurd rfl h) fun _ => ?_
      walk_at "w"
      refine ⟨xs, xs, its_tup, its_tup, fun D => ?_⟩
      refine lc_pure trueG H _ [] (fun v hv => ?_) sees_nil ?_ ?_
      · rw [zipL_self] at hv
        obtain ⟨x, hx, rfl⟩ := List.mem_map.mp hv
        refine ⟨_, rfl, fun zs => ?_⟩
        walk_at "w"
        exact ih x (hv0.2 x hx) ⟨rfl, rfl⟩
      · rw [zipL_self, List.length_map]; show 0 + _ < _; omega
      · rw [zipL_self, List.nil_append]
        have e : List.filterMap trueG (xs.map fun x => Val.tup [x, x]) = (List.replicate xs.length true).map Val.bl := by
          exact trues xs
        rw [e]
        walk_at "w"
        refine f_all sub_one (bools_map _) ?_
        rw [show (List.replicate xs.length true).all id = true by simp]
        exact conv (X := [_]) (List.perm_append_comm (l₁ := [_])) q
    | _ => simp [flat] at hv
theorem cut63 {α : Type} {xs : List α} (h : xs.length ≤ 63) : cutL xs none (some 63) = xs := cutL_all ⟨rfl, by
  rw [show (63 : Int) = ((63 : Nat) : Int) from rfl, HT.sIx_nat]; omega⟩
theorem sl_stream {cells : List Int} {p : Nat} (hl : cells.length ≤ 63) (hp : (p, .lst (cells.map .int)) ∈ B)
    (q : ∀ r c P X, Row3.ok P → Q (.ref r) ((r, rowO c P) :: (c, celO P) :: (X ++ H))) : WP B (callN G fuel (d + 1) f_l_stream [.ref p]) H Q := by
  walk_at "in"
  walk_at "w"
  refine x_cutB (xs := cells.map .int) hp rfl rfl fun p1 => ?_
  rw [cut63 (by rw [List.length_map]; exact hl)]
  walk_at "w"
  refine f_lenB (xs := cells.map .int) hp ?_
  walk_at "w"
  rename_i p2 p3
  refine p_addl' (by walk_at "sub") (by walk_at "sub") (fits_small (by simp; omega)) fun p4 => ?_
  walk_at "w"
  rename_i pr
  have qq := q pr p4 ⟨cells ++ [(cells.length : Int)], 0, 0, 0⟩ [(p3, .lst [.int (cells.length : Nat)]), (p2, .lst (cells.map .int)), (p1, .lst (cells.map .int))] ⟨by simp, by simp; omega, Int.le_refl 0, Int.le_refl 0, (by show (0 : Int) < 2147483647; decide)⟩
  have e : cells.map Val.int ++ [Val.int ((cells.map Val.int).length : Nat)] = (cells ++ [(cells.length : Int)]).map Val.int := by simp
  rw [e, List.length_map]
  exact conv0 qq
end
theorem many_kd {f : List PySem.Str → Option (Kd × List PySem.Str)} {b : Nat} (h : ∀ ws k r, f ws = some (k, r) → kd k ≤ b) : ∀ (n : Nat) (ws : List PySem.Str) (ks : List Kd) (r : List PySem.Str), many f n ws = some (ks, r) → kd.kds ks ≤ b
  | 0, ws, ks, r, e => by simp [many] at e
  | n + 1, ws, ks, r, e => by
    unfold many at e
    split at e
    · cases e; simp [kd.kds]
    · split at e
      · cases e
      · rename_i k r1 e1
        split at e
        · cases e
        · rename_i ks2 r2 e2
          cases e
          rw [kd.kds]
          have := h _ _ _ e1
          have := many_kd h n _ _ _ e2
          omega
theorem pk_kd : ∀ (b : Nat) (ws : List PySem.Str) (k : Kd) (r : List PySem.Str), pk b ws = some (k, r) → kd k ≤ b
  | 0, ws, k, r, e => by simp [pk] at e
  | b + 1, [], k, r, e => by simp [pk] at e
  | b + 1, w :: r0, k, r, e => by
    unfold pk at e
    split at e
    · cases e; simp [kd]
    · split at e
      · cases e; simp [kd]
      · split at e
        · split at e
          · rename_i k2 y r2 e1
            split at e
            · cases e
              have := pk_kd b _ _ _ e1
              rw [kd]; omega
            · cases e
          · cases e
        · split at e
          · split at e
            · rename_i ks y r1 e1
              split at e
              · split at e
                · rename_i k2 z r2 e2
                  split at e
                  · cases e
                    have := pk_kd b _ _ _ e2
                    have := many_kd (pk_kd b) _ _ _ _ e1
                    rw [kd]; omega
                  · cases e
                · cases e
              · cases e
            · cases e
          · split at e
            · cases e; simp [kd]
            · cases e
theorem dat_bools (st : Store) (k : Nat) : ∀ ns : List Bool, allO ((ns.map Val.bl).map (dat st (k + 1))) = some (ns.map PySem.PyData.bool)
  | [] => rfl
  | n :: r => by
    have ih := dat_bools st k r
    show allO (some (PySem.PyData.bool n) :: (r.map Val.bl).map (dat st (k + 1))) = _
    rw [allO, ih]; rfl
theorem eqv_bools : ∀ ns : List Bool, PySem.PyData.eqvAll (ns.map PySem.PyData.bool) (ns.map PySem.PyData.bool) = true
  | [] => by simp [PySem.PyData.eqvAll]
  | n :: r => by rw [List.map_cons, PySem.PyData.eqvAll, eqv_bools r]; simp [PySem.PyData.eqv]
theorem lay_bools : ∀ ns : List Bool, PySem.PyData.canLayAll0 (ns.map PySem.PyData.bool) = true
  | [] => by simp [PySem.PyData.canLayAll0]
  | n :: r => by rw [List.map_cons, PySem.PyData.canLayAll0, lay_bools r]; simp [PySem.PyData.canLay0]
theorem deep_bools : ∀ ns : List Bool, PySem.PyData.depthAll (ns.map PySem.PyData.bool) = 0
  | [] => by simp [PySem.PyData.depthAll]
  | n :: r => by rw [List.map_cons, PySem.PyData.depthAll, deep_bools r]; simp [PySem.PyData.depth]
theorem eq_bools {st : Store} {a b : Nat} {ns : List Bool} (ha : st.m a = some (.lst (ns.map .bl))) (hb : st.m b = some (.lst (ns.map .bl))) : eqV st (.ref a) (.ref b) = some true := by
  have h1 : ∀ c, st.m c = some (.lst (ns.map .bl)) → dat st deep (.ref c) = some (.list (ns.map PySem.PyData.bool)) := fun c hc => by
    show (match st.m c with | some (.lst xs) => (allO (xs.map (dat st 69))).map PySem.PyData.list | _ => none) = _
    rw [hc]
    show (allO ((ns.map Val.bl).map (dat st 69))).map PySem.PyData.list = _
    rw [dat_bools st 68 ns]; rfl
  unfold eqV
  have e0 : eq0 (.ref a) (.ref b) = none := rfl
  rw [e0]
  simp only [h1 a ha, h1 b hb]
  have s1 : PySem.SeqAt.shaped (.list (ns.map PySem.PyData.bool)) = true := by
    unfold PySem.SeqAt.shaped
    rw [Bool.and_eq_true]
    refine ⟨?_, decide_eq_true ?_⟩
    · simp only [PySem.PyData.canLay0, lay_bools]
    · simp only [PySem.PyData.depth, deep_bools]; omega
  rw [s1]
  simp only [Bool.and_self, if_true, PySem.PyData.eqv, eqv_bools]
theorem c_eqbx {B H R R' : HL} {Q : Val → HL → Prop} {kt : List (List Val)} {a b : Nat} {xs ys : List Val} (ns : List Bool) (u1 : Sub H [(a, .lst xs)] R) (u2 : Sub H [(b, .lst ys)] R') (e1 : xs = ns.map .bl) (e2 : ys = ns.map .bl) (q : Q (.bl true) H) : WP B (cop kt .eq (.ref a) (.ref b)) H Q := by
  subst e1 e2
  exact c_eqd (fun st F s => eq_bools (sub_at u1 s) (sub_at u2 s)) q
theorem sum9 : ∀ ws : List PySem.Str, (∀ x ∈ ws, x.length ≤ 9) → (ws.map (·.length)).sum ≤ 9 * ws.length
  | [], _ => Nat.le_refl 0
  | w :: r, h => by
    have := sum9 r fun x hx => h x (List.mem_cons_of_mem _ hx)
    have := h w (List.mem_cons_self ..)
    rw [List.map_cons, List.sum_cons, List.length_cons]; omega
section
variable {B H R R' : HL} {d : Nat} {Q : Val → HL → Prop}
theorem sl_asked {wl : Nat} {ws : List PySem.Str} (hl : ws.length ≤ 3000) (hw : ∀ x ∈ ws, x.length ≤ 9 ∧ sOk x = true) (hp : Sub H [(wl, wsO ws)] R) (q : Q (.bl true) H) : WP B (callN G fuel (d + 20) f_l_asked [.ref wl]) H Q := by
  refine wp_perm (show H.Perm ((wl, wsO ws) :: R) from hp) ?_
  walk_at "in"
  walk_at "w"
  rename_i p1
  refine s_tryK rfl ?_
  walk_at "w"
  refine sp_read_kind (d := d + 1) (by walk_at "sub") (by omega) (fun x hx => by have := (hw x hx).1; omega) (fun k hk => ?_) fun hno => ?_
  · have ek := pk_eq _ _ _ _ hk
    rw [List.append_nil] at ek
    have hkd := pk_kd _ _ _ _ hk
    have ha := (after_iff ws).mpr ⟨k, hk⟩
    have hne : ws ≠ [] := by rintro rfl; simp [pk] at hk
    walk_at "w"
    refine c_nex ws ws (by walk_at "sub") (by walk_at "sub") (by rfl) (by rfl) (fun x hx => (hw x hx).2) (fun x hx => (hw x hx).2) ?_
    walk_at "w"
    refine br_ndec (fun h => absurd rfl h) fun _ => ?_
    walk_at "w"
    refine sl_after (d := d + 16) hl hw (by walk_at "sub") ?_
    walk_at "w"
    rw [List.length_map]
    refine br_ndec (fun h => absurd ha h) fun _ => ?_
    walk_at "w"
    refine c_eqx ws [] (by walk_at "sub") (by walk_at "sub") (by rfl) (by rfl) (fun x hx => (hw x hx).2) (by simp) ?_
    walk_at "w"
    refine br_dec (fun h => absurd h hne) fun _ => ?_
    walk_at "w"
    refine sl_shown (d := d + 3) (k := k) (by omega) (by rw [← ek]; exact hl) (by rw [← ek]; exact fun x hx => (hw x hx).1) ?_
    walk_at "w"
    refine m_join (ws := ws) (by walk_at "sub") (by have := sum9 ws fun x hx => (hw x hx).1; show _ + _ * 1 ≤ _; omega) ?_
    rw [← ek]
    walk_at "w"
    rw [decide_eq_true rfl]
    rename_i pn
    exact conv (K := H) (X := [_, _]) (show List.Perm _ _ from (List.perm_append_comm (l₁ := [_, _])).trans (List.Perm.append_right _ (show H.Perm ((wl, wsO ws) :: R) from hp).symm)) q
  · refine ⟨rfl, rfl, fun pe => ?_⟩
    have ha : ¬ afterI ws = (ws.length : Int) := fun h => by
      obtain ⟨k, hk⟩ := (after_iff ws).mp h
      exact hno k hk
    walk_at "w"
    refine c_nex ws ws (by walk_at "sub") (by walk_at "sub") (by rfl) (by rfl) (fun x hx => (hw x hx).2) (fun x hx => (hw x hx).2) ?_
    walk_at "w"
    refine br_ndec (fun h => absurd rfl h) fun _ => ?_
    walk_at "w"
    refine sl_after (d := d + 16) hl hw (by walk_at "sub") ?_
    walk_at "w"
    rw [List.length_map]
    refine br_ndec (fun _ => ?_) fun h => absurd h ha
    walk_at "w"
    refine sl_marks (d := d + 18) (by walk_at "sub") fun pm => ?_
    walk_at "w"
    refine p_mull' (by walk_at "sub") (by decide) fun p2 => ?_
    walk_at "w"
    refine c_eqbx [true, false, false, false, false, false, false, true, true] (by walk_at "sub") (by walk_at "sub") (by rfl) (by rfl) ?_
    walk_at "w"
    refine ⟨pe, c_NoLine, [("line", .int 0)], _, .int 0, rfl, (by walk_at "sub"), rfl, rfl, rfl, ?_⟩
    walk_at "w"
    exact conv (K := H) (X := [_, _, _, _, _, _, _, _, _]) (show List.Perm _ _ from (List.perm_append_comm (l₁ := [_, _, _, _, _, _, _, _, _])).trans (List.Perm.append_right _ (show H.Perm ((wl, wsO ws) :: R) from hp).symm)) q
end
theorem kw_ok : ∀ k : Kd, kn k = true → ∀ x ∈ kw k, x.length ≤ 9 ∧ sOk x = true
  | .num, _, x, h => by rw [kw] at h; rw [List.mem_singleton.mp h]; decide +kernel
  | .tru, _, x, h => by rw [kw] at h; rw [List.mem_singleton.mp h]; decide +kernel
  | .rc z, hk, x, h => by
    rw [kn, Bool.and_eq_true] at hk
    rw [kw] at h; rw [List.mem_singleton.mp h]
    exact ⟨Nat.le_trans (name_len hk.1) (by decide), hk.2⟩
  | .row k, hk, x, h => by
    rw [kn] at hk
    rw [kw] at h
    rcases List.mem_cons.mp h with rfl | h
    · decide +kernel
    · rcases List.mem_append.mp h with h | h
      · exact kw_ok k hk x h
      · rw [List.mem_singleton.mp h]; decide +kernel
  | .fn ps k, hk, x, h => by
    rw [kn, Bool.and_eq_true] at hk
    rw [kw] at h
    rcases List.mem_cons.mp h with rfl | h
    · decide +kernel
    · rcases List.mem_append.mp h with h | h
      · exact kws_ok ps hk.1 x h
      · rcases List.mem_cons.mp h with rfl | h
        · decide +kernel
        · rcases List.mem_append.mp h with h | h
          · exact kw_ok k hk.2 x h
          · rw [List.mem_singleton.mp h]; decide +kernel
where kws_ok : ∀ ks : List Kd, kn.kns ks = true → ∀ x ∈ kw.kws ks, x.length ≤ 9 ∧ sOk x = true
  | [], _, x, h => by rw [kw.kws] at h; cases h
  | k :: r, hk, x, h => by
    rw [kn.kns, Bool.and_eq_true] at hk
    rw [kw.kws] at h
    rcases List.mem_append.mp h with h | h
    · exact kw_ok k hk.1 x h
    · exact kws_ok r hk.2 x h
theorem flat_kd : ∀ k : Kd, (kw k).length ≤ 1000 → flat (2 * kd k) k.v
  | .num, _ => by rw [Kd.v, kd]; exact ⟨by decide, fun x hx => by rw [List.mem_singleton.mp hx]; unfold flat; trivial⟩
  | .tru, _ => by rw [Kd.v, kd]; exact ⟨by decide, fun x hx => by rw [List.mem_singleton.mp hx]; unfold flat; trivial⟩
  | .rc z, _ => by
    rw [Kd.v, kd]
    refine ⟨(show (2 : Nat) ≤ 1000 by decide), fun x hx => ?_⟩
    rcases List.mem_cons.mp hx with rfl | hx
    · unfold flat; trivial
    · rw [List.mem_singleton.mp hx]; unfold flat; trivial
  | .row k, hl => by
    have h2 := flat_kd k (by rw [kw] at hl; simp at hl; omega)
    rw [Kd.v, kd, show 2 * (kd k + 1) = (2 * kd k + 1) + 1 by omega]
    refine ⟨(show (2 : Nat) ≤ 1000 by decide), fun x hx => ?_⟩
    rcases List.mem_cons.mp hx with rfl | hx
    · unfold flat; trivial
    · rw [List.mem_singleton.mp hx]; exact flat_up _ _ _ (by omega) h2
  | .fn ps k, hl => by
    rw [kw] at hl
    simp only [List.length_cons, List.length_append] at hl
    have h2 := flat_kd k (by omega)
    have h3 := flats_kd ps (by omega)
    have h4 := kws_len ps
    rw [Kd.v, kd, kdvs, show 2 * (max (kd.kds ps) (kd k) + 1) = (2 * max (kd.kds ps) (kd k) + 1) + 1 by omega]
    refine ⟨(show (3 : Nat) ≤ 1000 by decide), fun x hx => ?_⟩
    rcases List.mem_cons.mp hx with rfl | hx
    · unfold flat; trivial
    · rcases List.mem_cons.mp hx with rfl | hx
      · refine ⟨by rw [List.length_map]; omega, fun x hx => ?_⟩
        obtain ⟨k2, hk2, rfl⟩ := List.mem_map.mp hx
        exact flat_up _ _ _ (by omega) (h3 k2 hk2)
      · rw [List.mem_singleton.mp hx]; exact flat_up _ _ _ (by omega) h2
where flats_kd : ∀ ks : List Kd, (kw.kws ks).length ≤ 1000 → ∀ k ∈ ks, flat (2 * kd.kds ks) k.v
  | [], _, k, h => by cases h
  | k0 :: r, hl, k, h => by
    rw [kw.kws, List.length_append] at hl
    rw [kd.kds]
    rcases List.mem_cons.mp h with e | h
    · rw [e]; exact flat_up _ _ _ (by omega) (flat_kd k0 (by omega))
    · exact flat_up _ _ _ (by omega) (flats_kd r (by omega) k h)
theorem wp_we {B H : HL} {m : Store → Res Val} {Q : Val → HL → Prop} (h : WE B m H Q (fun _ _ _ => False)) : WP B m H Q := fun st F s => by
  rcases h st F s with ⟨v, K1, st', e, q, s'⟩ | ⟨k', fs, K1, st', e, q, s'⟩
  · exact ⟨v, K1, st', e, q, s'⟩
  · exact q.elim
def lawF : Ss := match d_law.body with
  | .cons _ (.cons (.for _ _ b) _) => b
  | _ => .nil
def lawT : Ss := match lawF with
  | .cons _ (.cons _ t) => t
  | _ => .nil
def lawR : Ss := match lawT with
  | .cons _ t => t
  | _ => .nil
section
variable {B : HL} {d : Nat}
theorem law_rest {r c wl : Nat} {P : Row3} {k : Kd} {G_ : HL} {x0 x2 : Option Val} {N KK C : Env → HL → Prop} {T : Val → HL → Prop} (hP : P.ok) (hk : kn k = true) (hl : (kw k).length ≤ 500)
    (q : ∀ P K X, Row3.ok P → Sub K [(r, rowO c P), (c, celO P)] X → N [x0, some (.ref r), x2, some (.ref wl), some k.v] K) :
    WSs B (cxN G fuel (d + 40)) lawR [x0, some (.ref r), x2, some (.ref wl), some k.v] ((wl, wsO (kw k)) :: (r, rowO c P) :: (c, celO P) :: G_) N T KK C := by
  have hw := kw_ok k hk
  have h0 : kw k ≠ [] := by have := kw_pos k; intro h; rw [h] at this; cases this
  unfold lawR lawT lawF d_law
  dsimp only
  walk_at "w"
  refine sl_asked (d := d + 20) (by omega) hw (by walk_at "sub") ?_
  walk_at "w"
  refine sl_spoilt (d := d + 38) hP h0 (by omega) hw (by walk_at "subs") fun w2 ws2 P2 hP2 hl2 hw2 => ?_
  walk_at "w"
  refine sl_asked (d := d + 20) (by omega) hw2 (by walk_at "sub") ?_
  walk_at "w"
  refine sl_spoilt (d := d + 38) hP2 h0 (by omega) hw (by walk_at "subs") fun w3 ws3 P3 hP3 hl3 hw3 => ?_
  walk_at "w"
  refine sl_asked (d := d + 20) (by omega) hw3 (by walk_at "sub") ?_
  walk_at "w"
  refine sl_asked (d := d + 20) (by omega) hw (by walk_at "sub") ?_
  walk_at "w"
  exact q _ _ _ hP3 (by walk_at "subs")
theorem law_tail {r c wl : Nat} {P : Row3} {k : Kd} {G_ : HL} {x0 x2 : Option Val} {N KK C : Env → HL → Prop} {T : Val → HL → Prop} (hP : P.ok) (hk : kn k = true) (hl : (kw k).length ≤ 500)
    (q : ∀ P K X, Row3.ok P → Sub K [(r, rowO c P), (c, celO P)] X → N [x0, some (.ref r), x2, some (.ref wl), some k.v] K) :
    WSs B (cxN G fuel (d + 40)) lawT [x0, some (.ref r), x2, some (.ref wl), some k.v] ((wl, wsO (kw k)) :: (r, rowO c P) :: (c, celO P) :: G_) N T KK C := by
  have hw := kw_ok k hk
  show WSs B _ (.cons _ lawR) _ _ _ _ _ _
  walk_at "w"
  refine sl_after (d := d + 37) (by omega) hw (by walk_at "sub") ?_
  walk_at "w"
  rw [List.length_map]
  refine br_dec (fun h => ?_) fun h => ?_
  · obtain ⟨k2, hk2⟩ := (after_iff _).mp h
    have := pk_same hk hk2
    subst this
    have hkd := pk_kd _ _ _ _ hk2
    walk_at "w"
    refine wp_we (sp_read_kind (d := d + 22) (by walk_at "sub") (by omega) (fun x hx => by have := (hw x hx).1; omega) (fun k3 hk3 => ?_) fun hno => (hno _ hk2).elim)
    have := pk_same hk hk3
    subst this
    walk_at "w"
    refine sl_alike 24 (d := d + 15) k3.v (flat_up _ _ _ (by omega) (flat_kd k3 (by omega))) ?_
    walk_at "w"
    rename_i pc
    refine wp_perm (K := (wl, wsO (kw k3)) :: (r, rowO c P) :: (c, celO P) :: ((pc, .lst (List.map Val.str (kw k3))) :: G_)) (List.perm_middle (l₁ := [_, _, _])).symm ?_
    exact law_rest hP hk hl q
  · walk_at "w"
    exact law_rest hP hk hl q
theorem law_loop {r c : Nat} {x0 : Option Val} {N : Env → HL → Prop} {T : Val → HL → Prop} : ∀ (n j : Nat) (P : Row3) (G_ : HL) (x2 x3 x4 : Option Val), P.ok →
    (∀ P G_ x2 x3 x4, Row3.ok P → N [x0, some (.ref r), x2, x3, x4] ((r, rowO c P) :: (c, celO P) :: G_)) →
    WF B (cxN G fuel (d + 40)) (.one 2) lawF [] (rangeL j n) [x0, some (.ref r), x2, x3, x4] ((r, rowO c P) :: (c, celO P) :: G_) N T
  | 0, j, P, G_, x2, x3, x4, hP, q => by
    rw [rangeL]
    exact for_nil sees_nil (q P G_ x2 x3 x4 hP)
  | n + 1, j, P, G_, x2, x3, x4, hP, q => by
    rw [rangeL]
    refine for_cons sees_nil rfl ?_
    show WSs B _ (.cons _ (.cons _ lawT)) _ _ _ _ _ _
    walk_at "w"
    rename_i lf
    refine l_kind 12 (by decide) (by decide) (d := d + 25) (x := 14) hP (by decide) (by walk_at "subs") fun k y wl P1 hP1 hk => ?_
    obtain ⟨g1, g2, g3, g4⟩ := hk
    have hy : 1 ≤ ptl y := by unfold ptl; omega
    have h14 : ptl 14 = 14 := rfl
    walk_at "w"
    refine br_dec (fun h3 => ?_) fun h3 => ?_
    · walk_at "w"
      refine sl_deep (d := d + 34) hP1 (by walk_at "subs") fun k2 w2 P2 hP2 hk2 hl2 => ?_
      walk_at "w"
      refine law_tail hP2 hk2 (by omega) fun P3 K X hP3 hs => ?_
      exact wf_perm (show List.Perm K ((r, rowO c P3) :: (c, celO P3) :: X) from hs) (law_loop n (j + 1) P3 X _ _ _ hP3 q)
    · walk_at "w"
      refine law_tail hP1 g2 (by omega) fun P3 K X hP3 hs => ?_
      exact wf_perm (show List.Perm K ((r, rowO c P3) :: (c, celO P3) :: X) from hs) (law_loop n (j + 1) P3 X _ _ _ hP3 q)
end
abbrev depth : Nat := 41
theorem runs : ∀ ns : List Int, ns.length ≤ 63 → ∃ st', CL.callN G fuel depth f_law [.ref 0] (CL.st0 ns) = .ok (.bl true) st' := by
  intro ns hl
  have main : WP [(0, .lst (ns.map .int))] (callN G fuel (0 + 40 + 1) f_law [.ref 0]) [] (fun v _ => v = .bl true) := by
    walk_at "in"
    show WSs _ _ (.cons _ (.cons (.for _ _ lawF) _)) _ _ _ _ _ _
    walk_at "w"
    refine sl_stream (d := 39) hl (by simp) fun r c P X hP => ?_
    walk_at "w"
    refine law_loop (d := 0) _ 0 P _ _ _ _ hP fun P G2 x2 x3 x4 hP => ?_
    walk_at "w"
    rename_i pe
    refine sl_asked (d := 20) (ws := []) (by decide) (by simp) (show CL.Sub _ [(pe, .lst [])] _ by walk_at "sub") ?_
    exact conv0 rfl
  obtain ⟨v, K, st', e, rfl, _⟩ := main (st0 ns) [] ⟨fun a o m => by simp at m, by simp, fun a o m => by simp at m, fun a o m => by simp at m, fun a o m => (by
    cases List.mem_singleton.mp m
    exact ⟨rfl, (by show 0 < 1; decide), rfl⟩)⟩
  exact ⟨st', e⟩
end LK03

namespace LK03
open PySem
def psns : List (List Str) := (([["k"], ["word", "signs"], ["word"], ["self", "words", "line"], ["self", "word"], ["self"], ["self", "word"], ["self"], ["self"], ["words", "deep"], ["words"], ["kind"], ["kind"], ["_law_script"], ["_law_row", "_law_many_here"], [], ["_law_row"], ["_law_row", "_law_most"], ["_law_row", "_law_deep_here", "_law_left"], ["_law_found", "_law_due"]] : List (List Str)) ++ ([["_law_caught"], ["_law_word"], ["_law_words", "_law_at"], ["_law_row"], ["_law_row", "_law_words"], ["_law_words"], ["_law_script"]] : List (List Str)))
set_option maxHeartbeats 0 in
theorem all_mk {K : PySem.W.Frag} {h : Heap} {mg : Str → Option Value} {fa : Addr} (X : K.In h) (Gg : h.Ns mainGlobals mg) (hfa : mg "law" = some (.ref fa))
    {C0 : Addr} {C1 : Addr} {C2 : Addr} {C3 : Addr} {C4 : Addr} {C5 : Addr} {C6 : Addr} {C7 : Addr} {C8 : Addr} {a0 : Addr} {od0 an0 : Option Addr} {sl0 : Array (Option Value)} {oc0 kV0 dc0 pm0 cd0 ct0 : Value} {a1 : Addr} {od1 an1 : Option Addr} {sl1 : Array (Option Value)} {oc1 kV1 dc1 pm1 cd1 ct1 : Value} {a2 : Addr} {od2 an2 : Option Addr} {sl2 : Array (Option Value)} {oc2 kV2 dc2 pm2 cd2 ct2 : Value} {a3 : Addr} {od3 an3 : Option Addr} {sl3 : Array (Option Value)} {oc3 kV3 dc3 pm3 cd3 ct3 : Value} {a4 : Addr} {od4 an4 : Option Addr} {sl4 : Array (Option Value)} {oc4 kV4 dc4 pm4 cd4 ct4 : Value} {a5 : Addr} {od5 an5 : Option Addr} {sl5 : Array (Option Value)} {oc5 kV5 dc5 pm5 cd5 ct5 : Value} {a6 : Addr} {od6 an6 : Option Addr} {sl6 : Array (Option Value)} {oc6 kV6 dc6 pm6 cd6 ct6 : Value} {a7 : Addr} {od7 an7 : Option Addr} {sl7 : Array (Option Value)} {oc7 kV7 dc7 pm7 cd7 ct7 : Value} {a8 : Addr} {od8 an8 : Option Addr} {sl8 : Array (Option Value)} {oc8 kV8 dc8 pm8 cd8 ct8 : Value} {a9 : Addr} {od9 an9 : Option Addr} {sl9 : Array (Option Value)} {oc9 kV9 dc9 pm9 cd9 ct9 : Value} {a10 : Addr} {od10 an10 : Option Addr} {sl10 : Array (Option Value)} {oc10 kV10 dc10 pm10 cd10 ct10 : Value} {a11 : Addr} {od11 an11 : Option Addr} {sl11 : Array (Option Value)} {oc11 kV11 dc11 pm11 cd11 ct11 : Value} {a12 : Addr} {od12 an12 : Option Addr} {sl12 : Array (Option Value)} {oc12 kV12 dc12 pm12 cd12 ct12 : Value} {a13 : Addr} {od13 an13 : Option Addr} {sl13 : Array (Option Value)} {oc13 kV13 dc13 pm13 cd13 ct13 : Value} {a14 : Addr} {od14 an14 : Option Addr} {sl14 : Array (Option Value)} {oc14 kV14 dc14 pm14 cd14 ct14 : Value} {a15 : Addr} {od15 an15 : Option Addr} {sl15 : Array (Option Value)} {oc15 kV15 dc15 pm15 cd15 ct15 : Value} {a16 : Addr} {od16 an16 : Option Addr} {sl16 : Array (Option Value)} {oc16 kV16 dc16 pm16 cd16 ct16 : Value} {a17 : Addr} {od17 an17 : Option Addr} {sl17 : Array (Option Value)} {oc17 kV17 dc17 pm17 cd17 ct17 : Value} {a18 : Addr} {od18 an18 : Option Addr} {sl18 : Array (Option Value)} {oc18 kV18 dc18 pm18 cd18 ct18 : Value} {a19 : Addr} {od19 an19 : Option Addr} {sl19 : Array (Option Value)} {oc19 kV19 dc19 pm19 cd19 ct19 : Value} {a20 : Addr} {od20 an20 : Option Addr} {sl20 : Array (Option Value)} {oc20 kV20 dc20 pm20 cd20 ct20 : Value} {a21 : Addr} {od21 an21 : Option Addr} {sl21 : Array (Option Value)} {oc21 kV21 dc21 pm21 cd21 ct21 : Value} {a22 : Addr} {od22 an22 : Option Addr} {sl22 : Array (Option Value)} {oc22 kV22 dc22 pm22 cd22 ct22 : Value} {a23 : Addr} {od23 an23 : Option Addr} {sl23 : Array (Option Value)} {oc23 kV23 dc23 pm23 cd23 ct23 : Value} {a24 : Addr} {od24 an24 : Option Addr} {sl24 : Array (Option Value)} {oc24 kV24 dc24 pm24 cd24 ct24 : Value} {a25 : Addr} {od25 an25 : Option Addr} {sl25 : Array (Option Value)} {oc25 kV25 dc25 pm25 cd25 ct25 : Value} {a26 : Addr} {od26 an26 : Option Addr} {sl26 : Array (Option Value)} {oc26 kV26 dc26 pm26 cd26 ct26 : Value} {t0 : Tok} {gA1 : Addr} {gn1 : Nat} {gd1 : Option Addr} {gs1 : Array (Option Value)} {gt1_0 gt1_1 gt1_2 gt1_3 gt1_4 gt1_5 gt1_6 gt1_7 gt1_8 gt1_9 gt1_10 gt1_11 gt1_12 gt1_13 gt1_14 gt1_15 gt1_16 gt1_17 gt1_18 gt1_19 gt1_20 gt1_21 gt1_22 gt1_23 gt1_24 gt1_25 gt1_26 gt1_27 gt1_28 : Tok} {t2 : Tok} {aI TI : Addr} {odI anI odT : Option Addr} {slI slT : Array (Option Value)} {ocI kVI dcI pmI cdI ctI ocT : Value} {tT : Tok} {nT : Nat} {xm1 xq1 : Str} {xN1 : Addr} {xb1 xbm1 xsu1 : List Value} {xsn1 : List Str} {xab1 : Bool} {xco1 : Option Bool} {xdd1 : Option Addr} {xa1 xc1 xe1 xg1 xh1 : Option Value} {xm2 xq2 : Str} {xN2 : Addr} {xb2 xbm2 xsu2 : List Value} {xsn2 : List Str} {xab2 : Bool} {xco2 : Option Bool} {xdd2 : Option Addr} {xa2 xc2 xe2 xg2 xh2 : Option Value} {xm3 xq3 : Str} {xN3 : Addr} {xb3 xbm3 xsu3 : List Value} {xsn3 : List Str} {xab3 : Bool} {xco3 : Option Bool} {xdd3 : Option Addr} {xa3 xc3 xe3 xg3 xh3 : Option Value} {xm4 xq4 : Str} {xN4 : Addr} {xb4 xbm4 xsu4 : List Value} {xsn4 : List Str} {xab4 : Bool} {xco4 : Option Bool} {xdd4 : Option Addr} {xa4 xc4 xe4 xg4 xh4 : Option Value} {xm5 xq5 : Str} {xN5 : Addr} {xb5 xbm5 xsu5 : List Value} {xsn5 : List Str} {xab5 : Bool} {xco5 : Option Bool} {xdd5 : Option Addr} {xa5 xc5 xe5 xg5 xh5 : Option Value} {xm6 xq6 : Str} {xN6 : Addr} {xb6 xbm6 xsu6 : List Value} {xsn6 : List Str} {xab6 : Bool} {xco6 : Option Bool} {xdd6 : Option Addr} {xa6 xc6 xe6 xg6 xh6 : Option Value} {xm7 xq7 : Str} {xN7 : Addr} {xb7 xbm7 xsu7 : List Value} {xsn7 : List Str} {xab7 : Bool} {xco7 : Option Bool} {xdd7 : Option Addr} {xa7 xc7 xe7 xg7 xh7 : Option Value} {xm8 xq8 : Str} {xN8 : Addr} {xb8 xbm8 xsu8 : List Value} {xsn8 : List Str} {xab8 : Bool} {xco8 : Option Bool} {xdd8 : Option Addr} {xa8 xc8 xe8 xg8 xh8 : Option Value}
    (n_0 : PySem.W.nsIn K mainGlobals "Words" = some (some (.ref C0)))
    (n_1 : PySem.W.nsIn K mainGlobals "ChainError" = some (some (.ref C1)))
    (n_2 : PySem.W.nsIn K mainGlobals "NoLine" = some (some (.ref C2)))
    (n_3 : PySem.W.nsIn K mainGlobals "NoNest" = some (some (.ref C3)))
    (n_4 : PySem.W.nsIn K mainGlobals "NoName" = some (some (.ref C4)))
    (n_5 : PySem.W.nsIn K mainGlobals "NoKind" = some (some (.ref C5)))
    (n_6 : PySem.W.nsIn K mainGlobals "NoIns" = some (some (.ref C6)))
    (n_7 : PySem.W.nsIn K mainGlobals "NoPass" = some (some (.ref C7)))
    (n_8 : PySem.W.nsIn K mainGlobals "NoRow" = some (some (.ref C8)))
    (m0 : PySem.W.nsIn K mainGlobals "_wall" = some (some (.ref a0)))
    (l0 : K.lookup a0 = some ⟨oc0, od0, .func (PySem.W.fnOf "_wall" "_wall" (L2.defArgs (top 0)) (L2.defBody (top 0)) (L2.defScope (top 0)) .none kV0 dc0 pm0 an0 cd0 ct0), sl0⟩)
    (c0 : PySem.W.codeIn K cd0 "_wall" = true)
    (k0 : PySem.W.keepIn K (.ref a0) = true)
    (m1 : PySem.W.nsIn K mainGlobals "made_of" = some (some (.ref a1)))
    (l1 : K.lookup a1 = some ⟨oc1, od1, .func (PySem.W.fnOf "made_of" "made_of" (L2.defArgs (top 14)) (L2.defBody (top 14)) (L2.defScope (top 14)) .none kV1 dc1 pm1 an1 cd1 ct1), sl1⟩)
    (c1 : PySem.W.codeIn K cd1 "made_of" = true)
    (k1 : PySem.W.keepIn K (.ref a1) = true)
    (m2 : PySem.W.nsIn K mainGlobals "is_name" = some (some (.ref a2)))
    (l2 : K.lookup a2 = some ⟨oc2, od2, .func (PySem.W.fnOf "is_name" "is_name" (L2.defArgs (top 15)) (L2.defBody (top 15)) (L2.defScope (top 15)) .none kV2 dc2 pm2 an2 cd2 ct2), sl2⟩)
    (c2 : PySem.W.codeIn K cd2 "is_name" = true)
    (k2 : PySem.W.keepIn K (.ref a2) = true)
    (m3 : PySem.W.findIn K (.ref C0) "__init__" = some (some (.ref a3)))
    (i3 : PySem.W.isFn K (.ref a3) = true)
    (l3 : K.lookup a3 = some ⟨oc3, od3, .func (PySem.W.fnOf "__init__" "Words.__init__" (L2.defArgs (L2.inClass (top 16) 0)) (L2.defBody (L2.inClass (top 16) 0)) (L2.defScope (L2.inClass (top 16) 0)) .none kV3 dc3 pm3 an3 cd3 ct3), sl3⟩)
    (c3 : PySem.W.codeIn K cd3 "Words.__init__" = true)
    (k3 : PySem.W.keepIn K (.ref a3) = true)
    (m4 : PySem.W.findIn K (.ref C0) "sees" = some (some (.ref a4)))
    (i4 : PySem.W.isFn K (.ref a4) = true)
    (l4 : K.lookup a4 = some ⟨oc4, od4, .func (PySem.W.fnOf "sees" "Words.sees" (L2.defArgs (L2.inClass (top 16) 1)) (L2.defBody (L2.inClass (top 16) 1)) (L2.defScope (L2.inClass (top 16) 1)) .none kV4 dc4 pm4 an4 cd4 ct4), sl4⟩)
    (c4 : PySem.W.codeIn K cd4 "Words.sees" = true)
    (k4 : PySem.W.keepIn K (.ref a4) = true)
    (m5 : PySem.W.findIn K (.ref C0) "take" = some (some (.ref a5)))
    (i5 : PySem.W.isFn K (.ref a5) = true)
    (l5 : K.lookup a5 = some ⟨oc5, od5, .func (PySem.W.fnOf "take" "Words.take" (L2.defArgs (L2.inClass (top 16) 2)) (L2.defBody (L2.inClass (top 16) 2)) (L2.defScope (L2.inClass (top 16) 2)) .none kV5 dc5 pm5 an5 cd5 ct5), sl5⟩)
    (c5 : PySem.W.codeIn K cd5 "Words.take" = true)
    (k5 : PySem.W.keepIn K (.ref a5) = true)
    (m6 : PySem.W.findIn K (.ref C0) "want" = some (some (.ref a6)))
    (i6 : PySem.W.isFn K (.ref a6) = true)
    (l6 : K.lookup a6 = some ⟨oc6, od6, .func (PySem.W.fnOf "want" "Words.want" (L2.defArgs (L2.inClass (top 16) 3)) (L2.defBody (L2.inClass (top 16) 3)) (L2.defScope (L2.inClass (top 16) 3)) .none kV6 dc6 pm6 an6 cd6 ct6), sl6⟩)
    (c6 : PySem.W.codeIn K cd6 "Words.want" = true)
    (k6 : PySem.W.keepIn K (.ref a6) = true)
    (m7 : PySem.W.findIn K (.ref C0) "next_name" = some (some (.ref a7)))
    (i7 : PySem.W.isFn K (.ref a7) = true)
    (l7 : K.lookup a7 = some ⟨oc7, od7, .func (PySem.W.fnOf "next_name" "Words.next_name" (L2.defArgs (L2.inClass (top 16) 4)) (L2.defBody (L2.inClass (top 16) 4)) (L2.defScope (L2.inClass (top 16) 4)) .none kV7 dc7 pm7 an7 cd7 ct7), sl7⟩)
    (c7 : PySem.W.codeIn K cd7 "Words.next_name" = true)
    (k7 : PySem.W.keepIn K (.ref a7) = true)
    (m8 : PySem.W.findIn K (.ref C0) "finish" = some (some (.ref a8)))
    (i8 : PySem.W.isFn K (.ref a8) = true)
    (l8 : K.lookup a8 = some ⟨oc8, od8, .func (PySem.W.fnOf "finish" "Words.finish" (L2.defArgs (L2.inClass (top 16) 5)) (L2.defBody (L2.inClass (top 16) 5)) (L2.defScope (L2.inClass (top 16) 5)) .none kV8 dc8 pm8 an8 cd8 ct8), sl8⟩)
    (c8 : PySem.W.codeIn K cd8 "Words.finish" = true)
    (k8 : PySem.W.keepIn K (.ref a8) = true)
    (m9 : PySem.W.nsIn K mainGlobals "kind_in" = some (some (.ref a9)))
    (l9 : K.lookup a9 = some ⟨oc9, od9, .func (PySem.W.fnOf "kind_in" "kind_in" (L2.defArgs (top 17)) (L2.defBody (top 17)) (L2.defScope (top 17)) .none kV9 dc9 pm9 an9 cd9 ct9), sl9⟩)
    (c9 : PySem.W.codeIn K cd9 "kind_in" = true)
    (k9 : PySem.W.keepIn K (.ref a9) = true)
    (m10 : PySem.W.nsIn K mainGlobals "read_kind" = some (some (.ref a10)))
    (l10 : K.lookup a10 = some ⟨oc10, od10, .func (PySem.W.fnOf "read_kind" "read_kind" (L2.defArgs (top 18)) (L2.defBody (top 18)) (L2.defScope (top 18)) .none kV10 dc10 pm10 an10 cd10 ct10), sl10⟩)
    (c10 : PySem.W.codeIn K cd10 "read_kind" = true)
    (k10 : PySem.W.keepIn K (.ref a10) = true)
    (m11 : PySem.W.nsIn K mainGlobals "kind_words" = some (some (.ref a11)))
    (l11 : K.lookup a11 = some ⟨oc11, od11, .func (PySem.W.fnOf "kind_words" "kind_words" (L2.defArgs (top 20)) (L2.defBody (top 20)) (L2.defScope (top 20)) .none kV11 dc11 pm11 an11 cd11 ct11), sl11⟩)
    (c11 : PySem.W.codeIn K cd11 "kind_words" = true)
    (k11 : PySem.W.keepIn K (.ref a11) = true)
    (m12 : PySem.W.nsIn K mainGlobals "shown_kind" = some (some (.ref a12)))
    (l12 : K.lookup a12 = some ⟨oc12, od12, .func (PySem.W.fnOf "shown_kind" "shown_kind" (L2.defArgs (top 21)) (L2.defBody (top 21)) (L2.defScope (top 21)) .none kV12 dc12 pm12 an12 cd12 ct12), sl12⟩)
    (c12 : PySem.W.codeIn K cd12 "shown_kind" = true)
    (k12 : PySem.W.keepIn K (.ref a12) = true)
    (m13 : PySem.W.nsIn K mainGlobals "_law_stream" = some (some (.ref a13)))
    (l13 : K.lookup a13 = some ⟨oc13, od13, .func (PySem.W.fnOf "_law_stream" "_law_stream" (L2.defArgs (top 23)) (L2.defBody (top 23)) (L2.defScope (top 23)) .none kV13 dc13 pm13 an13 cd13 ct13), sl13⟩)
    (c13 : PySem.W.codeIn K cd13 "_law_stream" = true)
    (k13 : PySem.W.keepIn K (.ref a13) = true)
    (m14 : PySem.W.nsIn K mainGlobals "_law_next" = some (some (.ref a14)))
    (l14 : K.lookup a14 = some ⟨oc14, od14, .func (PySem.W.fnOf "_law_next" "_law_next" (L2.defArgs (top 24)) (L2.defBody (top 24)) (L2.defScope (top 24)) .none kV14 dc14 pm14 an14 cd14 ct14), sl14⟩)
    (c14 : PySem.W.codeIn K cd14 "_law_next" = true)
    (k14 : PySem.W.keepIn K (.ref a14) = true)
    (m15 : PySem.W.nsIn K mainGlobals "_law_kept" = some (some (.ref a15)))
    (l15 : K.lookup a15 = some ⟨oc15, od15, .func (PySem.W.fnOf "_law_kept" "_law_kept" (L2.defArgs (top 25)) (L2.defBody (top 25)) (L2.defScope (top 25)) .none kV15 dc15 pm15 an15 cd15 ct15), sl15⟩)
    (c15 : PySem.W.codeIn K cd15 "_law_kept" = true)
    (k15 : PySem.W.keepIn K (.ref a15) = true)
    (m16 : PySem.W.nsIn K mainGlobals "_law_name" = some (some (.ref a16)))
    (l16 : K.lookup a16 = some ⟨oc16, od16, .func (PySem.W.fnOf "_law_name" "_law_name" (L2.defArgs (top 26)) (L2.defBody (top 26)) (L2.defScope (top 26)) .none kV16 dc16 pm16 an16 cd16 ct16), sl16⟩)
    (c16 : PySem.W.codeIn K cd16 "_law_name" = true)
    (k16 : PySem.W.keepIn K (.ref a16) = true)
    (m17 : PySem.W.nsIn K mainGlobals "_law_many" = some (some (.ref a17)))
    (l17 : K.lookup a17 = some ⟨oc17, od17, .func (PySem.W.fnOf "_law_many" "_law_many" (L2.defArgs (top 27)) (L2.defBody (top 27)) (L2.defScope (top 27)) .none kV17 dc17 pm17 an17 cd17 ct17), sl17⟩)
    (c17 : PySem.W.codeIn K cd17 "_law_many" = true)
    (k17 : PySem.W.keepIn K (.ref a17) = true)
    (m18 : PySem.W.nsIn K mainGlobals "_law_kind" = some (some (.ref a18)))
    (l18 : K.lookup a18 = some ⟨oc18, od18, .func (PySem.W.fnOf "_law_kind" "_law_kind" (L2.defArgs (top 28)) (L2.defBody (top 28)) (L2.defScope (top 28)) .none kV18 dc18 pm18 an18 cd18 ct18), sl18⟩)
    (c18 : PySem.W.codeIn K cd18 "_law_kind" = true)
    (k18 : PySem.W.keepIn K (.ref a18) = true)
    (m19 : PySem.W.nsIn K mainGlobals "_law_alike" = some (some (.ref a19)))
    (l19 : K.lookup a19 = some ⟨oc19, od19, .func (PySem.W.fnOf "_law_alike" "_law_alike" (L2.defArgs (top 29)) (L2.defBody (top 29)) (L2.defScope (top 29)) .none kV19 dc19 pm19 an19 cd19 ct19), sl19⟩)
    (c19 : PySem.W.codeIn K cd19 "_law_alike" = true)
    (k19 : PySem.W.keepIn K (.ref a19) = true)
    (m20 : PySem.W.nsIn K mainGlobals "_law_marks" = some (some (.ref a20)))
    (l20 : K.lookup a20 = some ⟨oc20, od20, .func (PySem.W.fnOf "_law_marks" "_law_marks" (L2.defArgs (top 30)) (L2.defBody (top 30)) (L2.defScope (top 30)) .none kV20 dc20 pm20 an20 cd20 ct20), sl20⟩)
    (c20 : PySem.W.codeIn K cd20 "_law_marks" = true)
    (k20 : PySem.W.keepIn K (.ref a20) = true)
    (m21 : PySem.W.nsIn K mainGlobals "_law_is_name" = some (some (.ref a21)))
    (l21 : K.lookup a21 = some ⟨oc21, od21, .func (PySem.W.fnOf "_law_is_name" "_law_is_name" (L2.defArgs (top 31)) (L2.defBody (top 31)) (L2.defScope (top 31)) .none kV21 dc21 pm21 an21 cd21 ct21), sl21⟩)
    (c21 : PySem.W.codeIn K cd21 "_law_is_name" = true)
    (k21 : PySem.W.keepIn K (.ref a21) = true)
    (m22 : PySem.W.nsIn K mainGlobals "_law_after_kind" = some (some (.ref a22)))
    (l22 : K.lookup a22 = some ⟨oc22, od22, .func (PySem.W.fnOf "_law_after_kind" "_law_after_kind" (L2.defArgs (top 32)) (L2.defBody (top 32)) (L2.defScope (top 32)) .none kV22 dc22 pm22 an22 cd22 ct22), sl22⟩)
    (c22 : PySem.W.codeIn K cd22 "_law_after_kind" = true)
    (k22 : PySem.W.keepIn K (.ref a22) = true)
    (m23 : PySem.W.nsIn K mainGlobals "_law_deep" = some (some (.ref a23)))
    (l23 : K.lookup a23 = some ⟨oc23, od23, .func (PySem.W.fnOf "_law_deep" "_law_deep" (L2.defArgs (top 33)) (L2.defBody (top 33)) (L2.defScope (top 33)) .none kV23 dc23 pm23 an23 cd23 ct23), sl23⟩)
    (c23 : PySem.W.codeIn K cd23 "_law_deep" = true)
    (k23 : PySem.W.keepIn K (.ref a23) = true)
    (m24 : PySem.W.nsIn K mainGlobals "_law_spoilt" = some (some (.ref a24)))
    (l24 : K.lookup a24 = some ⟨oc24, od24, .func (PySem.W.fnOf "_law_spoilt" "_law_spoilt" (L2.defArgs (top 34)) (L2.defBody (top 34)) (L2.defScope (top 34)) .none kV24 dc24 pm24 an24 cd24 ct24), sl24⟩)
    (c24 : PySem.W.codeIn K cd24 "_law_spoilt" = true)
    (k24 : PySem.W.keepIn K (.ref a24) = true)
    (m25 : PySem.W.nsIn K mainGlobals "_law_asked" = some (some (.ref a25)))
    (l25 : K.lookup a25 = some ⟨oc25, od25, .func (PySem.W.fnOf "_law_asked" "_law_asked" (L2.defArgs (top 35)) (L2.defBody (top 35)) (L2.defScope (top 35)) .none kV25 dc25 pm25 an25 cd25 ct25), sl25⟩)
    (c25 : PySem.W.codeIn K cd25 "_law_asked" = true)
    (k25 : PySem.W.keepIn K (.ref a25) = true)
    (m26 : PySem.W.nsIn K mainGlobals "law" = some (some (.ref a26)))
    (l26 : K.lookup a26 = some ⟨oc26, od26, .func (PySem.W.fnOf "law" "law" (L2.defArgs (top 36)) (L2.defBody (top 36)) (L2.defScope (top 36)) .none kV26 dc26 pm26 an26 cd26 ct26), sl26⟩)
    (c26 : PySem.W.codeIn K cd26 "law" = true)
    (k26 : PySem.W.keepIn K (.ref a26) = true)
    (z_ValueError : PySem.W.nsIn K mainGlobals "ValueError" = some none)
    (z_divmod : PySem.W.nsIn K mainGlobals "divmod" = some none)
    (z_len : PySem.W.nsIn K mainGlobals "len" = some none)
    (z_abs : PySem.W.nsIn K mainGlobals "abs" = some none)
    (z_list : PySem.W.nsIn K mainGlobals "list" = some none)
    (z_tuple : PySem.W.nsIn K mainGlobals "tuple" = some none)
    (z_int : PySem.W.nsIn K mainGlobals "int" = some none)
    (z_any : PySem.W.nsIn K mainGlobals "any" = some none)
    (z_all : PySem.W.nsIn K mainGlobals "all" = some none)
    (z_min : PySem.W.nsIn K mainGlobals "min" = some none)
    (z_max : PySem.W.nsIn K mainGlobals "max" = some none)
    (z_isinstance : PySem.W.nsIn K mainGlobals "isinstance" = some none)
    (z_bool : PySem.W.nsIn K mainGlobals "bool" = some none)
    (z_str : PySem.W.nsIn K mainGlobals "str" = some none)
    (z_dict : PySem.W.nsIn K mainGlobals "dict" = some none)
    (z_range : PySem.W.nsIn K mainGlobals "range" = some none)
    (z_enumerate : PySem.W.nsIn K mainGlobals "enumerate" = some none)
    (z_zip : PySem.W.nsIn K mainGlobals "zip" = some none)
    (z_sorted : PySem.W.nsIn K mainGlobals "sorted" = some none)
    (z_set : PySem.W.nsIn K mainGlobals "set" = some none)
    (g0 : PySem.W.nsIn K mainGlobals "LETTERS" = some (some (.str "abcdefghijklmnopqrstuvwxyz" t0)))
    (g1 : PySem.W.nsIn K mainGlobals "KEPT" = some (some (.ref gA1)))
    (gl1 : K.lookup gA1 = some ⟨.type "tuple", gd1, .seq #[.str "and" gt1_0, .str "at" gt1_1, .str "def" gt1_2, .str "div" gt1_3, .str "do" gt1_4, .str "else" gt1_5, .str "end" gt1_6, .str "fail" gt1_7, .str "field" gt1_8, .str "fill" gt1_9, .str "fun" gt1_10, .str "give" gt1_11, .str "if" gt1_12, .str "let" gt1_13, .str "long" gt1_14, .str "make" gt1_15, .str "no" gt1_16, .str "not" gt1_17, .str "number" gt1_18, .str "or" gt1_19, .str "place" gt1_20, .str "put" gt1_21, .str "record" gt1_22, .str "rem" gt1_23, .str "set" gt1_24, .str "tell" gt1_25, .str "truth" gt1_26, .str "while" gt1_27, .str "yes" gt1_28] gn1, gs1⟩)
    (g2 : PySem.W.nsIn K mainGlobals "MOST_DEEP" = some (some (.int 12 t2)))
    (xi0 : PySem.W.findIn K (.ref C1) "__init__" = some (some (.ref aI)))
    (xl : K.lookup aI = some ⟨ocI, odI, .func (PySem.W.fnOf "__init__" "ChainError.__init__" (L2.defArgs (L2.inClass (top 2) 0)) (L2.defBody (L2.inClass (top 2) 0)) (L2.defScope (L2.inClass (top 2) 0)) (.ref TI) kVI dcI pmI anI cdI ctI), slI⟩)
    (xd : PySem.W.codeIn K cdI "ChainError.__init__" = true)
    (xk : PySem.W.keepIn K (.ref aI) = true)
    (xt : PySem.W.typeIn K (.ref aI) = some (.type "function"))
    (xT : K.lookup TI = some ⟨ocT, odT, .seq #[.int 0 tT] nT, slT⟩)
    (xn : PySem.W.specialIn K (.builtin "object.__class__") "__get__" = some (some (.builtin "getset_descriptor.__get__")))
    (xtk : PySem.W.takesIn K (.builtin "object.__class__") = some true)
    (xo1 : K.lookup C1 = some (PySem.excClassObj xm1 xq1 C1 xN1 xb1 xbm1 true xsn1 xsu1 xab1 xco1 xdd1 xa1 xc1 xe1 xg1 xh1 "ValueError.__new__"))
    (xr1 : PySem.HandSPX.refsVE xbm1 = true)
    (xs1 : PySem.W.findIn K (.ref C1) "__setattr__" = some (some (.builtin "object.__setattr__")))
    (xe_1 : PySem.W.subIn K (.ref C1) (.type "BaseException") = some true)
    (xty1 : PySem.W.typeIn K (.ref C1) = some (.type "type"))
    (xkc1 : PySem.W.keepIn K (.ref C1) = true)
    (xno1 : PySem.W.findIn K (.ref C1) "line" = some none)
    (xga1 : PySem.W.findIn K (.ref C1) "__getattribute__" = some (some (.builtin "BaseException.__getattribute__")))
    (xgt1 : PySem.W.findIn K (.ref C1) "__getattr__" = some none)
    (xhd1 : PySem.W.hasDictIn K C1 = true)
    (xca1 : PySem.W.findIn K (.ref C1) "__class__" = some (some (.builtin "object.__class__")))
    (xmo1 : PySem.W.mroIn K C1 (.type "object") = some true)
    (xkv1 : PySem.W.subIn K (.ref C1) (.type "ValueError") = some true)
    (xx1_1 : PySem.W.subIn K (.ref C1) (.ref C1) = some true)
    (xx1_2 : PySem.W.subIn K (.ref C1) (.ref C2) = some false)
    (xx1_3 : PySem.W.subIn K (.ref C1) (.ref C3) = some false)
    (xx1_4 : PySem.W.subIn K (.ref C1) (.ref C4) = some false)
    (xx1_5 : PySem.W.subIn K (.ref C1) (.ref C5) = some false)
    (xx1_6 : PySem.W.subIn K (.ref C1) (.ref C6) = some false)
    (xx1_7 : PySem.W.subIn K (.ref C1) (.ref C7) = some false)
    (xx1_8 : PySem.W.subIn K (.ref C1) (.ref C8) = some false)
    (xo2 : K.lookup C2 = some (PySem.excClassObj xm2 xq2 C2 xN2 xb2 xbm2 true xsn2 xsu2 xab2 xco2 xdd2 xa2 xc2 xe2 xg2 xh2 "ValueError.__new__"))
    (xr2 : PySem.HandSPX.refsVE xbm2 = true)
    (xs2 : PySem.W.findIn K (.ref C2) "__setattr__" = some (some (.builtin "object.__setattr__")))
    (xe_2 : PySem.W.subIn K (.ref C2) (.type "BaseException") = some true)
    (xty2 : PySem.W.typeIn K (.ref C2) = some (.type "type"))
    (xkc2 : PySem.W.keepIn K (.ref C2) = true)
    (xno2 : PySem.W.findIn K (.ref C2) "line" = some none)
    (xi_2 : PySem.W.findIn K (.ref C2) "__init__" = some (some (.ref aI)))
    (xga2 : PySem.W.findIn K (.ref C2) "__getattribute__" = some (some (.builtin "BaseException.__getattribute__")))
    (xgt2 : PySem.W.findIn K (.ref C2) "__getattr__" = some none)
    (xhd2 : PySem.W.hasDictIn K C2 = true)
    (xca2 : PySem.W.findIn K (.ref C2) "__class__" = some (some (.builtin "object.__class__")))
    (xmo2 : PySem.W.mroIn K C2 (.type "object") = some true)
    (xkv2 : PySem.W.subIn K (.ref C2) (.type "ValueError") = some true)
    (xx2_1 : PySem.W.subIn K (.ref C2) (.ref C1) = some true)
    (xx2_2 : PySem.W.subIn K (.ref C2) (.ref C2) = some true)
    (xx2_3 : PySem.W.subIn K (.ref C2) (.ref C3) = some false)
    (xx2_4 : PySem.W.subIn K (.ref C2) (.ref C4) = some false)
    (xx2_5 : PySem.W.subIn K (.ref C2) (.ref C5) = some false)
    (xx2_6 : PySem.W.subIn K (.ref C2) (.ref C6) = some false)
    (xx2_7 : PySem.W.subIn K (.ref C2) (.ref C7) = some false)
    (xx2_8 : PySem.W.subIn K (.ref C2) (.ref C8) = some false)
    (xo3 : K.lookup C3 = some (PySem.excClassObj xm3 xq3 C3 xN3 xb3 xbm3 true xsn3 xsu3 xab3 xco3 xdd3 xa3 xc3 xe3 xg3 xh3 "ValueError.__new__"))
    (xr3 : PySem.HandSPX.refsVE xbm3 = true)
    (xs3 : PySem.W.findIn K (.ref C3) "__setattr__" = some (some (.builtin "object.__setattr__")))
    (xe_3 : PySem.W.subIn K (.ref C3) (.type "BaseException") = some true)
    (xty3 : PySem.W.typeIn K (.ref C3) = some (.type "type"))
    (xkc3 : PySem.W.keepIn K (.ref C3) = true)
    (xno3 : PySem.W.findIn K (.ref C3) "line" = some none)
    (xi_3 : PySem.W.findIn K (.ref C3) "__init__" = some (some (.ref aI)))
    (xga3 : PySem.W.findIn K (.ref C3) "__getattribute__" = some (some (.builtin "BaseException.__getattribute__")))
    (xgt3 : PySem.W.findIn K (.ref C3) "__getattr__" = some none)
    (xhd3 : PySem.W.hasDictIn K C3 = true)
    (xca3 : PySem.W.findIn K (.ref C3) "__class__" = some (some (.builtin "object.__class__")))
    (xmo3 : PySem.W.mroIn K C3 (.type "object") = some true)
    (xkv3 : PySem.W.subIn K (.ref C3) (.type "ValueError") = some true)
    (xx3_1 : PySem.W.subIn K (.ref C3) (.ref C1) = some true)
    (xx3_2 : PySem.W.subIn K (.ref C3) (.ref C2) = some false)
    (xx3_3 : PySem.W.subIn K (.ref C3) (.ref C3) = some true)
    (xx3_4 : PySem.W.subIn K (.ref C3) (.ref C4) = some false)
    (xx3_5 : PySem.W.subIn K (.ref C3) (.ref C5) = some false)
    (xx3_6 : PySem.W.subIn K (.ref C3) (.ref C6) = some false)
    (xx3_7 : PySem.W.subIn K (.ref C3) (.ref C7) = some false)
    (xx3_8 : PySem.W.subIn K (.ref C3) (.ref C8) = some false)
    (xo4 : K.lookup C4 = some (PySem.excClassObj xm4 xq4 C4 xN4 xb4 xbm4 true xsn4 xsu4 xab4 xco4 xdd4 xa4 xc4 xe4 xg4 xh4 "ValueError.__new__"))
    (xr4 : PySem.HandSPX.refsVE xbm4 = true)
    (xs4 : PySem.W.findIn K (.ref C4) "__setattr__" = some (some (.builtin "object.__setattr__")))
    (xe_4 : PySem.W.subIn K (.ref C4) (.type "BaseException") = some true)
    (xty4 : PySem.W.typeIn K (.ref C4) = some (.type "type"))
    (xkc4 : PySem.W.keepIn K (.ref C4) = true)
    (xno4 : PySem.W.findIn K (.ref C4) "line" = some none)
    (xi_4 : PySem.W.findIn K (.ref C4) "__init__" = some (some (.ref aI)))
    (xga4 : PySem.W.findIn K (.ref C4) "__getattribute__" = some (some (.builtin "BaseException.__getattribute__")))
    (xgt4 : PySem.W.findIn K (.ref C4) "__getattr__" = some none)
    (xhd4 : PySem.W.hasDictIn K C4 = true)
    (xca4 : PySem.W.findIn K (.ref C4) "__class__" = some (some (.builtin "object.__class__")))
    (xmo4 : PySem.W.mroIn K C4 (.type "object") = some true)
    (xkv4 : PySem.W.subIn K (.ref C4) (.type "ValueError") = some true)
    (xx4_1 : PySem.W.subIn K (.ref C4) (.ref C1) = some true)
    (xx4_2 : PySem.W.subIn K (.ref C4) (.ref C2) = some false)
    (xx4_3 : PySem.W.subIn K (.ref C4) (.ref C3) = some false)
    (xx4_4 : PySem.W.subIn K (.ref C4) (.ref C4) = some true)
    (xx4_5 : PySem.W.subIn K (.ref C4) (.ref C5) = some false)
    (xx4_6 : PySem.W.subIn K (.ref C4) (.ref C6) = some false)
    (xx4_7 : PySem.W.subIn K (.ref C4) (.ref C7) = some false)
    (xx4_8 : PySem.W.subIn K (.ref C4) (.ref C8) = some false)
    (xo5 : K.lookup C5 = some (PySem.excClassObj xm5 xq5 C5 xN5 xb5 xbm5 true xsn5 xsu5 xab5 xco5 xdd5 xa5 xc5 xe5 xg5 xh5 "ValueError.__new__"))
    (xr5 : PySem.HandSPX.refsVE xbm5 = true)
    (xs5 : PySem.W.findIn K (.ref C5) "__setattr__" = some (some (.builtin "object.__setattr__")))
    (xe_5 : PySem.W.subIn K (.ref C5) (.type "BaseException") = some true)
    (xty5 : PySem.W.typeIn K (.ref C5) = some (.type "type"))
    (xkc5 : PySem.W.keepIn K (.ref C5) = true)
    (xno5 : PySem.W.findIn K (.ref C5) "line" = some none)
    (xi_5 : PySem.W.findIn K (.ref C5) "__init__" = some (some (.ref aI)))
    (xga5 : PySem.W.findIn K (.ref C5) "__getattribute__" = some (some (.builtin "BaseException.__getattribute__")))
    (xgt5 : PySem.W.findIn K (.ref C5) "__getattr__" = some none)
    (xhd5 : PySem.W.hasDictIn K C5 = true)
    (xca5 : PySem.W.findIn K (.ref C5) "__class__" = some (some (.builtin "object.__class__")))
    (xmo5 : PySem.W.mroIn K C5 (.type "object") = some true)
    (xkv5 : PySem.W.subIn K (.ref C5) (.type "ValueError") = some true)
    (xx5_1 : PySem.W.subIn K (.ref C5) (.ref C1) = some true)
    (xx5_2 : PySem.W.subIn K (.ref C5) (.ref C2) = some false)
    (xx5_3 : PySem.W.subIn K (.ref C5) (.ref C3) = some false)
    (xx5_4 : PySem.W.subIn K (.ref C5) (.ref C4) = some false)
    (xx5_5 : PySem.W.subIn K (.ref C5) (.ref C5) = some true)
    (xx5_6 : PySem.W.subIn K (.ref C5) (.ref C6) = some false)
    (xx5_7 : PySem.W.subIn K (.ref C5) (.ref C7) = some false)
    (xx5_8 : PySem.W.subIn K (.ref C5) (.ref C8) = some false)
    (xo6 : K.lookup C6 = some (PySem.excClassObj xm6 xq6 C6 xN6 xb6 xbm6 true xsn6 xsu6 xab6 xco6 xdd6 xa6 xc6 xe6 xg6 xh6 "ValueError.__new__"))
    (xr6 : PySem.HandSPX.refsVE xbm6 = true)
    (xs6 : PySem.W.findIn K (.ref C6) "__setattr__" = some (some (.builtin "object.__setattr__")))
    (xe_6 : PySem.W.subIn K (.ref C6) (.type "BaseException") = some true)
    (xty6 : PySem.W.typeIn K (.ref C6) = some (.type "type"))
    (xkc6 : PySem.W.keepIn K (.ref C6) = true)
    (xno6 : PySem.W.findIn K (.ref C6) "line" = some none)
    (xi_6 : PySem.W.findIn K (.ref C6) "__init__" = some (some (.ref aI)))
    (xga6 : PySem.W.findIn K (.ref C6) "__getattribute__" = some (some (.builtin "BaseException.__getattribute__")))
    (xgt6 : PySem.W.findIn K (.ref C6) "__getattr__" = some none)
    (xhd6 : PySem.W.hasDictIn K C6 = true)
    (xca6 : PySem.W.findIn K (.ref C6) "__class__" = some (some (.builtin "object.__class__")))
    (xmo6 : PySem.W.mroIn K C6 (.type "object") = some true)
    (xkv6 : PySem.W.subIn K (.ref C6) (.type "ValueError") = some true)
    (xx6_1 : PySem.W.subIn K (.ref C6) (.ref C1) = some true)
    (xx6_2 : PySem.W.subIn K (.ref C6) (.ref C2) = some false)
    (xx6_3 : PySem.W.subIn K (.ref C6) (.ref C3) = some false)
    (xx6_4 : PySem.W.subIn K (.ref C6) (.ref C4) = some false)
    (xx6_5 : PySem.W.subIn K (.ref C6) (.ref C5) = some false)
    (xx6_6 : PySem.W.subIn K (.ref C6) (.ref C6) = some true)
    (xx6_7 : PySem.W.subIn K (.ref C6) (.ref C7) = some false)
    (xx6_8 : PySem.W.subIn K (.ref C6) (.ref C8) = some false)
    (xo7 : K.lookup C7 = some (PySem.excClassObj xm7 xq7 C7 xN7 xb7 xbm7 true xsn7 xsu7 xab7 xco7 xdd7 xa7 xc7 xe7 xg7 xh7 "ValueError.__new__"))
    (xr7 : PySem.HandSPX.refsVE xbm7 = true)
    (xs7 : PySem.W.findIn K (.ref C7) "__setattr__" = some (some (.builtin "object.__setattr__")))
    (xe_7 : PySem.W.subIn K (.ref C7) (.type "BaseException") = some true)
    (xty7 : PySem.W.typeIn K (.ref C7) = some (.type "type"))
    (xkc7 : PySem.W.keepIn K (.ref C7) = true)
    (xno7 : PySem.W.findIn K (.ref C7) "line" = some none)
    (xi_7 : PySem.W.findIn K (.ref C7) "__init__" = some (some (.ref aI)))
    (xga7 : PySem.W.findIn K (.ref C7) "__getattribute__" = some (some (.builtin "BaseException.__getattribute__")))
    (xgt7 : PySem.W.findIn K (.ref C7) "__getattr__" = some none)
    (xhd7 : PySem.W.hasDictIn K C7 = true)
    (xca7 : PySem.W.findIn K (.ref C7) "__class__" = some (some (.builtin "object.__class__")))
    (xmo7 : PySem.W.mroIn K C7 (.type "object") = some true)
    (xkv7 : PySem.W.subIn K (.ref C7) (.type "ValueError") = some true)
    (xx7_1 : PySem.W.subIn K (.ref C7) (.ref C1) = some true)
    (xx7_2 : PySem.W.subIn K (.ref C7) (.ref C2) = some false)
    (xx7_3 : PySem.W.subIn K (.ref C7) (.ref C3) = some false)
    (xx7_4 : PySem.W.subIn K (.ref C7) (.ref C4) = some false)
    (xx7_5 : PySem.W.subIn K (.ref C7) (.ref C5) = some false)
    (xx7_6 : PySem.W.subIn K (.ref C7) (.ref C6) = some false)
    (xx7_7 : PySem.W.subIn K (.ref C7) (.ref C7) = some true)
    (xx7_8 : PySem.W.subIn K (.ref C7) (.ref C8) = some false)
    (xo8 : K.lookup C8 = some (PySem.excClassObj xm8 xq8 C8 xN8 xb8 xbm8 true xsn8 xsu8 xab8 xco8 xdd8 xa8 xc8 xe8 xg8 xh8 "ValueError.__new__"))
    (xr8 : PySem.HandSPX.refsVE xbm8 = true)
    (xs8 : PySem.W.findIn K (.ref C8) "__setattr__" = some (some (.builtin "object.__setattr__")))
    (xe_8 : PySem.W.subIn K (.ref C8) (.type "BaseException") = some true)
    (xty8 : PySem.W.typeIn K (.ref C8) = some (.type "type"))
    (xkc8 : PySem.W.keepIn K (.ref C8) = true)
    (xno8 : PySem.W.findIn K (.ref C8) "line" = some none)
    (xi_8 : PySem.W.findIn K (.ref C8) "__init__" = some (some (.ref aI)))
    (xga8 : PySem.W.findIn K (.ref C8) "__getattribute__" = some (some (.builtin "BaseException.__getattribute__")))
    (xgt8 : PySem.W.findIn K (.ref C8) "__getattr__" = some none)
    (xhd8 : PySem.W.hasDictIn K C8 = true)
    (xca8 : PySem.W.findIn K (.ref C8) "__class__" = some (some (.builtin "object.__class__")))
    (xmo8 : PySem.W.mroIn K C8 (.type "object") = some true)
    (xkv8 : PySem.W.subIn K (.ref C8) (.type "ValueError") = some true)
    (xx8_1 : PySem.W.subIn K (.ref C8) (.ref C1) = some true)
    (xx8_2 : PySem.W.subIn K (.ref C8) (.ref C2) = some false)
    (xx8_3 : PySem.W.subIn K (.ref C8) (.ref C3) = some false)
    (xx8_4 : PySem.W.subIn K (.ref C8) (.ref C4) = some false)
    (xx8_5 : PySem.W.subIn K (.ref C8) (.ref C5) = some false)
    (xx8_6 : PySem.W.subIn K (.ref C8) (.ref C6) = some false)
    (xx8_7 : PySem.W.subIn K (.ref C8) (.ref C7) = some false)
    (xx8_8 : PySem.W.subIn K (.ref C8) (.ref C8) = some true)
    (pg0 : PySem.W.plainGet K C0 Str.empty = true)
    (hd0 : PySem.W.hasDictIn K C0 = true)
    (po0 : PySem.W.plainOver K C0 = true)
    (sa0 : PySem.W.findIn K (.ref C0) "__setattr__" = some (some (.builtin "object.__setattr__")))
    (mk0 : PySem.W.makesIn K C0 = true)
    (kc0 : PySem.W.keepIn K (.ref C0) = true)
    (na0_at : PySem.W.findIn K (.ref C0) "at" = some none)
    (na0_line : PySem.W.findIn K (.ref C0) "line" = some none)
    (na0_words : PySem.W.findIn K (.ref C0) "words" = some none) :
    ∃ T : CL.Tab, CL.Laid G fuel f_law "_law_script" K mg fa T := by
  obtain rfl : a26 = fa := by have e := hfa.symm.trans (PySem.W.mg_of X Gg m26); injection e with e; injection e with e; exact e.symm
  refine ⟨⟨G, fuel, nm, fun c => ([C0, C1, C2, C3, C4, C5, C6, C7, C8] : List Addr).getD c 0, fun f => (([a0, a1, a2, a3, a4, a5, a6, a7, a8, a9, a10, a11, a12, a13, a14, a15, a16, a17, a18, a19] : List Addr) ++ ([a20, a21, a22, a23, a24, a25, a26] : List Addr)).getD f 0, fun f => (([PySem.W.fnOf "_wall" "_wall" (L2.defArgs (top 0)) (L2.defBody (top 0)) (L2.defScope (top 0)) .none kV0 dc0 pm0 an0 cd0 ct0, PySem.W.fnOf "made_of" "made_of" (L2.defArgs (top 14)) (L2.defBody (top 14)) (L2.defScope (top 14)) .none kV1 dc1 pm1 an1 cd1 ct1, PySem.W.fnOf "is_name" "is_name" (L2.defArgs (top 15)) (L2.defBody (top 15)) (L2.defScope (top 15)) .none kV2 dc2 pm2 an2 cd2 ct2, PySem.W.fnOf "__init__" "Words.__init__" (L2.defArgs (L2.inClass (top 16) 0)) (L2.defBody (L2.inClass (top 16) 0)) (L2.defScope (L2.inClass (top 16) 0)) .none kV3 dc3 pm3 an3 cd3 ct3, PySem.W.fnOf "sees" "Words.sees" (L2.defArgs (L2.inClass (top 16) 1)) (L2.defBody (L2.inClass (top 16) 1)) (L2.defScope (L2.inClass (top 16) 1)) .none kV4 dc4 pm4 an4 cd4 ct4, PySem.W.fnOf "take" "Words.take" (L2.defArgs (L2.inClass (top 16) 2)) (L2.defBody (L2.inClass (top 16) 2)) (L2.defScope (L2.inClass (top 16) 2)) .none kV5 dc5 pm5 an5 cd5 ct5, PySem.W.fnOf "want" "Words.want" (L2.defArgs (L2.inClass (top 16) 3)) (L2.defBody (L2.inClass (top 16) 3)) (L2.defScope (L2.inClass (top 16) 3)) .none kV6 dc6 pm6 an6 cd6 ct6, PySem.W.fnOf "next_name" "Words.next_name" (L2.defArgs (L2.inClass (top 16) 4)) (L2.defBody (L2.inClass (top 16) 4)) (L2.defScope (L2.inClass (top 16) 4)) .none kV7 dc7 pm7 an7 cd7 ct7, PySem.W.fnOf "finish" "Words.finish" (L2.defArgs (L2.inClass (top 16) 5)) (L2.defBody (L2.inClass (top 16) 5)) (L2.defScope (L2.inClass (top 16) 5)) .none kV8 dc8 pm8 an8 cd8 ct8, PySem.W.fnOf "kind_in" "kind_in" (L2.defArgs (top 17)) (L2.defBody (top 17)) (L2.defScope (top 17)) .none kV9 dc9 pm9 an9 cd9 ct9, PySem.W.fnOf "read_kind" "read_kind" (L2.defArgs (top 18)) (L2.defBody (top 18)) (L2.defScope (top 18)) .none kV10 dc10 pm10 an10 cd10 ct10, PySem.W.fnOf "kind_words" "kind_words" (L2.defArgs (top 20)) (L2.defBody (top 20)) (L2.defScope (top 20)) .none kV11 dc11 pm11 an11 cd11 ct11, PySem.W.fnOf "shown_kind" "shown_kind" (L2.defArgs (top 21)) (L2.defBody (top 21)) (L2.defScope (top 21)) .none kV12 dc12 pm12 an12 cd12 ct12, PySem.W.fnOf "_law_stream" "_law_stream" (L2.defArgs (top 23)) (L2.defBody (top 23)) (L2.defScope (top 23)) .none kV13 dc13 pm13 an13 cd13 ct13, PySem.W.fnOf "_law_next" "_law_next" (L2.defArgs (top 24)) (L2.defBody (top 24)) (L2.defScope (top 24)) .none kV14 dc14 pm14 an14 cd14 ct14, PySem.W.fnOf "_law_kept" "_law_kept" (L2.defArgs (top 25)) (L2.defBody (top 25)) (L2.defScope (top 25)) .none kV15 dc15 pm15 an15 cd15 ct15, PySem.W.fnOf "_law_name" "_law_name" (L2.defArgs (top 26)) (L2.defBody (top 26)) (L2.defScope (top 26)) .none kV16 dc16 pm16 an16 cd16 ct16, PySem.W.fnOf "_law_many" "_law_many" (L2.defArgs (top 27)) (L2.defBody (top 27)) (L2.defScope (top 27)) .none kV17 dc17 pm17 an17 cd17 ct17, PySem.W.fnOf "_law_kind" "_law_kind" (L2.defArgs (top 28)) (L2.defBody (top 28)) (L2.defScope (top 28)) .none kV18 dc18 pm18 an18 cd18 ct18, PySem.W.fnOf "_law_alike" "_law_alike" (L2.defArgs (top 29)) (L2.defBody (top 29)) (L2.defScope (top 29)) .none kV19 dc19 pm19 an19 cd19 ct19] : List FuncData) ++ ([PySem.W.fnOf "_law_marks" "_law_marks" (L2.defArgs (top 30)) (L2.defBody (top 30)) (L2.defScope (top 30)) .none kV20 dc20 pm20 an20 cd20 ct20, PySem.W.fnOf "_law_is_name" "_law_is_name" (L2.defArgs (top 31)) (L2.defBody (top 31)) (L2.defScope (top 31)) .none kV21 dc21 pm21 an21 cd21 ct21, PySem.W.fnOf "_law_after_kind" "_law_after_kind" (L2.defArgs (top 32)) (L2.defBody (top 32)) (L2.defScope (top 32)) .none kV22 dc22 pm22 an22 cd22 ct22, PySem.W.fnOf "_law_deep" "_law_deep" (L2.defArgs (top 33)) (L2.defBody (top 33)) (L2.defScope (top 33)) .none kV23 dc23 pm23 an23 cd23 ct23, PySem.W.fnOf "_law_spoilt" "_law_spoilt" (L2.defArgs (top 34)) (L2.defBody (top 34)) (L2.defScope (top 34)) .none kV24 dc24 pm24 an24 cd24 ct24, PySem.W.fnOf "_law_asked" "_law_asked" (L2.defArgs (top 35)) (L2.defBody (top 35)) (L2.defScope (top 35)) .none kV25 dc25 pm25 an25 cd25 ct25, PySem.W.fnOf "law" "law" (L2.defArgs (top 36)) (L2.defBody (top 36)) (L2.defScope (top 36)) .none kV26 dc26 pm26 an26 cd26 ct26] : List FuncData)).getD f default, fun f => psns.getD f []⟩, rfl, rfl, rfl, rfl, ?top, ?defs, fun s u => .of_eq rfl⟩
  case defs =>
    intro f fd hf
    refine CL.allI0 (P := fun f fd => CL.DefOk _ K f fd) (l := fns) ?_ f fd hf
    exact ⟨⟨"_wall", "_wall", (top 0), n__wall, L2.fun_mk l0 c0 k0, sc__wall, rfl, ch__wall⟩, ⟨"made_of", "made_of", (top 14), n_made_of, L2.fun_mk l1 c1 k1, sc_made_of, rfl, ch_made_of⟩, ⟨"is_name", "is_name", (top 15), n_is_name, L2.fun_mk l2 c2 k2, sc_is_name, rfl, ch_is_name⟩, ⟨"__init__", "Words.__init__", (L2.inClass (top 16) 0), n_Words_init, L2.fun_mk l3 c3 k3, sc_Words_init, rfl, ch_Words_init⟩, ⟨"sees", "Words.sees", (L2.inClass (top 16) 1), n_Words_sees, L2.fun_mk l4 c4 k4, sc_Words_sees, rfl, ch_Words_sees⟩, ⟨"take", "Words.take", (L2.inClass (top 16) 2), n_Words_take, L2.fun_mk l5 c5 k5, sc_Words_take, rfl, ch_Words_take⟩, ⟨"want", "Words.want", (L2.inClass (top 16) 3), n_Words_want, L2.fun_mk l6 c6 k6, sc_Words_want, rfl, ch_Words_want⟩, ⟨"next_name", "Words.next_name", (L2.inClass (top 16) 4), n_Words_next_name, L2.fun_mk l7 c7 k7, sc_Words_next_name, rfl, ch_Words_next_name⟩, ⟨"finish", "Words.finish", (L2.inClass (top 16) 5), n_Words_finish, L2.fun_mk l8 c8 k8, sc_Words_finish, rfl, ch_Words_finish⟩, ⟨"kind_in", "kind_in", (top 17), n_kind_in, L2.fun_mk l9 c9 k9, sc_kind_in, rfl, ch_kind_in⟩, ⟨"read_kind", "read_kind", (top 18), n_read_kind, L2.fun_mk l10 c10 k10, sc_read_kind, rfl, ch_read_kind⟩, ⟨"kind_words", "kind_words", (top 20), n_kind_words, L2.fun_mk l11 c11 k11, sc_kind_words, rfl, ch_kind_words⟩, ⟨"shown_kind", "shown_kind", (top 21), n_shown_kind, L2.fun_mk l12 c12 k12, sc_shown_kind, rfl, ch_shown_kind⟩, ⟨"_law_stream", "_law_stream", (top 23), n_l_stream, L2.fun_mk l13 c13 k13, sc_l_stream, rfl, ch_l_stream⟩, ⟨"_law_next", "_law_next", (top 24), n_l_next, L2.fun_mk l14 c14 k14, sc_l_next, rfl, ch_l_next⟩, ⟨"_law_kept", "_law_kept", (top 25), n_l_kept, L2.fun_mk l15 c15 k15, sc_l_kept, rfl, ch_l_kept⟩, ⟨"_law_name", "_law_name", (top 26), n_l_name, L2.fun_mk l16 c16 k16, sc_l_name, rfl, ch_l_name⟩, ⟨"_law_many", "_law_many", (top 27), n_l_many, L2.fun_mk l17 c17 k17, sc_l_many, rfl, ch_l_many⟩, ⟨"_law_kind", "_law_kind", (top 28), n_l_kind, L2.fun_mk l18 c18 k18, sc_l_kind, rfl, ch_l_kind⟩, ⟨"_law_alike", "_law_alike", (top 29), n_l_alike, L2.fun_mk l19 c19 k19, sc_l_alike, rfl, ch_l_alike⟩, ⟨"_law_marks", "_law_marks", (top 30), n_l_marks, L2.fun_mk l20 c20 k20, sc_l_marks, rfl, ch_l_marks⟩, ⟨"_law_is_name", "_law_is_name", (top 31), n_l_is_name, L2.fun_mk l21 c21 k21, sc_l_is_name, rfl, ch_l_is_name⟩, ⟨"_law_after_kind", "_law_after_kind", (top 32), n_l_after_kind, L2.fun_mk l22 c22 k22, sc_l_after_kind, rfl, ch_l_after_kind⟩, ⟨"_law_deep", "_law_deep", (top 33), n_l_deep, L2.fun_mk l23 c23 k23, sc_l_deep, rfl, ch_l_deep⟩, ⟨"_law_spoilt", "_law_spoilt", (top 34), n_l_spoilt, L2.fun_mk l24 c24 k24, sc_l_spoilt, rfl, ch_l_spoilt⟩, ⟨"_law_asked", "_law_asked", (top 35), n_l_asked, L2.fun_mk l25 c25 k25, sc_l_asked, rfl, ch_l_asked⟩, ⟨"law", "law", (top 36), n_law, L2.fun_mk l26 c26 k26, sc_law, rfl, ch_law⟩, trivial⟩
  case top =>
    refine { bf := ?bf, isi := PySem.W.mg_none_of X Gg z_isinstance, ty := ?ty, rng := PySem.W.mg_none_of X Gg z_range, enu := PySem.W.mg_none_of X Gg z_enumerate, zip := PySem.W.mg_none_of X Gg z_zip, gl := ?gl, fn := ?fn, mt := ?mt, ini := ?ini, fl := ?fl, xc := ?xc, xsub := ?xsub, xis := ?xis, ver := PySem.W.mg_none_of X Gg z_ValueError }
    case bf => intro b; cases b; exact PySem.W.mg_none_of X Gg z_len; exact PySem.W.mg_none_of X Gg z_abs; exact PySem.W.mg_none_of X Gg z_list; exact PySem.W.mg_none_of X Gg z_tuple; exact PySem.W.mg_none_of X Gg z_int; exact PySem.W.mg_none_of X Gg z_any; exact PySem.W.mg_none_of X Gg z_all; exact PySem.W.mg_none_of X Gg z_min; exact PySem.W.mg_none_of X Gg z_max; exact PySem.W.mg_none_of X Gg z_str; exact PySem.W.mg_none_of X Gg z_sorted; exact PySem.W.mg_none_of X Gg z_dict; exact PySem.W.mg_none_of X Gg z_set; exact PySem.W.mg_none_of X Gg z_divmod
    case ty => intro t ht; cases t; exact PySem.W.mg_none_of X Gg z_int; exact PySem.W.mg_none_of X Gg z_bool; exact PySem.W.mg_none_of X Gg z_str; exact PySem.W.mg_none_of X Gg z_list; exact PySem.W.mg_none_of X Gg z_tuple; exact PySem.W.mg_none_of X Gg z_dict; cases ht
    case gl =>
      intro g v hg
      refine CL.allI0 (P := fun g v => ∃ u w, mg (nm.gl g) = some u ∧ L2.RelV w u ∧ ∀ io n H, CL.RV K G.kt io n H v w) (l := gls) ?_ g v hg
      exact ⟨⟨_, (.str "abcdefghijklmnopqrstuvwxyz"), PySem.W.mg_of X Gg g0, ⟨_, rfl⟩, fun _ _ _ => .str _⟩, ⟨_, (.ref gA1 : L2.V), PySem.W.mg_of X Gg g1, rfl, fun _ _ _ => .tup (ys := [(.str "and"), (.str "at"), (.str "def"), (.str "div"), (.str "do"), (.str "else"), (.str "end"), (.str "fail"), (.str "field"), (.str "fill"), (.str "fun"), (.str "give"), (.str "if"), (.str "let"), (.str "long"), (.str "make"), (.str "no"), (.str "not"), (.str "number"), (.str "or"), (.str "place"), (.str "put"), (.str "record"), (.str "rem"), (.str "set"), (.str "tell"), (.str "truth"), (.str "while"), (.str "yes")]) (.inr ⟨by decide +kernel, _, _, _, gl1, rfl, rfl, (by show 29 ≤ _; rw [sizeLine_eq]; omega), (.cons ⟨_, rfl⟩ (.cons ⟨_, rfl⟩ (.cons ⟨_, rfl⟩ (.cons ⟨_, rfl⟩ (.cons ⟨_, rfl⟩ (.cons ⟨_, rfl⟩ (.cons ⟨_, rfl⟩ (.cons ⟨_, rfl⟩ (.cons ⟨_, rfl⟩ (.cons ⟨_, rfl⟩ (.cons ⟨_, rfl⟩ (.cons ⟨_, rfl⟩ (.cons ⟨_, rfl⟩ (.cons ⟨_, rfl⟩ (.cons ⟨_, rfl⟩ (.cons ⟨_, rfl⟩ (.cons ⟨_, rfl⟩ (.cons ⟨_, rfl⟩ (.cons ⟨_, rfl⟩ (.cons ⟨_, rfl⟩ (.cons ⟨_, rfl⟩ (.cons ⟨_, rfl⟩ (.cons ⟨_, rfl⟩ (.cons ⟨_, rfl⟩ (.cons ⟨_, rfl⟩ (.cons ⟨_, rfl⟩ (.cons ⟨_, rfl⟩ (.cons ⟨_, rfl⟩ (.cons ⟨_, rfl⟩ .nil)))))))))))))))))))))))))))))⟩) (.cons (.str _) (.cons (.str _) (.cons (.str _) (.cons (.str _) (.cons (.str _) (.cons (.str _) (.cons (.str _) (.cons (.str _) (.cons (.str _) (.cons (.str _) (.cons (.str _) (.cons (.str _) (.cons (.str _) (.cons (.str _) (.cons (.str _) (.cons (.str _) (.cons (.str _) (.cons (.str _) (.cons (.str _) (.cons (.str _) (.cons (.str _) (.cons (.str _) (.cons (.str _) (.cons (.str _) (.cons (.str _) (.cons (.str _) (.cons (.str _) (.cons (.str _) (.cons (.str _) .nil)))))))))))))))))))))))))))))⟩, ⟨_, (.int 12), PySem.W.mg_of X Gg g2, ⟨_, rfl⟩, fun _ _ _ => .int _⟩, trivial⟩
    case fn =>
      intro f fd hf
      refine CL.allI0 (P := fun f fd => L2.Binds K ((([PySem.W.fnOf "_wall" "_wall" (L2.defArgs (top 0)) (L2.defBody (top 0)) (L2.defScope (top 0)) .none kV0 dc0 pm0 an0 cd0 ct0, PySem.W.fnOf "made_of" "made_of" (L2.defArgs (top 14)) (L2.defBody (top 14)) (L2.defScope (top 14)) .none kV1 dc1 pm1 an1 cd1 ct1, PySem.W.fnOf "is_name" "is_name" (L2.defArgs (top 15)) (L2.defBody (top 15)) (L2.defScope (top 15)) .none kV2 dc2 pm2 an2 cd2 ct2, PySem.W.fnOf "__init__" "Words.__init__" (L2.defArgs (L2.inClass (top 16) 0)) (L2.defBody (L2.inClass (top 16) 0)) (L2.defScope (L2.inClass (top 16) 0)) .none kV3 dc3 pm3 an3 cd3 ct3, PySem.W.fnOf "sees" "Words.sees" (L2.defArgs (L2.inClass (top 16) 1)) (L2.defBody (L2.inClass (top 16) 1)) (L2.defScope (L2.inClass (top 16) 1)) .none kV4 dc4 pm4 an4 cd4 ct4, PySem.W.fnOf "take" "Words.take" (L2.defArgs (L2.inClass (top 16) 2)) (L2.defBody (L2.inClass (top 16) 2)) (L2.defScope (L2.inClass (top 16) 2)) .none kV5 dc5 pm5 an5 cd5 ct5, PySem.W.fnOf "want" "Words.want" (L2.defArgs (L2.inClass (top 16) 3)) (L2.defBody (L2.inClass (top 16) 3)) (L2.defScope (L2.inClass (top 16) 3)) .none kV6 dc6 pm6 an6 cd6 ct6, PySem.W.fnOf "next_name" "Words.next_name" (L2.defArgs (L2.inClass (top 16) 4)) (L2.defBody (L2.inClass (top 16) 4)) (L2.defScope (L2.inClass (top 16) 4)) .none kV7 dc7 pm7 an7 cd7 ct7, PySem.W.fnOf "finish" "Words.finish" (L2.defArgs (L2.inClass (top 16) 5)) (L2.defBody (L2.inClass (top 16) 5)) (L2.defScope (L2.inClass (top 16) 5)) .none kV8 dc8 pm8 an8 cd8 ct8, PySem.W.fnOf "kind_in" "kind_in" (L2.defArgs (top 17)) (L2.defBody (top 17)) (L2.defScope (top 17)) .none kV9 dc9 pm9 an9 cd9 ct9, PySem.W.fnOf "read_kind" "read_kind" (L2.defArgs (top 18)) (L2.defBody (top 18)) (L2.defScope (top 18)) .none kV10 dc10 pm10 an10 cd10 ct10, PySem.W.fnOf "kind_words" "kind_words" (L2.defArgs (top 20)) (L2.defBody (top 20)) (L2.defScope (top 20)) .none kV11 dc11 pm11 an11 cd11 ct11, PySem.W.fnOf "shown_kind" "shown_kind" (L2.defArgs (top 21)) (L2.defBody (top 21)) (L2.defScope (top 21)) .none kV12 dc12 pm12 an12 cd12 ct12, PySem.W.fnOf "_law_stream" "_law_stream" (L2.defArgs (top 23)) (L2.defBody (top 23)) (L2.defScope (top 23)) .none kV13 dc13 pm13 an13 cd13 ct13, PySem.W.fnOf "_law_next" "_law_next" (L2.defArgs (top 24)) (L2.defBody (top 24)) (L2.defScope (top 24)) .none kV14 dc14 pm14 an14 cd14 ct14, PySem.W.fnOf "_law_kept" "_law_kept" (L2.defArgs (top 25)) (L2.defBody (top 25)) (L2.defScope (top 25)) .none kV15 dc15 pm15 an15 cd15 ct15, PySem.W.fnOf "_law_name" "_law_name" (L2.defArgs (top 26)) (L2.defBody (top 26)) (L2.defScope (top 26)) .none kV16 dc16 pm16 an16 cd16 ct16, PySem.W.fnOf "_law_many" "_law_many" (L2.defArgs (top 27)) (L2.defBody (top 27)) (L2.defScope (top 27)) .none kV17 dc17 pm17 an17 cd17 ct17, PySem.W.fnOf "_law_kind" "_law_kind" (L2.defArgs (top 28)) (L2.defBody (top 28)) (L2.defScope (top 28)) .none kV18 dc18 pm18 an18 cd18 ct18, PySem.W.fnOf "_law_alike" "_law_alike" (L2.defArgs (top 29)) (L2.defBody (top 29)) (L2.defScope (top 29)) .none kV19 dc19 pm19 an19 cd19 ct19] : List FuncData) ++ ([PySem.W.fnOf "_law_marks" "_law_marks" (L2.defArgs (top 30)) (L2.defBody (top 30)) (L2.defScope (top 30)) .none kV20 dc20 pm20 an20 cd20 ct20, PySem.W.fnOf "_law_is_name" "_law_is_name" (L2.defArgs (top 31)) (L2.defBody (top 31)) (L2.defScope (top 31)) .none kV21 dc21 pm21 an21 cd21 ct21, PySem.W.fnOf "_law_after_kind" "_law_after_kind" (L2.defArgs (top 32)) (L2.defBody (top 32)) (L2.defScope (top 32)) .none kV22 dc22 pm22 an22 cd22 ct22, PySem.W.fnOf "_law_deep" "_law_deep" (L2.defArgs (top 33)) (L2.defBody (top 33)) (L2.defScope (top 33)) .none kV23 dc23 pm23 an23 cd23 ct23, PySem.W.fnOf "_law_spoilt" "_law_spoilt" (L2.defArgs (top 34)) (L2.defBody (top 34)) (L2.defScope (top 34)) .none kV24 dc24 pm24 an24 cd24 ct24, PySem.W.fnOf "_law_asked" "_law_asked" (L2.defArgs (top 35)) (L2.defBody (top 35)) (L2.defScope (top 35)) .none kV25 dc25 pm25 an25 cd25 ct25, PySem.W.fnOf "law" "law" (L2.defArgs (top 36)) (L2.defBody (top 36)) (L2.defScope (top 36)) .none kV26 dc26 pm26 an26 cd26 ct26] : List FuncData)).getD f default) (psns.getD f []) [] ∧ (psns.getD f []).length = fd.np ∧ (nm.isG f = true → mg (nm.fn f) = some (.ref ((([a0, a1, a2, a3, a4, a5, a6, a7, a8, a9, a10, a11, a12, a13, a14, a15, a16, a17, a18, a19] : List Addr) ++ ([a20, a21, a22, a23, a24, a25, a26] : List Addr)).getD f 0)) ∧ PySem.W.keepIn K (.ref ((([a0, a1, a2, a3, a4, a5, a6, a7, a8, a9, a10, a11, a12, a13, a14, a15, a16, a17, a18, a19] : List Addr) ++ ([a20, a21, a22, a23, a24, a25, a26] : List Addr)).getD f 0)) = true)) (l := fns) ?_ f fd hf
      exact ⟨⟨(L2.fun_mk (st := (top 0)) l0 c0 k0).binds (ps := ["k"]) fun _ _ _ _ _ _ us hl => match us, hl with | [_], _ => rfl, rfl, fun _ => ⟨PySem.W.mg_of X Gg m0, k0⟩⟩,
        ⟨(L2.fun_mk (st := (top 14)) l1 c1 k1).binds (ps := ["word", "signs"]) fun _ _ _ _ _ _ us hl => match us, hl with | [_, _], _ => rfl, rfl, fun _ => ⟨PySem.W.mg_of X Gg m1, k1⟩⟩,
        ⟨(L2.fun_mk (st := (top 15)) l2 c2 k2).binds (ps := ["word"]) fun _ _ _ _ _ _ us hl => match us, hl with | [_], _ => rfl, rfl, fun _ => ⟨PySem.W.mg_of X Gg m2, k2⟩⟩,
        ⟨(L2.fun_mk (st := (L2.inClass (top 16) 0)) l3 c3 k3).binds (ps := ["self", "words", "line"]) fun _ _ _ _ _ _ us hl => match us, hl with | [_, _, _], _ => rfl, rfl, fun z => nomatch z⟩,
        ⟨(L2.fun_mk (st := (L2.inClass (top 16) 1)) l4 c4 k4).binds (ps := ["self", "word"]) fun _ _ _ _ _ _ us hl => match us, hl with | [_, _], _ => rfl, rfl, fun z => nomatch z⟩,
        ⟨(L2.fun_mk (st := (L2.inClass (top 16) 2)) l5 c5 k5).binds (ps := ["self"]) fun _ _ _ _ _ _ us hl => match us, hl with | [_], _ => rfl, rfl, fun z => nomatch z⟩,
        ⟨(L2.fun_mk (st := (L2.inClass (top 16) 3)) l6 c6 k6).binds (ps := ["self", "word"]) fun _ _ _ _ _ _ us hl => match us, hl with | [_, _], _ => rfl, rfl, fun z => nomatch z⟩,
        ⟨(L2.fun_mk (st := (L2.inClass (top 16) 4)) l7 c7 k7).binds (ps := ["self"]) fun _ _ _ _ _ _ us hl => match us, hl with | [_], _ => rfl, rfl, fun z => nomatch z⟩,
        ⟨(L2.fun_mk (st := (L2.inClass (top 16) 5)) l8 c8 k8).binds (ps := ["self"]) fun _ _ _ _ _ _ us hl => match us, hl with | [_], _ => rfl, rfl, fun z => nomatch z⟩,
        ⟨(L2.fun_mk (st := (top 17)) l9 c9 k9).binds (ps := ["words", "deep"]) fun _ _ _ _ _ _ us hl => match us, hl with | [_, _], _ => rfl, rfl, fun _ => ⟨PySem.W.mg_of X Gg m9, k9⟩⟩,
        ⟨(L2.fun_mk (st := (top 18)) l10 c10 k10).binds (ps := ["words"]) fun _ _ _ _ _ _ us hl => match us, hl with | [_], _ => rfl, rfl, fun _ => ⟨PySem.W.mg_of X Gg m10, k10⟩⟩,
        ⟨(L2.fun_mk (st := (top 20)) l11 c11 k11).binds (ps := ["kind"]) fun _ _ _ _ _ _ us hl => match us, hl with | [_], _ => rfl, rfl, fun _ => ⟨PySem.W.mg_of X Gg m11, k11⟩⟩,
        ⟨(L2.fun_mk (st := (top 21)) l12 c12 k12).binds (ps := ["kind"]) fun _ _ _ _ _ _ us hl => match us, hl with | [_], _ => rfl, rfl, fun _ => ⟨PySem.W.mg_of X Gg m12, k12⟩⟩,
        ⟨(L2.fun_mk (st := (top 23)) l13 c13 k13).binds (ps := ["_law_script"]) fun _ _ _ _ _ _ us hl => match us, hl with | [_], _ => rfl, rfl, fun _ => ⟨PySem.W.mg_of X Gg m13, k13⟩⟩,
        ⟨(L2.fun_mk (st := (top 24)) l14 c14 k14).binds (ps := ["_law_row", "_law_many_here"]) fun _ _ _ _ _ _ us hl => match us, hl with | [_, _], _ => rfl, rfl, fun _ => ⟨PySem.W.mg_of X Gg m14, k14⟩⟩,
        ⟨(L2.fun_mk (st := (top 25)) l15 c15 k15).binds (ps := []) fun _ _ _ _ _ _ us hl => match us, hl with | [], _ => rfl, rfl, fun _ => ⟨PySem.W.mg_of X Gg m15, k15⟩⟩,
        ⟨(L2.fun_mk (st := (top 26)) l16 c16 k16).binds (ps := ["_law_row"]) fun _ _ _ _ _ _ us hl => match us, hl with | [_], _ => rfl, rfl, fun _ => ⟨PySem.W.mg_of X Gg m16, k16⟩⟩,
        ⟨(L2.fun_mk (st := (top 27)) l17 c17 k17).binds (ps := ["_law_row", "_law_most"]) fun _ _ _ _ _ _ us hl => match us, hl with | [_, _], _ => rfl, rfl, fun _ => ⟨PySem.W.mg_of X Gg m17, k17⟩⟩,
        ⟨(L2.fun_mk (st := (top 28)) l18 c18 k18).binds (ps := ["_law_row", "_law_deep_here", "_law_left"]) fun _ _ _ _ _ _ us hl => match us, hl with | [_, _, _], _ => rfl, rfl, fun _ => ⟨PySem.W.mg_of X Gg m18, k18⟩⟩,
        ⟨(L2.fun_mk (st := (top 29)) l19 c19 k19).binds (ps := ["_law_found", "_law_due"]) fun _ _ _ _ _ _ us hl => match us, hl with | [_, _], _ => rfl, rfl, fun _ => ⟨PySem.W.mg_of X Gg m19, k19⟩⟩,
        ⟨(L2.fun_mk (st := (top 30)) l20 c20 k20).binds (ps := ["_law_caught"]) fun _ _ _ _ _ _ us hl => match us, hl with | [_], _ => rfl, rfl, fun _ => ⟨PySem.W.mg_of X Gg m20, k20⟩⟩,
        ⟨(L2.fun_mk (st := (top 31)) l21 c21 k21).binds (ps := ["_law_word"]) fun _ _ _ _ _ _ us hl => match us, hl with | [_], _ => rfl, rfl, fun _ => ⟨PySem.W.mg_of X Gg m21, k21⟩⟩,
        ⟨(L2.fun_mk (st := (top 32)) l22 c22 k22).binds (ps := ["_law_words", "_law_at"]) fun _ _ _ _ _ _ us hl => match us, hl with | [_, _], _ => rfl, rfl, fun _ => ⟨PySem.W.mg_of X Gg m22, k22⟩⟩,
        ⟨(L2.fun_mk (st := (top 33)) l23 c23 k23).binds (ps := ["_law_row"]) fun _ _ _ _ _ _ us hl => match us, hl with | [_], _ => rfl, rfl, fun _ => ⟨PySem.W.mg_of X Gg m23, k23⟩⟩,
        ⟨(L2.fun_mk (st := (top 34)) l24 c24 k24).binds (ps := ["_law_row", "_law_words"]) fun _ _ _ _ _ _ us hl => match us, hl with | [_, _], _ => rfl, rfl, fun _ => ⟨PySem.W.mg_of X Gg m24, k24⟩⟩,
        ⟨(L2.fun_mk (st := (top 35)) l25 c25 k25).binds (ps := ["_law_words"]) fun _ _ _ _ _ _ us hl => match us, hl with | [_], _ => rfl, rfl, fun _ => ⟨PySem.W.mg_of X Gg m25, k25⟩⟩,
        ⟨(L2.fun_mk (st := (top 36)) l26 c26 k26).binds (ps := ["_law_script"]) fun _ _ _ _ _ _ us hl => match us, hl with | [_], _ => rfl, rfl, fun _ => ⟨PySem.W.mg_of X Gg m26, k26⟩⟩, trivial⟩
    case mt =>
      intro c m f hm
      refine CL.allM (P := fun c m f => L2.Cls K (([C0, C1, C2, C3, C4, C5, C6, C7, C8] : List Addr).getD c 0) ∧ L2.Meth K (([C0, C1, C2, C3, C4, C5, C6, C7, C8] : List Addr).getD c 0) m ((([a0, a1, a2, a3, a4, a5, a6, a7, a8, a9, a10, a11, a12, a13, a14, a15, a16, a17, a18, a19] : List Addr) ++ ([a20, a21, a22, a23, a24, a25, a26] : List Addr)).getD f 0) ∧ ∃ fd, G.fn f = some fd) (l := mts) ?_ c m f hm
      exact ⟨⟨⟨pg0, hd0, po0, sa0⟩, ⟨m3, i3, k3⟩, _, rfl⟩, ⟨⟨pg0, hd0, po0, sa0⟩, ⟨m4, i4, k4⟩, _, rfl⟩, ⟨⟨pg0, hd0, po0, sa0⟩, ⟨m5, i5, k5⟩, _, rfl⟩, ⟨⟨pg0, hd0, po0, sa0⟩, ⟨m6, i6, k6⟩, _, rfl⟩, ⟨⟨pg0, hd0, po0, sa0⟩, ⟨m7, i7, k7⟩, _, rfl⟩, ⟨⟨pg0, hd0, po0, sa0⟩, ⟨m8, i8, k8⟩, _, rfl⟩, trivial⟩
    case ini =>
      intro c f hm
      refine CL.allN (P := fun c f => mg (nm.cl c) = some (.ref (([C0, C1, C2, C3, C4, C5, C6, C7, C8] : List Addr).getD c 0)) ∧ L2.Mk K (([C0, C1, C2, C3, C4, C5, C6, C7, C8] : List Addr).getD c 0) ((([a0, a1, a2, a3, a4, a5, a6, a7, a8, a9, a10, a11, a12, a13, a14, a15, a16, a17, a18, a19] : List Addr) ++ ([a20, a21, a22, a23, a24, a25, a26] : List Addr)).getD f 0) ∧ ∃ fd, G.fn f = some fd) (l := mts) ?_ c f hm
      exact ⟨fun _ => ⟨PySem.W.mg_of X Gg n_0, ⟨mk0, m3, i3, kc0⟩, _, rfl⟩, fun z => absurd z (by decide), fun z => absurd z (by decide), fun z => absurd z (by decide), fun z => absurd z (by decide), fun z => absurd z (by decide), trivial⟩
    case fl =>
      intro c f hm
      refine CL.allF (P := fun c f => L2.Cls K (([C0, C1, C2, C3, C4, C5, C6, C7, C8] : List Addr).getD c 0) ∧ L2.NoAttr K (([C0, C1, C2, C3, C4, C5, C6, C7, C8] : List Addr).getD c 0) f) (l := flds) ?_ c f hm
      exact ⟨⟨⟨pg0, hd0, po0, sa0⟩, na0_at⟩, ⟨⟨pg0, hd0, po0, sa0⟩, na0_line⟩, ⟨⟨pg0, hd0, po0, sa0⟩, na0_words⟩, trivial⟩
    case xc =>
      intro k hk
      refine CL.allX (P := fun k => CL.XC _ K mg k) (l := xss) ?_ k hk
      have F : L2.FunD K "__init__" "ChainError.__init__" (L2.defArgs (L2.inClass (top 2) 0)) (L2.defBody (L2.inClass (top 2) 0)) (L2.defScope (L2.inClass (top 2) 0)) [.int 0] [] aI (PySem.W.fnOf "__init__" "ChainError.__init__" (L2.defArgs (L2.inClass (top 2) 0)) (L2.defBody (L2.inClass (top 2) 0)) (L2.defScope (L2.inClass (top 2) 0)) (.ref TI) kVI dcI pmI anI cdI ctI) := ⟨⟨_, _, _, _, _, _, _, _, _, _, rfl, xl, xd, .inr ⟨by simp, _, _, _, _, rfl, xT, rfl, .cons ⟨_, rfl⟩ .nil⟩, .inl rfl⟩, xk⟩
      have S : L2.FnScope ["self", "line"] ["self", "line"] (L2.defScope (L2.inClass (top 2) 0)) := ⟨rfl, rfl, rfl, by decide +kernel, rfl, by decide +kernel, by decide +kernel⟩
      have B1 : ∃ ds, L2.Vals [L2.V.int 0] ds ∧ L2.Binds K (PySem.W.fnOf "__init__" "ChainError.__init__" (L2.defArgs (L2.inClass (top 2) 0)) (L2.defBody (L2.inClass (top 2) 0)) (L2.defScope (L2.inClass (top 2) 0)) (.ref TI) kVI dcI pmI anI cdI ctI) ["self", "line"] ds := F.binds1 (ps := ["self", "line"]) 1 0 (by simp) rfl fun T kV doc pm an cdv ct us its h1 h2 => match us, h1, its, h2 with | [_], _, [_], _ => ⟨_, rfl, rfl⟩
      have B0 : L2.Binds K (PySem.W.fnOf "__init__" "ChainError.__init__" (L2.defArgs (L2.inClass (top 2) 0)) (L2.defBody (L2.inClass (top 2) 0)) (L2.defScope (L2.inClass (top 2) 0)) (.ref TI) kVI dcI pmI anI cdI ctI) ["self", "line"] [] := CL.binds_nil (F.binds1 (ps := ["self", "line"]) 2 1 (by simp) rfl fun T kV doc pm an cdv ct us its h1 h2 => match us, h1, its, h2 with | [_, _], _, [_], _ => ⟨_, rfl, rfl⟩)
      exact ⟨fun _ => { mgc := PySem.W.mg_of X Gg n_1, ox := ⟨⟨_, _, _, _, _, _, _, _, _, _, _, _, _, _, _, xo1, xr1⟩, xs1, xe_1, xty1, xkc1⟩, no := xno1, ini := ⟨_, _, _, _, _, _, _, _, _, _, _, _, _, _, _, xi0, xt, F, S, rfl, rfl, rfl, .inl (by decide +kernel), .inl (by decide +kernel), by decide +kernel, by decide +kernel, B1, B0⟩, ec := ⟨xga1, xgt1, xe_1, xhd1, xca1, xn, xtk, xmo1⟩, kn := CL.kit_non xhd1 xty1, kv := CL.kit_ve xkv1 },
        fun _ => { mgc := PySem.W.mg_of X Gg n_2, ox := ⟨⟨_, _, _, _, _, _, _, _, _, _, _, _, _, _, _, xo2, xr2⟩, xs2, xe_2, xty2, xkc2⟩, no := xno2, ini := ⟨_, _, _, _, _, _, _, _, _, _, _, _, _, _, _, xi_2, xt, F, S, rfl, rfl, rfl, .inl (by decide +kernel), .inl (by decide +kernel), by decide +kernel, by decide +kernel, B1, B0⟩, ec := ⟨xga2, xgt2, xe_2, xhd2, xca2, xn, xtk, xmo2⟩, kn := CL.kit_non xhd2 xty2, kv := CL.kit_ve xkv2 },
        fun z => absurd z (by decide),
        fun _ => { mgc := PySem.W.mg_of X Gg n_3, ox := ⟨⟨_, _, _, _, _, _, _, _, _, _, _, _, _, _, _, xo3, xr3⟩, xs3, xe_3, xty3, xkc3⟩, no := xno3, ini := ⟨_, _, _, _, _, _, _, _, _, _, _, _, _, _, _, xi_3, xt, F, S, rfl, rfl, rfl, .inl (by decide +kernel), .inl (by decide +kernel), by decide +kernel, by decide +kernel, B1, B0⟩, ec := ⟨xga3, xgt3, xe_3, xhd3, xca3, xn, xtk, xmo3⟩, kn := CL.kit_non xhd3 xty3, kv := CL.kit_ve xkv3 },
        fun z => absurd z (by decide),
        fun _ => { mgc := PySem.W.mg_of X Gg n_4, ox := ⟨⟨_, _, _, _, _, _, _, _, _, _, _, _, _, _, _, xo4, xr4⟩, xs4, xe_4, xty4, xkc4⟩, no := xno4, ini := ⟨_, _, _, _, _, _, _, _, _, _, _, _, _, _, _, xi_4, xt, F, S, rfl, rfl, rfl, .inl (by decide +kernel), .inl (by decide +kernel), by decide +kernel, by decide +kernel, B1, B0⟩, ec := ⟨xga4, xgt4, xe_4, xhd4, xca4, xn, xtk, xmo4⟩, kn := CL.kit_non xhd4 xty4, kv := CL.kit_ve xkv4 },
        fun z => absurd z (by decide),
        fun _ => { mgc := PySem.W.mg_of X Gg n_5, ox := ⟨⟨_, _, _, _, _, _, _, _, _, _, _, _, _, _, _, xo5, xr5⟩, xs5, xe_5, xty5, xkc5⟩, no := xno5, ini := ⟨_, _, _, _, _, _, _, _, _, _, _, _, _, _, _, xi_5, xt, F, S, rfl, rfl, rfl, .inl (by decide +kernel), .inl (by decide +kernel), by decide +kernel, by decide +kernel, B1, B0⟩, ec := ⟨xga5, xgt5, xe_5, xhd5, xca5, xn, xtk, xmo5⟩, kn := CL.kit_non xhd5 xty5, kv := CL.kit_ve xkv5 },
        fun z => absurd z (by decide),
        fun _ => { mgc := PySem.W.mg_of X Gg n_6, ox := ⟨⟨_, _, _, _, _, _, _, _, _, _, _, _, _, _, _, xo6, xr6⟩, xs6, xe_6, xty6, xkc6⟩, no := xno6, ini := ⟨_, _, _, _, _, _, _, _, _, _, _, _, _, _, _, xi_6, xt, F, S, rfl, rfl, rfl, .inl (by decide +kernel), .inl (by decide +kernel), by decide +kernel, by decide +kernel, B1, B0⟩, ec := ⟨xga6, xgt6, xe_6, xhd6, xca6, xn, xtk, xmo6⟩, kn := CL.kit_non xhd6 xty6, kv := CL.kit_ve xkv6 },
        fun z => absurd z (by decide),
        fun _ => { mgc := PySem.W.mg_of X Gg n_7, ox := ⟨⟨_, _, _, _, _, _, _, _, _, _, _, _, _, _, _, xo7, xr7⟩, xs7, xe_7, xty7, xkc7⟩, no := xno7, ini := ⟨_, _, _, _, _, _, _, _, _, _, _, _, _, _, _, xi_7, xt, F, S, rfl, rfl, rfl, .inl (by decide +kernel), .inl (by decide +kernel), by decide +kernel, by decide +kernel, B1, B0⟩, ec := ⟨xga7, xgt7, xe_7, xhd7, xca7, xn, xtk, xmo7⟩, kn := CL.kit_non xhd7 xty7, kv := CL.kit_ve xkv7 },
        fun z => absurd z (by decide),
        fun _ => { mgc := PySem.W.mg_of X Gg n_8, ox := ⟨⟨_, _, _, _, _, _, _, _, _, _, _, _, _, _, _, xo8, xr8⟩, xs8, xe_8, xty8, xkc8⟩, no := xno8, ini := ⟨_, _, _, _, _, _, _, _, _, _, _, _, _, _, _, xi_8, xt, F, S, rfl, rfl, rfl, .inl (by decide +kernel), .inl (by decide +kernel), by decide +kernel, by decide +kernel, B1, B0⟩, ec := ⟨xga8, xgt8, xe_8, xhd8, xca8, xn, xtk, xmo8⟩, kn := CL.kit_non xhd8 xty8, kv := CL.kit_ve xkv8 },
        fun z => absurd z (by decide), trivial⟩
    case xsub =>
      intro k k' hk hk'
      have h1 := CL.xs_one (l := xss) (n := 1) (m := 8) (by decide) hk
      have h2 := CL.xs_one (l := xss) (n := 1) (m := 8) (by decide) hk'
      refine CL.allP (P := fun k k' => PySem.W.exmOne K (.ref (([C0, C1, C2, C3, C4, C5, C6, C7, C8] : List Addr).getD k 0)) (.ref (([C0, C1, C2, C3, C4, C5, C6, C7, C8] : List Addr).getD k' 0)) = some (xss.contains (k, k'))) (n := 1) (m := 8) ?_ k k' h1 h2
      exact ⟨⟨PySem.W.exm_ref xe_1 xhd1 xty1 xx1_1, PySem.W.exm_ref xe_2 xhd2 xty2 xx1_2, PySem.W.exm_ref xe_3 xhd3 xty3 xx1_3, PySem.W.exm_ref xe_4 xhd4 xty4 xx1_4, PySem.W.exm_ref xe_5 xhd5 xty5 xx1_5, PySem.W.exm_ref xe_6 xhd6 xty6 xx1_6, PySem.W.exm_ref xe_7 xhd7 xty7 xx1_7, PySem.W.exm_ref xe_8 xhd8 xty8 xx1_8, trivial⟩, ⟨PySem.W.exm_ref xe_1 xhd1 xty1 xx2_1, PySem.W.exm_ref xe_2 xhd2 xty2 xx2_2, PySem.W.exm_ref xe_3 xhd3 xty3 xx2_3, PySem.W.exm_ref xe_4 xhd4 xty4 xx2_4, PySem.W.exm_ref xe_5 xhd5 xty5 xx2_5, PySem.W.exm_ref xe_6 xhd6 xty6 xx2_6, PySem.W.exm_ref xe_7 xhd7 xty7 xx2_7, PySem.W.exm_ref xe_8 xhd8 xty8 xx2_8, trivial⟩, ⟨PySem.W.exm_ref xe_1 xhd1 xty1 xx3_1, PySem.W.exm_ref xe_2 xhd2 xty2 xx3_2, PySem.W.exm_ref xe_3 xhd3 xty3 xx3_3, PySem.W.exm_ref xe_4 xhd4 xty4 xx3_4, PySem.W.exm_ref xe_5 xhd5 xty5 xx3_5, PySem.W.exm_ref xe_6 xhd6 xty6 xx3_6, PySem.W.exm_ref xe_7 xhd7 xty7 xx3_7, PySem.W.exm_ref xe_8 xhd8 xty8 xx3_8, trivial⟩, ⟨PySem.W.exm_ref xe_1 xhd1 xty1 xx4_1, PySem.W.exm_ref xe_2 xhd2 xty2 xx4_2, PySem.W.exm_ref xe_3 xhd3 xty3 xx4_3, PySem.W.exm_ref xe_4 xhd4 xty4 xx4_4, PySem.W.exm_ref xe_5 xhd5 xty5 xx4_5, PySem.W.exm_ref xe_6 xhd6 xty6 xx4_6, PySem.W.exm_ref xe_7 xhd7 xty7 xx4_7, PySem.W.exm_ref xe_8 xhd8 xty8 xx4_8, trivial⟩, ⟨PySem.W.exm_ref xe_1 xhd1 xty1 xx5_1, PySem.W.exm_ref xe_2 xhd2 xty2 xx5_2, PySem.W.exm_ref xe_3 xhd3 xty3 xx5_3, PySem.W.exm_ref xe_4 xhd4 xty4 xx5_4, PySem.W.exm_ref xe_5 xhd5 xty5 xx5_5, PySem.W.exm_ref xe_6 xhd6 xty6 xx5_6, PySem.W.exm_ref xe_7 xhd7 xty7 xx5_7, PySem.W.exm_ref xe_8 xhd8 xty8 xx5_8, trivial⟩, ⟨PySem.W.exm_ref xe_1 xhd1 xty1 xx6_1, PySem.W.exm_ref xe_2 xhd2 xty2 xx6_2, PySem.W.exm_ref xe_3 xhd3 xty3 xx6_3, PySem.W.exm_ref xe_4 xhd4 xty4 xx6_4, PySem.W.exm_ref xe_5 xhd5 xty5 xx6_5, PySem.W.exm_ref xe_6 xhd6 xty6 xx6_6, PySem.W.exm_ref xe_7 xhd7 xty7 xx6_7, PySem.W.exm_ref xe_8 xhd8 xty8 xx6_8, trivial⟩, ⟨PySem.W.exm_ref xe_1 xhd1 xty1 xx7_1, PySem.W.exm_ref xe_2 xhd2 xty2 xx7_2, PySem.W.exm_ref xe_3 xhd3 xty3 xx7_3, PySem.W.exm_ref xe_4 xhd4 xty4 xx7_4, PySem.W.exm_ref xe_5 xhd5 xty5 xx7_5, PySem.W.exm_ref xe_6 xhd6 xty6 xx7_6, PySem.W.exm_ref xe_7 xhd7 xty7 xx7_7, PySem.W.exm_ref xe_8 xhd8 xty8 xx7_8, trivial⟩, ⟨PySem.W.exm_ref xe_1 xhd1 xty1 xx8_1, PySem.W.exm_ref xe_2 xhd2 xty2 xx8_2, PySem.W.exm_ref xe_3 xhd3 xty3 xx8_3, PySem.W.exm_ref xe_4 xhd4 xty4 xx8_4, PySem.W.exm_ref xe_5 xhd5 xty5 xx8_5, PySem.W.exm_ref xe_6 xhd6 xty6 xx8_6, PySem.W.exm_ref xe_7 xhd7 xty7 xx8_7, PySem.W.exm_ref xe_8 xhd8 xty8 xx8_8, trivial⟩, trivial⟩
    case xis =>
      intro k k' hk hk'
      have h1 := CL.xs_one (l := xss) (n := 1) (m := 8) (by decide) hk
      have h2 := CL.xs_one (l := xss) (n := 1) (m := 8) (by decide) hk'
      refine CL.allP (P := fun k k' => PySem.W.kitOne K (.ref (([C0, C1, C2, C3, C4, C5, C6, C7, C8] : List Addr).getD k 0)) (.ref (([C0, C1, C2, C3, C4, C5, C6, C7, C8] : List Addr).getD k' 0)) = some (xss.contains (k, k'))) (n := 1) (m := 8) ?_ k k' h1 h2
      exact ⟨⟨CL.kit_ref xhd1 xty1 xx1_1 xx1_1, CL.kit_ref xhd2 xty2 xx1_1 xx1_2, CL.kit_ref xhd3 xty3 xx1_1 xx1_3, CL.kit_ref xhd4 xty4 xx1_1 xx1_4, CL.kit_ref xhd5 xty5 xx1_1 xx1_5, CL.kit_ref xhd6 xty6 xx1_1 xx1_6, CL.kit_ref xhd7 xty7 xx1_1 xx1_7, CL.kit_ref xhd8 xty8 xx1_1 xx1_8, trivial⟩, ⟨CL.kit_ref xhd1 xty1 xx2_2 xx2_1, CL.kit_ref xhd2 xty2 xx2_2 xx2_2, CL.kit_ref xhd3 xty3 xx2_2 xx2_3, CL.kit_ref xhd4 xty4 xx2_2 xx2_4, CL.kit_ref xhd5 xty5 xx2_2 xx2_5, CL.kit_ref xhd6 xty6 xx2_2 xx2_6, CL.kit_ref xhd7 xty7 xx2_2 xx2_7, CL.kit_ref xhd8 xty8 xx2_2 xx2_8, trivial⟩, ⟨CL.kit_ref xhd1 xty1 xx3_3 xx3_1, CL.kit_ref xhd2 xty2 xx3_3 xx3_2, CL.kit_ref xhd3 xty3 xx3_3 xx3_3, CL.kit_ref xhd4 xty4 xx3_3 xx3_4, CL.kit_ref xhd5 xty5 xx3_3 xx3_5, CL.kit_ref xhd6 xty6 xx3_3 xx3_6, CL.kit_ref xhd7 xty7 xx3_3 xx3_7, CL.kit_ref xhd8 xty8 xx3_3 xx3_8, trivial⟩, ⟨CL.kit_ref xhd1 xty1 xx4_4 xx4_1, CL.kit_ref xhd2 xty2 xx4_4 xx4_2, CL.kit_ref xhd3 xty3 xx4_4 xx4_3, CL.kit_ref xhd4 xty4 xx4_4 xx4_4, CL.kit_ref xhd5 xty5 xx4_4 xx4_5, CL.kit_ref xhd6 xty6 xx4_4 xx4_6, CL.kit_ref xhd7 xty7 xx4_4 xx4_7, CL.kit_ref xhd8 xty8 xx4_4 xx4_8, trivial⟩, ⟨CL.kit_ref xhd1 xty1 xx5_5 xx5_1, CL.kit_ref xhd2 xty2 xx5_5 xx5_2, CL.kit_ref xhd3 xty3 xx5_5 xx5_3, CL.kit_ref xhd4 xty4 xx5_5 xx5_4, CL.kit_ref xhd5 xty5 xx5_5 xx5_5, CL.kit_ref xhd6 xty6 xx5_5 xx5_6, CL.kit_ref xhd7 xty7 xx5_5 xx5_7, CL.kit_ref xhd8 xty8 xx5_5 xx5_8, trivial⟩, ⟨CL.kit_ref xhd1 xty1 xx6_6 xx6_1, CL.kit_ref xhd2 xty2 xx6_6 xx6_2, CL.kit_ref xhd3 xty3 xx6_6 xx6_3, CL.kit_ref xhd4 xty4 xx6_6 xx6_4, CL.kit_ref xhd5 xty5 xx6_6 xx6_5, CL.kit_ref xhd6 xty6 xx6_6 xx6_6, CL.kit_ref xhd7 xty7 xx6_6 xx6_7, CL.kit_ref xhd8 xty8 xx6_6 xx6_8, trivial⟩, ⟨CL.kit_ref xhd1 xty1 xx7_7 xx7_1, CL.kit_ref xhd2 xty2 xx7_7 xx7_2, CL.kit_ref xhd3 xty3 xx7_7 xx7_3, CL.kit_ref xhd4 xty4 xx7_7 xx7_4, CL.kit_ref xhd5 xty5 xx7_7 xx7_5, CL.kit_ref xhd6 xty6 xx7_7 xx7_6, CL.kit_ref xhd7 xty7 xx7_7 xx7_7, CL.kit_ref xhd8 xty8 xx7_7 xx7_8, trivial⟩, ⟨CL.kit_ref xhd1 xty1 xx8_8 xx8_1, CL.kit_ref xhd2 xty2 xx8_8 xx8_2, CL.kit_ref xhd3 xty3 xx8_8 xx8_3, CL.kit_ref xhd4 xty4 xx8_8 xx8_4, CL.kit_ref xhd5 xty5 xx8_8 xx8_5, CL.kit_ref xhd6 xty6 xx8_8 xx8_6, CL.kit_ref xhd7 xty7 xx8_8 xx8_7, CL.kit_ref xhd8 xty8 xx8_8 xx8_8, trivial⟩, trivial⟩
end LK03
open PySem PySem.W PyProof.Rows
set_option maxRecDepth 100000 in
set_option maxHeartbeats 0 in
theorem PySem.Challenge.cw_chainwright_k03_kinds_read_holds : PySem.Challenge.rw_chainwright_k03_kinds_read.Holds := by
  w_on; o_law; k_head; (case hw => w_witness2)
  k_fill
  refine CL.law_walk (l := PySem.Challenge.rw_chainwright_k03_kinds_read) (n := 63) (x := "_law_script") (k := LK03.depth) LK03.G LK03.fuel LK03.f_law LK03.d_law rfl rfl (by decide) rfl ⟨rfl, by decide, by decide⟩ (fun w h Y => PySem.W.kIn_of Y) LK03.runs ?F
  case F =>
    intro w mg fa h KX Gg hmg
    refine' LK03.all_mk KX Gg hmg ?xxn_0 ?xxn_1 ?xxn_2 ?xxn_3 ?xxn_4 ?xxn_5 ?xxn_6 ?xxn_7 ?xxn_8 ?xxm0 ?xxl0 ?xxc0 ?xxk0 ?xxm1 ?xxl1 ?xxc1 ?xxk1 ?xxm2 ?xxl2 ?xxc2 ?xxk2 ?xxm3 ?xxi3 ?xxl3 ?xxc3 ?xxk3 ?xxm4 ?xxi4 ?xxl4 ?xxc4 ?xxk4 ?xxm5 ?xxi5 ?xxl5 ?xxc5 ?xxk5 ?xxm6 ?xxi6 ?xxl6 ?xxc6 ?xxk6 ?xxm7 ?xxi7 ?xxl7 ?xxc7 ?xxk7 ?xxm8 ?xxi8 ?xxl8 ?xxc8 ?xxk8 ?xxm9 ?xxl9 ?xxc9 ?xxk9 ?xxm10 ?xxl10 ?xxc10 ?xxk10 ?xxm11 ?xxl11 ?xxc11 ?xxk11 ?xxm12 ?xxl12 ?xxc12 ?xxk12 ?xxm13 ?xxl13 ?xxc13 ?xxk13 ?xxm14 ?xxl14 ?xxc14 ?xxk14 ?xxm15 ?xxl15 ?xxc15 ?xxk15 ?xxm16 ?xxl16 ?xxc16 ?xxk16 ?xxm17 ?xxl17 ?xxc17 ?xxk17 ?xxm18 ?xxl18 ?xxc18 ?xxk18 ?xxm19 ?xxl19 ?xxc19 ?xxk19 ?xxm20 ?xxl20 ?xxc20 ?xxk20 ?xxm21 ?xxl21 ?xxc21 ?xxk21 ?xxm22 ?xxl22 ?xxc22 ?xxk22 ?xxm23 ?xxl23 ?xxc23 ?xxk23 ?xxm24 ?xxl24 ?xxc24 ?xxk24 ?xxm25 ?xxl25 ?xxc25 ?xxk25 ?xxm26 ?xxl26 ?xxc26 ?xxk26 ?xxz_ValueError ?xxz_divmod ?xxz_len ?xxz_abs ?xxz_list ?xxz_tuple ?xxz_int ?xxz_any ?xxz_all ?xxz_min ?xxz_max ?xxz_isinstance ?xxz_bool ?xxz_str ?xxz_dict ?xxz_range ?xxz_enumerate ?xxz_zip ?xxz_sorted ?xxz_set ?xxg0 ?xxg1 ?xxgl1 ?xxg2 ?xxxi0 ?xxxl ?xxxd ?xxxk ?xxxt ?xxxT ?xxxn ?xxxtk ?xxxo1 ?xxxr1 ?xxxs1 ?xxxe_1 ?xxxty1 ?xxxkc1 ?xxxno1 ?xxxga1 ?xxxgt1 ?xxxhd1 ?xxxca1 ?xxxmo1 ?xxxkv1 ?xxxx1_1 ?xxxx1_2 ?xxxx1_3 ?xxxx1_4 ?xxxx1_5 ?xxxx1_6 ?xxxx1_7 ?xxxx1_8 ?xxxo2 ?xxxr2 ?xxxs2 ?xxxe_2 ?xxxty2 ?xxxkc2 ?xxxno2 ?xxxi_2 ?xxxga2 ?xxxgt2 ?xxxhd2 ?xxxca2 ?xxxmo2 ?xxxkv2 ?xxxx2_1 ?xxxx2_2 ?xxxx2_3 ?xxxx2_4 ?xxxx2_5 ?xxxx2_6 ?xxxx2_7 ?xxxx2_8 ?xxxo3 ?xxxr3 ?xxxs3 ?xxxe_3 ?xxxty3 ?xxxkc3 ?xxxno3 ?xxxi_3 ?xxxga3 ?xxxgt3 ?xxxhd3 ?xxxca3 ?xxxmo3 ?xxxkv3 ?xxxx3_1 ?xxxx3_2 ?xxxx3_3 ?xxxx3_4 ?xxxx3_5 ?xxxx3_6 ?xxxx3_7 ?xxxx3_8 ?xxxo4 ?xxxr4 ?xxxs4 ?xxxe_4 ?xxxty4 ?xxxkc4 ?xxxno4 ?xxxi_4 ?xxxga4 ?xxxgt4 ?xxxhd4 ?xxxca4 ?xxxmo4 ?xxxkv4 ?xxxx4_1 ?xxxx4_2 ?xxxx4_3 ?xxxx4_4 ?xxxx4_5 ?xxxx4_6 ?xxxx4_7 ?xxxx4_8 ?xxxo5 ?xxxr5 ?xxxs5 ?xxxe_5 ?xxxty5 ?xxxkc5 ?xxxno5 ?xxxi_5 ?xxxga5 ?xxxgt5 ?xxxhd5 ?xxxca5 ?xxxmo5 ?xxxkv5 ?xxxx5_1 ?xxxx5_2 ?xxxx5_3 ?xxxx5_4 ?xxxx5_5 ?xxxx5_6 ?xxxx5_7 ?xxxx5_8 ?xxxo6 ?xxxr6 ?xxxs6 ?xxxe_6 ?xxxty6 ?xxxkc6 ?xxxno6 ?xxxi_6 ?xxxga6 ?xxxgt6 ?xxxhd6 ?xxxca6 ?xxxmo6 ?xxxkv6 ?xxxx6_1 ?xxxx6_2 ?xxxx6_3 ?xxxx6_4 ?xxxx6_5 ?xxxx6_6 ?xxxx6_7 ?xxxx6_8 ?xxxo7 ?xxxr7 ?xxxs7 ?xxxe_7 ?xxxty7 ?xxxkc7 ?xxxno7 ?xxxi_7 ?xxxga7 ?xxxgt7 ?xxxhd7 ?xxxca7 ?xxxmo7 ?xxxkv7 ?xxxx7_1 ?xxxx7_2 ?xxxx7_3 ?xxxx7_4 ?xxxx7_5 ?xxxx7_6 ?xxxx7_7 ?xxxx7_8 ?xxxo8 ?xxxr8 ?xxxs8 ?xxxe_8 ?xxxty8 ?xxxkc8 ?xxxno8 ?xxxi_8 ?xxxga8 ?xxxgt8 ?xxxhd8 ?xxxca8 ?xxxmo8 ?xxxkv8 ?xxxx8_1 ?xxxx8_2 ?xxxx8_3 ?xxxx8_4 ?xxxx8_5 ?xxxx8_6 ?xxxx8_7 ?xxxx8_8 ?xxpg0 ?xxhd0 ?xxpo0 ?xxsa0 ?xxmk0 ?xxkc0 ?xxna0_at ?xxna0_line ?xxna0_words
    (case xxn_0 => k_is); (case xxn_1 => k_is); (case xxn_2 => k_is); (case xxn_3 => k_is); (case xxn_4 => k_is); (case xxn_5 => k_is)
    (case xxn_6 => k_is); (case xxn_7 => k_is); (case xxn_8 => k_is); (case xxm0 => k_is); (case xxl0 => k_is); (case xxc0 => k_is)
    (case xxk0 => k_is); (case xxm1 => k_is); (case xxl1 => k_is); (case xxc1 => k_is); (case xxk1 => k_is); (case xxm2 => k_is)
    (case xxl2 => k_is); (case xxc2 => k_is); (case xxk2 => k_is); (case xxm3 => k_is); (case xxi3 => k_is); (case xxl3 => k_is)
    (case xxc3 => k_is); (case xxk3 => k_is); (case xxm4 => k_is); (case xxi4 => k_is); (case xxl4 => k_is); (case xxc4 => k_is)
    (case xxk4 => k_is); (case xxm5 => k_is); (case xxi5 => k_is); (case xxl5 => k_is); (case xxc5 => k_is); (case xxk5 => k_is)
    (case xxm6 => k_is); (case xxi6 => k_is); (case xxl6 => k_is); (case xxc6 => k_is); (case xxk6 => k_is); (case xxm7 => k_is)
    (case xxi7 => k_is); (case xxl7 => k_is); (case xxc7 => k_is); (case xxk7 => k_is); (case xxm8 => k_is); (case xxi8 => k_is)
    (case xxl8 => k_is); (case xxc8 => k_is); (case xxk8 => k_is); (case xxm9 => k_is); (case xxl9 => k_is); (case xxc9 => k_is)
    (case xxk9 => k_is); (case xxm10 => k_is); (case xxl10 => k_is); (case xxc10 => k_is); (case xxk10 => k_is); (case xxm11 => k_is)
    (case xxl11 => k_is); (case xxc11 => k_is); (case xxk11 => k_is); (case xxm12 => k_is); (case xxl12 => k_is); (case xxc12 => k_is)
    (case xxk12 => k_is); (case xxm13 => k_is); (case xxl13 => k_is); (case xxc13 => k_is); (case xxk13 => k_is); (case xxm14 => k_is)
    (case xxl14 => k_is); (case xxc14 => k_is); (case xxk14 => k_is); (case xxm15 => k_is); (case xxl15 => k_is); (case xxc15 => k_is)
    (case xxk15 => k_is); (case xxm16 => k_is); (case xxl16 => k_is); (case xxc16 => k_is); (case xxk16 => k_is); (case xxm17 => k_is)
    (case xxl17 => k_is); (case xxc17 => k_is); (case xxk17 => k_is); (case xxm18 => k_is); (case xxl18 => k_is); (case xxc18 => k_is)
    (case xxk18 => k_is); (case xxm19 => k_is); (case xxl19 => k_is); (case xxc19 => k_is); (case xxk19 => k_is); (case xxm20 => k_is)
    (case xxl20 => k_is); (case xxc20 => k_is); (case xxk20 => k_is); (case xxm21 => k_is); (case xxl21 => k_is); (case xxc21 => k_is)
    (case xxk21 => k_is); (case xxm22 => k_is); (case xxl22 => k_is); (case xxc22 => k_is); (case xxk22 => k_is); (case xxm23 => k_is)
    (case xxl23 => k_is); (case xxc23 => k_is); (case xxk23 => k_is); (case xxm24 => k_is); (case xxl24 => k_is); (case xxc24 => k_is)
    (case xxk24 => k_is); (case xxm25 => k_is); (case xxl25 => k_is); (case xxc25 => k_is); (case xxk25 => k_is); (case xxm26 => k_is)
    (case xxl26 => k_is); (case xxc26 => k_is); (case xxk26 => k_is); (case xxz_ValueError => k_is); (case xxz_divmod => k_is); (case xxz_len => k_is)
    (case xxz_abs => k_is); (case xxz_list => k_is); (case xxz_tuple => k_is); (case xxz_int => k_is); (case xxz_any => k_is); (case xxz_all => k_is)
    (case xxz_min => k_is); (case xxz_max => k_is); (case xxz_isinstance => k_is); (case xxz_bool => k_is); (case xxz_str => k_is); (case xxz_dict => k_is)
    (case xxz_range => k_is); (case xxz_enumerate => k_is); (case xxz_zip => k_is); (case xxz_sorted => k_is); (case xxz_set => k_is); (case xxg0 => k_is)
    (case xxg1 => k_is); (case xxgl1 => k_is); (case xxg2 => k_is); (case xxxi0 => k_is); (case xxxl => k_is); (case xxxd => k_is)
    (case xxxk => k_is); (case xxxt => k_is); (case xxxT => k_is); (case xxxn => k_is); (case xxxtk => k_is); (case xxxo1 => k_is)
    (case xxxr1 => first | exact rfl | decide +kernel); (case xxxs1 => k_is); (case xxxe_1 => k_is); (case xxxty1 => k_is); (case xxxkc1 => k_is); (case xxxno1 => k_is)
    (case xxxga1 => k_is); (case xxxgt1 => k_is); (case xxxhd1 => k_is); (case xxxca1 => k_is); (case xxxmo1 => k_is); (case xxxkv1 => k_is)
    (case xxxx1_1 => k_is); (case xxxx1_2 => k_is); (case xxxx1_3 => k_is); (case xxxx1_4 => k_is); (case xxxx1_5 => k_is); (case xxxx1_6 => k_is)
    (case xxxx1_7 => k_is); (case xxxx1_8 => k_is); (case xxxo2 => k_is); (case xxxr2 => first | exact rfl | decide +kernel); (case xxxs2 => k_is); (case xxxe_2 => k_is)
    (case xxxty2 => k_is); (case xxxkc2 => k_is); (case xxxno2 => k_is); (case xxxi_2 => k_is); (case xxxga2 => k_is); (case xxxgt2 => k_is)
    (case xxxhd2 => k_is); (case xxxca2 => k_is); (case xxxmo2 => k_is); (case xxxkv2 => k_is); (case xxxx2_1 => k_is); (case xxxx2_2 => k_is)
    (case xxxx2_3 => k_is); (case xxxx2_4 => k_is); (case xxxx2_5 => k_is); (case xxxx2_6 => k_is); (case xxxx2_7 => k_is); (case xxxx2_8 => k_is)
    (case xxxo3 => k_is); (case xxxr3 => first | exact rfl | decide +kernel); (case xxxs3 => k_is); (case xxxe_3 => k_is); (case xxxty3 => k_is); (case xxxkc3 => k_is)
    (case xxxno3 => k_is); (case xxxi_3 => k_is); (case xxxga3 => k_is); (case xxxgt3 => k_is); (case xxxhd3 => k_is); (case xxxca3 => k_is)
    (case xxxmo3 => k_is); (case xxxkv3 => k_is); (case xxxx3_1 => k_is); (case xxxx3_2 => k_is); (case xxxx3_3 => k_is); (case xxxx3_4 => k_is)
    (case xxxx3_5 => k_is); (case xxxx3_6 => k_is); (case xxxx3_7 => k_is); (case xxxx3_8 => k_is); (case xxxo4 => k_is); (case xxxr4 => first | exact rfl | decide +kernel)
    (case xxxs4 => k_is); (case xxxe_4 => k_is); (case xxxty4 => k_is); (case xxxkc4 => k_is); (case xxxno4 => k_is); (case xxxi_4 => k_is)
    (case xxxga4 => k_is); (case xxxgt4 => k_is); (case xxxhd4 => k_is); (case xxxca4 => k_is); (case xxxmo4 => k_is); (case xxxkv4 => k_is)
    (case xxxx4_1 => k_is); (case xxxx4_2 => k_is); (case xxxx4_3 => k_is); (case xxxx4_4 => k_is); (case xxxx4_5 => k_is); (case xxxx4_6 => k_is)
    (case xxxx4_7 => k_is); (case xxxx4_8 => k_is); (case xxxo5 => k_is); (case xxxr5 => first | exact rfl | decide +kernel); (case xxxs5 => k_is); (case xxxe_5 => k_is)
    (case xxxty5 => k_is); (case xxxkc5 => k_is); (case xxxno5 => k_is); (case xxxi_5 => k_is); (case xxxga5 => k_is); (case xxxgt5 => k_is)
    (case xxxhd5 => k_is); (case xxxca5 => k_is); (case xxxmo5 => k_is); (case xxxkv5 => k_is); (case xxxx5_1 => k_is); (case xxxx5_2 => k_is)
    (case xxxx5_3 => k_is); (case xxxx5_4 => k_is); (case xxxx5_5 => k_is); (case xxxx5_6 => k_is); (case xxxx5_7 => k_is); (case xxxx5_8 => k_is)
    (case xxxo6 => k_is); (case xxxr6 => first | exact rfl | decide +kernel); (case xxxs6 => k_is); (case xxxe_6 => k_is); (case xxxty6 => k_is); (case xxxkc6 => k_is)
    (case xxxno6 => k_is); (case xxxi_6 => k_is); (case xxxga6 => k_is); (case xxxgt6 => k_is); (case xxxhd6 => k_is); (case xxxca6 => k_is)
    (case xxxmo6 => k_is); (case xxxkv6 => k_is); (case xxxx6_1 => k_is); (case xxxx6_2 => k_is); (case xxxx6_3 => k_is); (case xxxx6_4 => k_is)
    (case xxxx6_5 => k_is); (case xxxx6_6 => k_is); (case xxxx6_7 => k_is); (case xxxx6_8 => k_is); (case xxxo7 => k_is); (case xxxr7 => first | exact rfl | decide +kernel)
    (case xxxs7 => k_is); (case xxxe_7 => k_is); (case xxxty7 => k_is); (case xxxkc7 => k_is); (case xxxno7 => k_is); (case xxxi_7 => k_is)
    (case xxxga7 => k_is); (case xxxgt7 => k_is); (case xxxhd7 => k_is); (case xxxca7 => k_is); (case xxxmo7 => k_is); (case xxxkv7 => k_is)
    (case xxxx7_1 => k_is); (case xxxx7_2 => k_is); (case xxxx7_3 => k_is); (case xxxx7_4 => k_is); (case xxxx7_5 => k_is); (case xxxx7_6 => k_is)
    (case xxxx7_7 => k_is); (case xxxx7_8 => k_is); (case xxxo8 => k_is); (case xxxr8 => first | exact rfl | decide +kernel); (case xxxs8 => k_is); (case xxxe_8 => k_is)
    (case xxxty8 => k_is); (case xxxkc8 => k_is); (case xxxno8 => k_is); (case xxxi_8 => k_is); (case xxxga8 => k_is); (case xxxgt8 => k_is)
    (case xxxhd8 => k_is); (case xxxca8 => k_is); (case xxxmo8 => k_is); (case xxxkv8 => k_is); (case xxxx8_1 => k_is); (case xxxx8_2 => k_is)
    (case xxxx8_3 => k_is); (case xxxx8_4 => k_is); (case xxxx8_5 => k_is); (case xxxx8_6 => k_is); (case xxxx8_7 => k_is); (case xxxx8_8 => k_is)
    (case xxpg0 => k_is); (case xxhd0 => k_is); (case xxpo0 => k_is); (case xxsa0 => k_is); (case xxmk0 => k_is); (case xxkc0 => k_is)
    (case xxna0_at => k_is); (case xxna0_line => k_is); (case xxna0_words => k_is)
